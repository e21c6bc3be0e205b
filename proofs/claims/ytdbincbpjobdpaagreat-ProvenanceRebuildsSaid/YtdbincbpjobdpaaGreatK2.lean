import Derived.Test.YtdbincbpjobdpaaGreatK1
import Derived.Laws.IdiomRangeMap
noncomputable section
set_option linter.all false
set_option maxHeartbeats 1000000
open Option renaming some->δ,none->ε,bind->σ
open Bool renaming true->ζ,false->η
open List renaming length->θ,replicate->ς
open Sum renaming elim->ν
open Nat renaming beq->ξ
open Int renaming toNat->ο
open Decidable renaming decide->τ
namespace Go.Ab
def Xz:Ψ Bw->Nat->Ω (Ψ Bw×Ψ Bw)
 |ls,0=>δ ([],ls)
 |[],_+1=>ε
 |x::r,n+1=>
  match Nat.ble x.w (n+1)with
  |true=>match Xz r (n+1-x.w)with|some (a,b)=>δ (x::a,b)|none=>ε
  |false=>ε
mutual
def Ty.lvs:(t:Ty)->t.D->Ψ Bw
 |.bool,b=>[.bl b]
 |.int k,n=>[.it k n]
 |.str,s=>[.st s]
 |.list t,l=>[.ls t l]
 |.arr n t,a=>[.ar n t a]
 |.prod ts,x=>ts.lvs x
def Sr.lvs:(ts:Sr)->ts.D->Ψ Bw
 |.one t,x=>t.lvs x
 |.cons t ts,x=>t.lvs x.1++ts.lvs x.2
end
def Bw.scalar:Bw->Bool
 |.ar .. =>η
 |.raw (.agg _)=>η
 |_=>ζ
def part(P:Program)(t:TypeId)(cs:Ψ Bw)(off:Nat):Ω TV:=
 match Xz cs off with
 |some (_,r)=>
  match tI P t with
  |some (ζ,n)=>match Xz r n with|some (a,_)=>δ (.g a)|none=>ε
  |some (η,_)=>match r with|x::_=>(match x.scalar with|true=>δ (.c x)|false=>ε)|[]=>ε
  |none=>ε
 |none=>ε
section
variable {R:Type}
def okT(o:Ω TV)(k:TV->Ω R):Ω R:=
 match o with
 |some v=>k v
 |none=>ε
def AES(cs:Ψ Bw)(base n:Nat)(t:Ty):Ω (GG (n+1) t.D):=
 match Xz cs base with
 |some (_,.ar n' t' a::_)=>if h:(Ty.arr n' t').beq (Ty.arr n t)=ζ then δ (Ty.cast h a)else ε
 |_=>ε
def Yx(H:As)(id ver:Nat)(t:Ty):Ω (Ψ t.D):=
 match H[id]? with
 |some (.buf _ t' l _ ver')=>match ξ ver ver' with|true=>(if h:(Ty.list t').beq (Ty.list t)=ζ then δ (Ty.cast h l)else ε)|false=>ε
 |_=>ε
def Xy(H:As)(id:Nat):Ω (Ψ Bw):=
 match H[id]? with
 |some (.live _ cs)=>δ cs
 |_=>ε
def loadT(P:Program)(H:As)(t:TypeId)(v:TV)(k:TV->Ω R):Ω R:=
 match v with
 |.c (.raw (.ptr id 0 off))=>match Xy H id with|some cs=>okT (part P t cs off) k|none=>ε
 |.vptr cs _=>okT (part P t cs 0) k
 |.aptr id base n te i off=>
  match Xy H id with
  |some cs=>match AES cs base n te with|some a=>(Gy a i).bind λe=>okT (part P t (te.lvs e) off) k|none=>ε
  |none=>ε
 |.bptr id ver te _ i off=>match Yx H id ver te with|some l=>(ix l i).bind λe=>okT (part P t (te.lvs e) off) k|none=>ε
 |_=>ε
def tvA:Ad->TV
 |.bool b=>.c (.bl b)
 |.int k n=>.c (.it k n)
 |.str s=>.c (.st s)
 |v=>.c (.raw v)
def okA(o:Ω Ad)(k:TV->Ω R):Ω R:=
 match o with
 |some v=>k (tvA v)
 |none=>ε
def eqT(as bs:Ψ Bw):Bool:=vu (lvs as) (lvs bs)
def AIu(P:Program)(op:BinOp)(t:TypeId)(x y:TV)(k:TV->Ω R):Ω R:=
 match x,y with
 |.c (.it kx a),.c (.it ky b)=>
  match op with
  |.shl=>cond (τ (b<0)) ε (k (.c (.it kx (kx.wrap (a*2^min b.toNat kx.bits)))))
  |.shr=>cond (τ (b<0)) ε (k (.c (.it kx (a.fdiv (2^min b.toNat kx.bits)))))
  |.quo=>if kx=ky then cond (b==0) ε (k (.c (.it kx (kx.wrap (a.tdiv b)))))else ε
  |.rem=>if kx=ky then cond (b==0) ε (k (.c (.it kx (a.tmod b))))else ε
  |op=>if kx=ky then okA (qQ op kx a b) k else ε
 |.c (.bl a),.c (.bl b)=>
  match op with
  |.eql=>if kd P t=.bool then k (.c (.bl (a==b)))else ε
  |.neq=>if kd P t=.bool then k (.c (.bl (!(a==b))))else ε
  |_=>ε
 |.c (.st a),.c (.st b)=>
  match op with
  |.add=>(sapp a b).bind λs=>k (.c (.st s))
  |op=>okA (xm op a b) k
 |.g as,.g bs=>
  match AEe P t with
  |some ks=>
   if typed ks (lvs as)=ζ/\typed ks (lvs bs)=ζ then
    match op with
    |.eql=>k (.c (.bl (eqT as bs)))
    |.neq=>k (.c (.bl (!eqT as bs)))
    |_=>ε
   else ε
  |none=>ε
 |_,_=>ε
def unT(op:UnOp)(v:TV)(k:TV->Ω R):Ω R:=
 match v with
 |.c x=>okA (unV op x.one) k
 |_=>ε
def AEk(P:Program)(H:As)(src dst:TypeId)(v:TV)(k:TV->Ω R):Ω R:=
 match v with
 |.c (.ls (.int .u8) l)=>if kd P dst=.str/\kd P src=.bytes then k (.c (.st (E5 l)))else ε
 |.c (.own id ver (.int .u8) _)=>if kd P dst=.str/\kd P src=.bytes then(match Yx H id ver (.int .u8)with|some l=>k (.c (.st (E5 l)))|none=>ε)else ε
 |.c (.it kk n)=>okA (X4 P [] src dst (.int kk n)) k
 |.c (.st s)=>okA (X4 P [] src dst (.str s)) k
 |_=>ε
def oE(P:Program)(H:As)(s f:Nat)(v:TV)(k:TV->Ω R):Ω R:=
 match fI P s f with
 |some (off,_,n)=>
  match ξ n 0 with
  |true=>ε
  |false=>
   match v with
   |.c (.raw (.ptr id 0 o))=>match Xy H id with|some _=>k (.c (.raw (.ptr id 0 (o+off))))|none=>ε
   |.vptr cs post=>match Xz cs off with|some (_,r)=>k (.vptr r post)|none=>ε
   |.aptr id base n te i o=>match Xy H id with|some _=>k (.aptr id base n te i (o+off))|none=>ε
   |.bptr id ver te n i o=>match Yx H id ver te with|some _=>k (.bptr id ver te n i (o+off))|none=>ε
   |_=>ε
 |none=>ε
def ABD(P:Program)(s f:Nat)(v:TV)(k:TV->Ω R):Ω R:=
 match fI P s f,v with
 |some (off,t,_),.g cs=>okT (part P t cs off) k
 |_,_=>ε
def oI(P:Program)(H:As)(t:TypeId)(v i:TV)(k:TV->Ω R):Ω R:=
 match i with
 |.c (.it _ i)=>
  match eI P t with
  |some (δ len,_,sz)=>
   match v with
   |.c (.raw (.ptr id 0 off))=>
    match Xy H id with
    |some cs=>
     match Xz cs off with
     |some (_,.ar n te a::_)=>if len=n+1/\sz=te.sz then(Gy a i).bind λ_=>k (.aptr id off n te i 0)else ε
     |_=>ε
    |none=>ε
   |.vptr (.ar n te a::r) post=>if len=n+1/\sz=te.sz then(Gy a i).bind λe=>k (.vptr (te.lvs e) ((((Ty.arr n te).enc a).cells.drop (i.toNat*te.sz+te.sz))++(lvs r++post)))else ε
   |_=>ε
  |some (ε,_,sz)=>
   match v with
   |.c (.ls te l)=>if sz=te.sz then(ix l i).bind λe=>k (.vptr (te.lvs e) [])else ε
   |.c (.own id ver te n)=>match Yx H id ver te with|some l=>(if sz=te.sz then(ix l i).bind λ_=>k (.bptr id ver te n i 0)else ε)|none=>ε
   |.vw id ver te n lo m=>match Yx H id ver te with|some l=>(if sz=te.sz then(ix ((l.drop lo).take m) i).bind λ_=>k (.bptr id ver te n ((lo:Int)+i) 0)else ε)|none=>ε
   |_=>ε
  |none=>ε
 |_=>ε
def xq(P:Program)(e:TypeId)(sz:Nat)(cs:Ψ Bw)(i:Int)(k:TV->Ω R):Nat->Nat->Ω R
 |0,_=>ε
 |m+1,j=>cond (τ (i=Int.ofNat j)) (okT (part P e cs (j*sz)) k) (xq P e sz cs i k m (j+1))
def ABI(P:Program)(t:TypeId)(v i:TV)(k:TV->Ω R):Ω R:=
 match i with
 |.c (.it _ i)=>
  match v with
  |.g [.ar n te a]=>
   match eI P t with
   |some (δ len,e,sz)=>if len=n+1/\sz=te.sz then(Gy a i).bind λx=>okT (part P e (te.lvs x) 0) k else ε
   |_=>ε
  |.g cs=>
   match eI P t with
   |some (δ len,e,sz)=>match Nat.ble len 16 with|true=>xq P e sz cs i k len 0|false=>ε
   |_=>ε
  |.c (.st s)=>if kd P t=.str then(six s i).bind λb=>k (.c (.it .u8 b))else ε
  |_=>ε
 |_=>ε
def zN(d:Int):Ω TV->Ω Int
 |none=>δ d
 |some (.c (.it _ n))=>δ n
 |_=>ε
def ABu(P:Program)(H:As)(t:TypeId)(v:TV)(lo hi mx:Ω TV)(k:TV->Ω R):Ω R:=
 match mx with
 |some _=>ε
 |none=>
  match v with
  |.c (.st s)=>
   match zN 0 lo,zN (θ s) hi with
   |some l,δ h=>if kd P t=.str then(R3 s l h).bind λx=>k (.c (.st x))else ε
   |_,_=>ε
  |.c (.ls te xs)=>
   match zN 0 lo,zN (θ xs) hi,eI P t with
   |some l,δ h,δ (ε,_,sz)=>if sz=te.sz then(T6 xs l h).bind λx=>k (.c (.ls te x))else ε
   |_,_,_=>ε
  |.c (.own id ver te n)=>
   match Yx H id ver te with
   |some xs=>
    match zN 0 lo,zN (θ xs) hi,eI P t with
    |some l,δ h,δ (ε,_,sz)=>if sz=te.sz then(T6 xs l h).bind λ_=>k (.vw id ver te n l.toNat (h.toNat-l.toNat))else ε
    |_,_,_=>ε
   |none=>ε
  |_=>ε
def AJE(P:Program)(H:As)(t:TypeId)(v:TV)(k:TV->Ω R):Ω R:=
 match P.underlying t,v with
 |some .string,.c (.st s)=>k (.c (.it .i64 (θ s)))
 |some (.array n _),_=>k (.c (.it .i64 n))
 |some (.slice _),.c (.ls _ l)=>k (.c (.it .i64 (θ l)))
 |some (.slice _),.c (.own id ver te n)=>match Yx H id ver te with|some _=>k (.c (.it .i64 n))|none=>ε
 |some (.slice _),.c .nil=>k (.c (.it .i64 0))
 |some (.slice _),.vw id ver te _ lo m=>match Yx H id ver te with|some l=>k (.c (.it .i64 ((l.drop lo).take m).length))|none=>ε
 |_,_=>ε
def mmT(mx:Bool)(x y:TV)(k:TV->Ω R):Ω R:=
 match x,y with
 |.c (.it kx a),.c (.it _ b)=>k (.c (.it kx (if mx then(if b>a then b else a)else(if b<a then b else a))))
 |_,_=>ε
def AJF(x y z:TV)(k:TV->Ω R):Ω R:=
 match x,y,z with
 |.c (.it kx a),.c (.it _ b),.c (.it _ c)=>k (.c (.it kx (if c<(if b<a then b else a)then c else(if b<a then b else a))))
 |_,_,_=>ε
def TV.words:TV->Ω (Ψ Bw)
 |.c x=>match x.scalar&&x.one.solid with|true=>δ [x]|false=>ε
 |.g cs=>δ cs
 |_=>ε
mutual
def Ty.zlvs:(t:Ty)->Ψ Bw
 |.bool=>[.bl η]
 |.int k=>[.it k 0]
 |.str=>[.st []]
 |.list _=>[.nil]
 |.arr n t=>[.ar n t (GG.all t.zero)]
 |.prod ts=>ts.zlvs
def Sr.zlvs:Sr->Ψ Bw
 |.one t=>t.zlvs
 |.cons t ts=>t.zlvs++ts.zlvs
end
mutual
def AB2(P:Program):Nat->TypeId->Ω Ty
 |0,_=>ε
 |d+1,t=>
  match P.underlying t with
  |some .bool=>δ .bool
  |some (.int k)=>δ (.int k)
  |some .string=>δ .str
  |some (.slice e)=>(AB2 P d e).map Ty.list
  |some (.array (n+1) e)=>(AB2 P d e).map (Ty.arr n)
  |some (.struct fs)=>(AIV P d fs.toList).map Ty.prod
  |_=>ε
def AIV(P:Program):Nat->Ψ Field->Ω Sr
 |0,_=>ε
 |_+1,[]=>ε
 |d+1,[f]=>(AB2 P d f.type).map Sr.one
 |d+1,f::r=>match AB2 P d f.type,AIV P d r with|some t,δ ts=>δ (.cons t ts)|_,_=>ε
end
def wz:Ad->Bw
 |.bool b=>.bl b
 |.int k n=>.it k n
 |.str s=>.st s
 |v=>.raw v
def vg(P:Program)(t:TypeId):Ω (Ψ Bw):=
 match Zk P t with
 |some z=>
  match AB2 P 1000 t with
  |some ty=>match Ad.beqL z (lvs ty.zlvs)with|true=>δ ty.zlvs|false=>δ (z.map wz)
  |none=>δ (z.map wz)
 |none=>ε
def ADr(cs:Ψ Bw)(off:Nat)(vs:Ψ Bw)(n:Nat):Ω (Ψ Bw):=
 match Xz cs off with
 |some (a,r)=>match Xz r n with|some (_,b)=>δ (a++(vs++b))|none=>ε
 |none=>ε
def AGE:Ψ Bw->Nat
 |[]=>0
 |x::r=>x.w+AGE r
def zg(p:ak):Ψ Bw->Ψ (Nat×TV)->Ω (Ψ Bw)
 |cs,[]=>δ cs
 |cs,(i,v)::r=>
  match p.at_ i,v.words with
  |some (off,size),δ ws=>
   match ξ (AGE ws) size with
   |true=>match ADr cs off ws size with|some cs'=>zg p cs' r|none=>ε
   |false=>ε
  |_,_=>ε
def AA7(P:Program)(t:TypeId)(parts:Ψ (Nat×TV)):Ω TV:=
 match vg P t,vP P t with
 |some z,δ p=>(zg p z parts).map TV.g
 |_,_=>ε
def tE:Ψ TV->Ω (Ψ Ad)
 |[]=>δ []
 |.c x::r=>match x.scalar,tE r with|true,δ l=>δ (x.one::l)|_,_=>ε
 |_=>ε
def quT(P:Program)(env:Bi)(H:As)(op:Op)(k:TV->Ω R):Ω R:=
 match op with
 |.move x|.assign x=>k (Jx env x)
 |.pick c a b=>match Jx env c with|.c (.bl t)=>cond t (k (Jx env a)) (k (Jx env b))|_=>ε
 |.load t a=>loadT P H t (Jx env a) k
 |.nilCheck x=>
  match Jx env x with
  |.c (.raw (.ptr id 0 off))=>match Xy H id with|some _=>k (.c (.raw (.ptr id 0 off)))|none=>ε
  |.c (.raw (.fn (.func f) a b))=>k (.c (.raw (.fn (.func f) a b)))
  |.vptr cs post=>k (.vptr cs post)
  |.aptr id base n te i off=>match Xy H id with|some _=>k (.aptr id base n te i off)|none=>ε
  |.bptr id ver te n i off=>match Yx H id ver te with|some _=>k (.bptr id ver te n i off)|none=>ε
  |_=>ε
 |.binOp op t x y _=>AIu P op t (Jx env x) (Jx env y) k
 |.unOp op _ x=>unT op (Jx env x) k
 |.convert s d x=>AEk P H s d (Jx env x) k
 |.fieldAddr s x f=>oE P H s f (Jx env x) k
 |.field s x f=>ABD P s f (Jx env x) k
 |.indexAddr t x i=>oI P H t (Jx env x) (Jx env i) k
 |.index t x i=>ABI P t (Jx env x) (Jx env i) k
 |.slice t x lo hi mx=>ABu P H t (Jx env x) (lo.map (Jx env)) (hi.map (Jx env)) (mx.map (Jx env)) k
 |.extract x i=>match Jx env x with|.tup vs=>(match vs[i]? with|some v=>k v|none=>ε)|_=>ε
 |.makeFunc f a b=>match tE (a.toList.map (Jx env)),tE (b.toList.map (Jx env))with|some l,δ m=>k (.c (.raw (.fn f l m)))|_,_=>ε
 |.build t parts=>okT (AA7 P t (parts.toList.map λp=>(p.1,Jx env p.2))) k
 |.call {callee:=.builtin .len,args:=⟨[x]⟩,argTypes:=⟨[t]⟩}=>AJE P H t (Jx env x) k
 |.call {callee:=.builtin .max,args:=⟨[x,y]⟩,.. }=>mmT ζ (Jx env x) (Jx env y) k
 |.call {callee:=.builtin .min,args:=⟨[x,y]⟩,.. }=>mmT η (Jx env x) (Jx env y) k
 |.call {callee:=.builtin .min,args:=⟨[x,y,z]⟩,.. }=>AJF (Jx env x) (Jx env y) (Jx env z) k
 |_=>ε
end
def TY(H:As)(id ver:Nat)(t:Ty)(n:Nat):Prop:=
 id<θ H/\∀ro t' l n' ver',H[id]?=δ (.buf ro t' l n' ver')->ver<=ver'/\(ver=ver'->t'=t/\n'=n)
def Bw.ok(H:As):Bw->Prop
 |.own id ver t n=>TY H id ver t n
 |_=>True
def lok(H:As)(cs:Ψ Bw):Prop:=∀x∈cs,x.ok H
mutual
def TV.refs:TV->Ψ Bw
 |.c x=>[x]
 |.g cs=>cs
 |.aptr .. =>[]
 |.bptr id ver t n _ _=>[.own id ver t n]
 |.vw id ver t n _ _=>[.own id ver t n]
 |.vptr cs _=>cs
 |.tup vs=>TV.refsL vs
def TV.refsL:Ψ TV->Ψ Bw
 |[]=>[]
 |v::r=>v.refs++TV.refsL r
end
def TV.ok(H:As)(v:TV):Prop:=lok H v.refs
def Dx.ok(H:As):Dx->Prop
 |.live _ cs=>lok H cs
 |.buf _ _ l n _=>n=θ l
 |.dead=>True
 |.lp _ _ _ env _ _ _ _=>∀p∈env,∀id ver t n,Bw.own id ver t n∉p.2.refs
 |.mp .. =>True
structure OL(env:Bi)(H:As):Prop where
 env:∀p∈env,p.2.ok H
 heap:∀e∈H,e.ok H
variable {N n W:Nat}{b V Q:TypeId}{c L:As}{d k:Ψ Nat}{e y:Operand}{g:Ψ Bw}{i:TV}{j H:Bi}{P:Program}{t:Ty}{m:Code}{R:Type}{p:Ψ Ad}{q:Env}{s:Array Oper}{u:Ad}{v:Ψ Oper}{o:Oper}{w:World}{z:Exit→Act→World→Prop}{A:Ψ TV}{B:Bw}{C:Aw}{D:Ω (Nat×Bool)}{G:Bool}{X:Nat->Prop}{h:Gh}{I:Dx}{M:IntKind}{S:FuncId}{x:Cx}{T:Ω Nat}{U:Nat→Prop}{Y:Ω TV}{Z:Exit->Env->Aw->Prop}{a:Int}{r:Ψ (Int×Ad)}
theorem Jd{b:Ψ Bw}:lok c (g++b)↔lok c g/\lok c b:=by grind[lok]
theorem AHN:lok c []:=λ_ h=>by cases h
def xN{v:TV}:∀{l:Ψ TV},v∈l->∀x∈v.refs,x∈TV.refsL l
 |w::r,a,x,hx=>by simp only[TV.refsL,Ak];rcases Av.1 a with rfl|a;exact .inl hx;exact .inr (xN a x hx)
def rJ(h:(TV.tup A).ok c)(b:i∈A):i.ok c:=λx H=>h x (by simp only[TV.refs];exact xN b x H)
def Rz{H}:∀{vs:Ψ TV},(∀v∈vs,v.ok H)->(TV.tup vs).ok H
 |[],_=>λx a=>by simp[TV.refs,TV.refsL]at a
 |v::r,h=>by have:=Rz (vs:=r) λw b=>h w (by simp[b]);intro x a;simp only[TV.refs,TV.refsL,Ak]at a;rcases a with a|a;exact h v q! x a;exact this x a
theorem lR(h:∀p∈j,p.2.ok c)(t:Nat):(j.get t).ok c:=by
 induction j with
 |nil=>intro x a;simp only[Bi.get,Vv,TV.refs,A9]at a;subst a;trivial
 |cons p r b=>grind[Bi.get]
theorem ACP(v:Value):(AEn v).ok c:=by
 cases v with
 |pointer p=>cases p<;>trivial
 |slice a l H=>
  cases a with
  |some _=>trivial
  |none=>
   match l,H with
   |0,0=>trivial
   |0,_+1=>trivial
   |_+1,_=>trivial
 |_=>trivial
def jM:Vv.ok c:=λx a=>by simp only[Vv,TV.refs,A9]at a;subst a;trivial
theorem KB{H}(h:B.ok H):(TV.c B).ok H:=λy a=>by grind[TV.refs]
theorem AI5(v:Value):(cvT v).ok c:=by
 cases v with
 |agg a=>
  simp only[cvT];cases h:a.toList.all (·.oneCell')with
  |false=>exact jM
  |true=>intro x b;grind[TV.refs,ACP]
 |_=>exact KB (ACP _)
theorem iD{H:As}(h:∀p∈j,p.2.ok H)(x:Operand):(Jx j x).ok H:=by
 cases x with
 |tmp t=>exact lR h t
 |const v=>exact AI5 v
 |global _=>exact jM
 |func f=>exact KB trivial
theorem G5(a b:Ψ Bw):lvs (a++b)=lvs a++lvs b:=Yd
theorem IC(x:Bw)(b:Ψ Bw):lvs (x::b)=x.enc++lvs b:=Ih
theorem fe:∀a:Ψ Bw,(lvs a).length=AGE a
 |[]=>rfl
 |x::r=>by rw[IC,AZ,x.enc_len,fe r];rfl
def PA:∀{c}{n}{a b:Ψ Bw},Xz c n=δ (a,b)->c=a++b/\(lvs a).length=n
 |c,0,a,b,h=>by cases c<;>simp only[Xz]at h<;>obtain⟨rfl,rfl⟩:=h<;>exact⟨rfl,rfl⟩
 |x::r,n+1,a,b,h=>by simp only[Xz]at h;split at h;rename_i e;split at h;rename_i g i f;obtain⟨rfl,rfl⟩:=h;obtain⟨j,d⟩:=PA f;rw[IC,AZ,d,x.enc_len];simp_all;cases h;cases h
mutual
theorem Ty.lvs_enc:∀(t:Ty)x,lvs (t.lvs x)=(t.enc x).cells
 |.bool,_=>rfl
 |.int _,_=>rfl
 |.str,_=>rfl
 |.list _,_=>rfl
 |.arr n t,a=>by simp only[Ty.lvs,lvs,Ih,qN,DT,Bw.enc]
 |.prod ts,x=>by simp only[Ty.lvs,Ty.enc,Ad.cells];exact ts.lvs_cells x
theorem Sr.lvs_cells:∀(a:Sr)x,Go.Ab.lvs (a.lvs x)=a.cells x
 |.one t,x=>by simp only[Sr.lvs,Sr.cells];exact t.lvs_enc x
 |.cons t a,x=>by simp only[Sr.lvs,Sr.cells];rw[G5,t.lvs_enc,a.lvs_cells]
end
mutual
theorem Ty.lvs_ok{H:As}:∀(t:Ty)x,lok H (t.lvs x)
 |.bool,_=>λy b=>by simp only[Ty.lvs,A9]at b;subst b;trivial
 |.int _,_=>λy b=>by simp only[Ty.lvs,A9]at b;subst b;trivial
 |.str,_=>λy b=>by simp only[Ty.lvs,A9]at b;subst b;trivial
 |.list _,_=>λy b=>by simp only[Ty.lvs,A9]at b;subst b;trivial
 |.arr n t,a=>λy b=>by simp only[Ty.lvs,A9]at b;subst b;trivial
 |.prod ts,x=>by simp only[Ty.lvs];exact ts.lvs_ok x
theorem Sr.lvs_ok{H:As}:∀(a:Sr)x,lok H (a.lvs x)
 |.one t,x=>by simp only[Sr.lvs];exact t.lvs_ok x
 |.cons t a,x=>by simp only[Sr.lvs];exact Jd.2 ⟨t.lvs_ok _,a.lvs_ok _⟩
end
def M0(h:B.scalar=ζ):B.enc=[B.one]:=by
 cases B with
 |ar n t a=>cases h
 |_=>rfl
def Bw.scalar_cells(h:B.scalar=ζ):B.one.cells=[B.one]:=by
 cases B with
 |ar n t a=>cases h
 |raw v=>cases v<;>first|rfl|cases h
 |_=>rfl
theorem R1(h:part P b g N=δ i):
  (∃n,tI P b=δ (ζ,n)/\N+n<=(lvs g).length/\i.enc=.agg (((lvs g).drop N).take n)\/tI P b=δ (η,n)/\(lvs g)[N]?=δ i.enc)/\∀H,lok H g->i.ok H:=by
 unfold part at h;split at h;rename_i a r l;obtain⟨rfl,j⟩:=PA l;split at h;rename_i n d;split at h;rename_i e c t;obtain⟨rfl,k⟩:=PA t;injection h with h;subst h;refine⟨⟨n,.inl ⟨d,?_,?_⟩⟩,λH f=>?_⟩;simp only[G5,AZ];omega;simp only[TV.enc,G5,Ad.agg.injEq];rw[<-j,Rk,<-k,Ys];exact(Jd.1 (Jd.1 f).2).1;cases h;rename_i n d;split at h;rename_i x r;split at h;rename_i m;injection h with h;subst h;refine⟨⟨n,.inr ⟨d,?_⟩⟩,λH f=>KB ((Jd.1 f).2 x q!)⟩;rw[G5,IC,M0 m,Cn o!];simp[j,TV.enc];cases h;cases h;cases h;cases h
def ma(h:part P b g N=δ i)
  (hr:∀n,N+n<=(lvs g).length->Qb C u n=δ (((lvs g).drop N).take n)):jU P b C u=δ i.enc:=by
 obtain⟨⟨n,e|e⟩,_⟩:=R1 h;obtain⟨c,t,d⟩:=e;simp only[jU,c,hr n t,Bu,d];obtain⟨c,d⟩:=e;have k:N<(lvs g).length:=by rcases Az N (lvs g).length with f|f;exact f;rw[Ct f]at d;cases d
 simp only[jU,c,hr 1 o!,AD];rw[List.head?_take,List.head?_drop,d];rfl
theorem sN(h:Xy c N=δ g):∃ro,c[N]?=δ (.live ro g):=by grind[Xy]
theorem EK(H:As)(id:Nat):(BL H)[id]?=(H[id]?).map Dx.enc:=CT
theorem u7(h:Xy c N=δ g):(BL c)[N]?=δ (.live 0 (lvs g)):=by obtain⟨ro,b⟩:=sN h;rw[EK,b];rfl
def AHL(b:∀e∈c,e.ok c)(h:Xy c N=δ g):lok c g:=by obtain⟨ro,H⟩:=sN h;exact b _ (BP H)
def AA6{l:Ψ t.D}(h:Yx c N n t=δ l):∃ro a,c[N]?=δ (.buf ro t l a n):=by unfold Yx at h;split at h;rename_i ro i j a d e;split at h;rename_i g;have H:=DH g;subst H;split at h;rename_i f;have b:=f;have:=Ty.beq_eq i t b;subst this;injection h with h;refine⟨ro,a,?_⟩;rw[e,<-h];rfl;cases h;cases h;cases h
def X9{l:Ψ t.D}(d:∀e∈c,e.ok c)(hr:TY c N W t n)(h:Yx c N W t=δ l):(BL c)[N]?=δ (.live n (t.E.cl l))/\θ l=n:=by obtain⟨ro,f,b⟩:=AA6 h;obtain⟨_,H⟩:=hr.2 _ _ _ _ _ b;obtain⟨_,rfl⟩:=H rfl;have:f=θ l:=d _ (BP b);refine⟨?_,this.symm⟩;rw[EK,b];rfl
def AA1{a:GG (n+1) t.D}(h:AES g N n t=δ a):∃pre b,g=pre++(.ar n t a::b)/\(lvs pre).length=N:=by unfold AES at h;split at h;rename_i pre k l j b f;split at h;rename_i i;have:=Ty.beq_eq _ _ i;injection this with d e;subst d e;injection h with h;obtain⟨d,e⟩:=PA f;refine⟨pre,b,?_,e⟩;rw[d,<-h];rfl;cases h;cases h
theorem dF(n:Nat)(t:Ty)(a:GG (n+1) t.D):(Bw.ar n t a).enc=gA (n+1) t.E a:=rfl
section
variable {P:Program}{R:Type}{H:As}{k:TV->Ω R}{r:R}
theorem XS(h:okT Y k=δ r):∃v,Y=δ v/\k v=δ r:=by unfold okT at h;grind
theorem jN(v:Ad):(tvA v).enc=v:=by cases v<;>rfl
theorem ln(v:Ad):(tvA v).ok H:=by cases v<;>exact KB trivial
theorem lY{o}(h:okA o k=δ r):∃v,o=δ v/\k (tvA v)=δ r:=by unfold okA at h;grind
theorem mR{o}(h:cond G ε o=δ r):G=η/\o=δ r:=k!
theorem sO(B:∀e∈H,e.ok H)(C:i.ok H)(h:loadT P H b i k=δ r):∃u,jU P b (BL H) i.enc=δ u.enc/\k u=δ r/\u.ok H:=by
 unfold loadT at h;split at h;rename_i id g;split at h;rename_i A p;obtain⟨u,f,j⟩:=XS h;refine⟨u,ma f λn c=>?_,j,(R1 f).2 H (AHL B p)⟩;grind[TV.enc,Bw.one,Qb,u7];cases h;rename_i A d;obtain⟨u,f,j⟩:=XS h;refine⟨u,ma f λn c=>?_,j,(R1 f).2 H C⟩;simp only[TV.enc,Qb];grind;rename_i id o n v t g;split at h;rename_i A p;split at h;rename_i a F;obtain⟨e,y,h⟩:=Do.1 h;obtain⟨u,f,j⟩:=XS h;obtain⟨pre,d,rfl,q⟩:=AA1 F;refine⟨u,ma f λm c=>?_,j,(R1 f).2 H (v.lvs_ok e)⟩;rw[v.lvs_enc,v.enc_len]at c;obtain⟨s,w⟩:=AEP v.E (lvs pre) (lvs d) y c;have D:lvs (pre++(.ar n v a::d))=lvs pre++gA (n+1) v.E a++lvs d:=by rw[G5,IC,dF,A2]
 simp only[TV.enc,Qb,u7 p,D];have x:o+t.toNat*v.sz+g=(lvs pre).length+t.toNat*v.E.sz+g:=by rw[q];rfl
 rw[x,C! ⟨P!,s⟩,w,v.lvs_enc];rfl;cases h;cases h;rename_i id z v n t g;split at h;rename_i l p;obtain⟨e,y,h⟩:=Do.1 h;obtain⟨u,f,j⟩:=XS h;obtain⟨x,_⟩:=X9 B (C (.own id z v n) (by simp[TV.refs])) p;refine⟨u,ma f λm c=>?_,j,(R1 f).2 H (v.lvs_ok e)⟩;rw[v.lvs_enc,v.enc_len]at c;obtain⟨s,w⟩:=AIt v.E y c;simp only[TV.enc,Qb,x];rw[C! ⟨P!,s⟩];show δ (List.take m (List.drop (t.toNat*v.E.sz+g) (v.E.cl l)))=_;rw[w,v.lvs_enc];rfl;cases h;cases h
theorem AA3{t}{y}(h:AIu P t b i y k=δ r):∃u,zM P t b i.enc y.enc=δ u.enc/\k u=δ r/\u.ok H:=by
 unfold AIu at h;split at h;rename_i n a o x;simp only[TV.enc,Bw.one,zM];split at h;obtain⟨c,h⟩:=mR h;have d:¬x<0:=by simpa using c
 refine⟨_,?_,h,KB trivial⟩;grind[lm,TV.enc,Bw.one];obtain⟨c,h⟩:=mR h;have d:¬x<0:=by simpa using c
 refine⟨_,?_,h,KB trivial⟩;grind[lm,TV.enc,Bw.one];split at h;rename_i e;obtain⟨c,h⟩:=mR h;have d:¬x=0:=by simpa using c
 refine⟨_,?_,h,KB trivial⟩;grind[qQ,TV.enc,Bw.one];cases h;split at h;rename_i e;obtain⟨c,h⟩:=mR h;have d:¬x=0:=by simpa using c
 refine⟨_,?_,h,KB trivial⟩;grind[qQ,TV.enc,Bw.one];cases h;grind[lY,ln,jN];rename_i a x;simp only[TV.enc,Bw.one,zM];split at h;split at h;rename_i e;exact⟨_,by simp only[C! e,TV.enc,Bw.one],h,KB trivial⟩;cases h;split at h;rename_i e;exact⟨_,by simp only[C! e,TV.enc,Bw.one],h,KB trivial⟩;cases h;cases h;rename_i a x;simp only[TV.enc,Bw.one,zM];split at h;obtain⟨s,j,h⟩:=Do.1 h;exact⟨_,by simp only[xm,TV.enc,Bw.one];exact AJK j,h,KB trivial⟩;grind[lY,jN,ln];rename_i l bs;split at h;rename_i m f;split at h;rename_i g;simp only[TV.enc,zM,f,C! g];split at h;exact⟨_,by simp only[TV.enc,Bw.one,eqT],h,KB trivial⟩;exact⟨_,by simp only[TV.enc,Bw.one,eqT],h,KB trivial⟩;cases h;cases h;cases h;cases h
def ADw{a}(h:unT a i k=δ r):∃u,unV a i.enc=δ u.enc/\k u=δ r/\u.ok H:=by unfold unT at h;split at h;obtain⟨i,b,h⟩:=lY h;exact⟨_,by rw[jN];exact b,h,ln i⟩;cases h
def AJ8(l:Ψ Int):(Ty.int .u8).E.cl l=l.map (xz .u8).f:=by
 unfold Su.cl;induction l with
 |nil=>rfl
 |cons n l a=>simp only[B4,Ih,a];rfl
def ADF:X4 P C b V (.int M a)=X4 P [] b V (.int M a):=by unfold X4;cases kd P V<;>rfl
def ADG{s:Ψ UInt8}:X4 P C b V (.str s)=X4 P [] b V (.str s):=by unfold X4;cases kd P V<;>rfl
def zT(g:∀e∈H,e.ok H)(c:i.ok H)(h:AEk P H b V i k=δ r):∃u,X4 P (BL H) b V i.enc=δ u.enc/\k u=δ r/\u.ok H:=by
 unfold AEk at h;split at h;rename_i l;split at h;rename_i a;exact⟨_,AFR l a.1 a.2,h,KB trivial⟩;cases h;rename_i id f n;split at h;rename_i a;split at h;rename_i l j;obtain⟨d,hn⟩:=X9 g (c (.own id f (.int .u8) n) (by simp[TV.refs])) j;refine⟨_,?_,h,KB trivial⟩;simp only[TV.enc,Bw.one,X4,a.1,a.2,if_true,rowsOf,d];rw[C! ⟨P!,rfl,by rw[(Ty.int .u8).E.clen,hn];show 0+n<=n*1;omega⟩];have:((Ty.int .u8).E.cl l).length=n:=by rw[(Ty.int .u8).E.clen,hn];exact Nat.mul_one n
 rw[Wc,<-this,Hk,AJ8];exact E! (Option.map Ad.str) (yu l);cases h;cases h;obtain⟨i,c,h⟩:=lY h;exact⟨_,by rw[jN];exact ADF.trans c,h,ln i⟩;obtain⟨i,c,h⟩:=lY h;exact⟨_,by rw[jN];exact ADG.trans c,h,ln i⟩;cases h
end
section
variable {P:Program}{R:Type}{H:As}{k:TV->Ω R}{r:R}
theorem km(h:Xy H N=δ g):T7 (BL H) N 0=ζ:=by simp[T7,u7 h]
def pD{l:Ψ t.D}(b:∀e∈H,e.ok H)(hr:TY H N W t n)(h:Yx H N W t=δ l):T7 (BL H) N n=ζ:=by simp[T7,(X9 b hr h).1]
theorem qh(x:∀e∈H,e.ok H)(g:i.ok H)(h:oE P H N n i k=δ r):∃u,Wm P (BL H) N n i.enc=δ u.enc/\k u=δ r/\u.ok H:=by
 unfold oE at h;split at h;rename_i B t f z;split at h;cases h;rename_i hn;have d:f≠0:=λe=>t!
 unfold Wm;simp only[z,D! d];split at h;rename_i id o;split at h;rename_i p c;exact⟨_,by simp only[TV.enc,Bw.one,shift,km c,if_true],h,KB trivial⟩;cases h;rename_i p q;split at h;rename_i a b A;obtain⟨rfl,y⟩:=PA A;refine⟨_,?_,h,(Jd.1 g).2⟩;simp only[TV.enc,shift];rw[C! (by simp only[AZ,G5];omega),G5,A2,<-y,Rk];cases h;rename_i id m f w s o;split at h;rename_i p c;refine⟨_,?_,h,λ_ h=>by cases h⟩;grind[TV.enc,shift,km];cases h;rename_i id j w f s o;split at h;rename_i l c;refine⟨_,?_,h,g⟩;simp only[TV.enc,shift,pD x (g (.own id j w f) (by simp[TV.refs])) c,if_true,WX];cases h;cases h;cases h
theorem yW(h:part P b g N=δ i)(c:∀t,N+t<=(lvs g).length->n+t<=θ p/\(p.drop n).take t=((lvs g).drop N).take t):vM P b p n=δ i.enc:=by grind[R1,vM,List.head?_take,List.head?_drop]
theorem yA(d:i.ok H)(h:ABD P N n i k=δ r):∃u,uY P N n i.enc=δ u.enc/\k u=δ r/\u.ok H:=by unfold ABD at h;split at h;rename_i e t s g a;obtain⟨u,c,b⟩:=XS h;refine⟨u,?_,b,(R1 c).2 H d⟩;simp only[uY,a,TV.enc];grind[yW];cases h
theorem tn{b:GG n R}{x:R}(h:Gy b a=δ x):0<=a/\a<n:=by obtain⟨c,j,rfl,_⟩:=qA h;grind
theorem qy{v:TV}(q:∀e∈H,e.ok H)(C:v.ok H)(h:oI P H b v i k=some r):∃u,Wr P (BL H) b v.enc i.enc=some u.enc/\k u=some r/\u.ok H:=by
 unfold oI at h;split at h;rename_i N i;simp only[TV.enc,Bw.one,Wr];split at h;rename_i len F sz y;simp only[y];split at h;rename_i id J;split at h;rename_i K j;split at h;rename_i pre n t a p M;split at h;rename_i g;obtain⟨rfl,rfl⟩:=g;obtain⟨e,c,h⟩:=Do.1 h;refine⟨_,?_,h,λ_ h=>by cases h⟩;rw[if_pos (tn c)];simp only[TV.enc,Bw.one,shift,km j,if_true,NT];cases h;cases h;cases h;rename_i n t a O p;split at h;rename_i g;obtain⟨rfl,rfl⟩:=g;obtain⟨e,c,h⟩:=Do.1 h;refine⟨_,?_,h,t.lvs_ok e⟩;rw[if_pos (tn c)];obtain⟨_,w,B,_⟩:=AEU t.E c [] [];simp only[B7,DT,Bj,DY]at w B;have G:i.toNat*t.sz+t.sz<=(gA (n+1) t.E a).length:=w;simp only[TV.enc,shift,IC,dF];rw[if_pos k!];rw[t.lvs_enc,A2,mE o!];have D:(gA (n+1) t.E a).drop (i.toNat*t.sz)=(t.enc e).cells++(gA (n+1) t.E a).drop (i.toNat*t.sz+t.sz):=by rw[<-LL];have L:((gA (n+1) t.E a).drop (i.toNat*t.sz)).take t.sz=(t.enc e).cells:=B;grind[List.take_append_drop]
 rw[D,A2];rfl;cases h;cases h;rename_i F sz y;simp only[y];split at h;rename_i t l;split at h;rename_i g;subst g;obtain⟨e,c,h⟩:=Do.1 h;obtain⟨q1,q2⟩:=ALG (f:=t.enc) c;refine⟨_,?_,h,t.lvs_ok e⟩;simp only[TV.enc,Bw.one];rw[if_pos ⟨q1,trivial⟩,q2,t.lvs_enc,DT];rfl;cases h;rename_i id d t n;split at h;rename_i l j;split at h;rename_i g;subst g;obtain⟨e,c,h⟩:=Do.1 h;have hr:=C (.own id d t n) (by simp[TV.refs]);obtain⟨I,hn⟩:=X9 q hr j;refine⟨.bptr id d t n i 0,?_,h,λx o=>by simp only[TV.refs,A9]at o;subst o;exact hr⟩;obtain⟨_,_,_,_,s,w,_,_⟩:=uO t.E c;simp only[TV.enc,Bw.one];rw[if_pos ⟨s,o!,trivial,pD q hr j⟩,DY,NT];cases h;cases h;rename_i id d t n A m;split at h;rename_i l j;split at h;rename_i g;subst g;obtain⟨e,c,h⟩:=Do.1 h;have hr:=C (.own id d t n) (by simp[TV.refs]);obtain⟨I,hn⟩:=X9 q hr j;refine⟨.bptr id d t n ((A:Int)+i) 0,?_,h,λx o=>by simp only[TV.refs,A9]at o;subst o;exact hr⟩;unfold ix at c;split at c;rename_i s;have z:=(Ei.1 c).1;rw[BQ,C2]at z;simp only[TV.enc,vwE];rw[if_neg o!];dsimp only;rw[if_pos ⟨s,o!,rfl,pD q hr j⟩,NT,show((A:Int)+i).toNat=A+i.toNat by omega,EJ];cases c;cases h;cases h;cases h;cases h;cases h
theorem o9{e:TypeId}{sz}{cs}{i}(b:lok H cs):∀{m j},xq P e sz cs i k m j=δ r->∃u,(0<=i/\i<((j+m:Nat):Int))/\vM P e (lvs cs) (i.toNat*sz)=δ u.enc/\k u=δ r/\u.ok H
 |m+1,j,h=>by
  simp only[xq]at h;cases a:τ (i=Int.ofNat j)with
  |true=>
   rw[a]at h;have f:i=(j:Int):=k!
   obtain⟨u,d,c⟩:=XS h;refine⟨u,o!,?_,c,(R1 d).2 H b⟩;grind[yW]
  |false=>rw[a]at h;obtain⟨u,q1,q2⟩:=o9 b (m:=m) (j:=j+1) h;grind
theorem yH{v:TV}(A:v.ok H)(h:ABI P b v i k=some r):∃u,lU P b v.enc i.enc=some u.enc/\k u=some r/\u.ok H:=by
 unfold ABI at h;split at h;rename_i B i;split at h;rename_i n c a;split at h;rename_i len x sz o;split at h;rename_i z;obtain⟨rfl,rfl⟩:=z;obtain⟨e,p,h⟩:=Do.1 h;obtain⟨u,q,f⟩:=XS h;refine⟨u,?_,f,(R1 q).2 H (c.lvs_ok e)⟩;simp only[TV.enc,Bw.one,lU,o];rw[if_pos (tn p)];refine yW q λm d=>?_;rw[c.lvs_enc,c.enc_len,DY]at d;obtain⟨j,l⟩:=AEP c.E (off:=0) [] [] p (m:=m) (by rw[DY];exact d);simp at j l;have w:lvs [Bw.ar n c a]=gA (n+1) c.E a:=by grind[dF,lvs]
 rw[w,c.lvs_enc,Wc];exact⟨j,l⟩;cases h;cases h;rename_i g _;split at h;rename_i len x sz o;split at h;obtain⟨u,q1,q2,q3⟩:=o9 (cs:=g) (H:=H) A h;grind[TV.enc,Bw.one,lU];cases h;cases h;rename_i s;split at h;rename_i f;obtain⟨t,y,h⟩:=Do.1 h;exact⟨_,by simp only[TV.enc];exact AKP y f,h,KB trivial⟩;cases h;cases h;cases h
theorem dH{d:Nat}(h:zN d Y=δ a)(o:0<=a):Xf d (Y.map TV.enc)=δ a.toNat:=by unfold zN at h;grind[Xf,TV.enc,Bw.one,vF]
theorem yn{G K:Option TV}(E:∀e∈H,e.ok H)(N:i.ok H)(h:ABu P H b i Y G K k=δ r):∃u,jJ P (BL H) b i.enc (Y.map TV.enc) (G.map TV.enc) (K.map TV.enc)=δ u.enc/\k u=δ r/\u.ok H:=by
 unfold ABu at h;split at h;cases h;split at h;rename_i s;split at h;rename_i l f t v;split at h;rename_i C;obtain⟨x,c,h⟩:=Do.1 h;refine⟨_,?_,h,KB trivial⟩;unfold R3 at c;split at c;rename_i a;simp only[TV.enc,Bw.one,jJ,dH (d:=0) t a.1,dH v (Yb a.1 a.2.1)];grind;cases c;cases h;cases h;rename_i w o;split at h;rename_i l f M sz t v B;split at h;rename_i C;obtain⟨x,c,h⟩:=Do.1 h;refine⟨_,?_,h,KB trivial⟩;unfold T6 at c;split at c;rename_i a;have j:(o.map w.enc).length=θ o:=Ba _;have y:=dH (d:=0) t a.1;have p:=dH v (Yb a.1 a.2.1);have A:Xf (θ o) ε=δ (θ o):=rfl;simp only[TV.enc,Bw.one,jJ,j,y,p,A,B];grind[List.map_take,List.map_drop];cases c;cases h;cases h;rename_i id D w n;split at h;rename_i o F;split at h;rename_i l f M sz t v B;split at h;rename_i C;obtain⟨x,c,h⟩:=Do.1 h;have hr:=N (.own id D w n) (by simp[TV.refs]);obtain⟨O,L⟩:=X9 E hr F;have g:=pD E hr F;refine⟨_,?_,h,λz I=>by simp only[TV.refs,A9]at I;subst I;exact hr⟩;unfold T6 at c;split at c;rename_i a;have y:=dH (d:=0) t a.1;have p:=dH v (Yb a.1 a.2.1);rw[L]at p;have A:Xf n ε=δ n:=rfl;simp only[TV.enc,Bw.one,jJ,nl,y,p,A,B];rw[C! ⟨C.symm,w.sz_pos,o!,o!,Al _,g,λq=>by cases q⟩];have m:min (f.toNat-l.toNat) (n-l.toNat)=f.toNat-l.toNat:=o!
 unfold vwE;rw[m];by_cases q0:l.toNat=0;rw[C! q0,q0];by_cases q1:f.toNat=0;rw[q1];rfl;rw[D! o!,Yv,WZ];rw[D! q0];by_cases q1:l.toNat=f.toNat
 rw[C! q1,C! o!,D! q0];rw[D! q1,D! o!,DY];cases c;cases h;cases h;cases h;cases h
def ABN(f:∀e∈H,e.ok H)(g:i.ok H)(h:AJE P H b i k=δ r):∃u,qz P (BL H) b i.enc=δ u.enc/\k u=δ r/\u.ok H:=by unfold AJE at h;split at h;rename_i s a;exact⟨_,by simp only[qz,a,TV.enc,Bw.one],h,KB trivial⟩;rename_i n e a;exact⟨_,by simp only[qz,a,TV.enc,Bw.one],h,KB trivial⟩;rename_i c l e a;exact⟨_,by simp only[qz,a,TV.enc,Bw.one,Ba],h,KB trivial⟩;rename_i e id v c n a;split at h;rename_i l d;refine⟨_,?_,h,KB trivial⟩;simp only[qz,a,TV.enc,Bw.one];cases h;rename_i e a;exact⟨_,by simp only[qz,a,TV.enc,Bw.one],h,KB trivial⟩;rename_i e id v c n t m a;split at h;rename_i l d;obtain⟨_,hn⟩:=X9 f (g (.own id v c n) (by simp[TV.refs])) d;refine⟨_,?_,h,KB trivial⟩;simp only[TV.enc,vwE,Bw.one,BQ,C2,hn];split;rename_i q;rw[q];split<;>simp only[qz,a]<;>rfl;simp only[qz,a];cases h;cases h
end
def Zj(h:i.words=δ g):i.enc.solid=ζ/\i.enc.cells=lvs g/\∀H,i.ok H->lok H g:=by unfold TV.words at h;split at h;rename_i x;split at h;rename_i a;simp at a;injection h with h;subst h;refine⟨a.2,?_,λH b=>b⟩;rw[IC,M0 a.1];exact Bw.scalar_cells a.1;cases h;injection h with h;subst h;exact⟨rfl,rfl,λH b=>b⟩;cases h
theorem mf{f c:Ψ Bw}{d n}(h:ADr g d f n=δ c)(hn:(lvs f).length=n):lvs c=XV (lvs g) d (lvs f)/\d+n<=(lvs g).length/\∀H,lok H g->lok H f->lok H c:=by unfold ADr at h;split at h;rename_i a r i;obtain⟨rfl,l⟩:=PA i;split at h;rename_i m b e;obtain⟨rfl,o⟩:=PA e;refine⟨?_,by simp only[G5,AZ];omega,λH j k=>?_⟩;grind[XV,G5];grind[Jd];cases h;cases h
mutual
theorem Ty.zlvs_ok{H:As}:∀t:Ty,lok H t.zlvs
 |.bool=>λy a=>by simp only[Ty.zlvs,A9]at a;subst a;trivial
 |.int _=>λy a=>by simp only[Ty.zlvs,A9]at a;subst a;trivial
 |.str=>λy a=>by simp only[Ty.zlvs,A9]at a;subst a;trivial
 |.list _=>λy a=>by simp only[Ty.zlvs,A9]at a;subst a;trivial
 |.arr n t=>λy a=>by simp only[Ty.zlvs,A9]at a;subst a;trivial
 |.prod b=>by simp only[Ty.zlvs];exact b.zlvs_ok
theorem Sr.zlvs_ok{H:As}:∀a:Sr,lok H a.zlvs
 |.one t=>by simp only[Sr.zlvs];exact t.zlvs_ok
 |.cons t a=>by simp only[Sr.zlvs];exact Jd.2 ⟨t.zlvs_ok,a.zlvs_ok⟩
end
def ADV(v:Ad):(wz v).enc=[v]:=by cases v<;>rfl
theorem AFB(v:Ad):(wz v).ok c:=by cases v<;>trivial
theorem rD:∀z:Ψ Ad,lvs (z.map wz)=z
 |[]=>rfl
 |v::r=>by rw[B4,IC,rD r,ADV];rfl
theorem ACj(z:Ψ Ad):lok c (z.map wz):=λx a=>by grind[AFB]
theorem Zm(h:vg P b=δ g):Zk P b=δ (lvs g)/\∀H,lok H g:=by unfold vg at h;split at h;rename_i a t;split at h;rename_i e d;split at h;rename_i c;injection h with h;subst h;exact⟨by rw[t,mL _ _ c],λH=>e.zlvs_ok⟩;grind[rD,ACj];grind[rD,ACj];cases h
theorem uZ{p}:∀{a}{c b:Ψ Bw},zg p c a=δ b->sH p (lvs c) (a.map λq=>(q.1,q.2.enc))=δ (lvs b)/\∀H,lok H c->(∀q∈a,q.2.ok H)->lok H b
 |[],c,b,h=>by simp only[zg,Ar]at h;subst h;exact⟨rfl,λH h _=>h⟩
 |(i,v)::r,c,b,h=>by simp only[zg]at h;split at h;rename_i m size z t l;split at h;rename_i k;have e:=DH k;split at h;rename_i s d;obtain⟨x,y,o⟩:=Zj l;obtain⟨u,w,n⟩:=mf d (by rw[fe,e]);obtain⟨q1,q2⟩:=uZ h;refine⟨?_,λH g f=>q2 H (n H g (o H (f (i,v) q!))) λq j=>f q (by simp[j])⟩;grind[sH,fe];cases h;cases h;cases h
section
variable {P:Program}{R:Type}{env:Bi}{H:As}{k:TV->Ω R}{r:R}
theorem zO{a}(h:AA7 P b a=δ i):uF P b (a.map λq=>(q.1,q.2.enc))=δ i.enc/\((∀q∈a,q.2.ok H)->i.ok H):=by unfold AA7 at h;split at h;rename_i z p e j;obtain⟨k,f⟩:=Zm e;rw[Tr]at h;obtain⟨g,c,rfl⟩:=h;obtain⟨t,v⟩:=uZ c;refine⟨?_,λd=>v H (f H) d⟩;grind[uF,TV.enc];cases h
def rO:∀{l}{m:Ψ Ad},tE l=δ m->m=l.map TV.enc
 |[],m,h=>by simp only[tE,Ar]at h;subst h;rfl
 |.c x::r,m,h=>by simp only[tE]at h;split at h;rename_i b _ a;injection h with h;subst h;rw[B4,<-rO a];rfl;cases h
 |.g _::_,m,h=>by simp[tE]at h
 |.aptr .. ::_,m,h=>by simp[tE]at h
 |.bptr .. ::_,m,h=>by simp[tE]at h
 |.vw .. ::_,m,h=>by simp[tE]at h
 |.vptr .. ::_,m,h=>by simp[tE]at h
 |.tup _::_,m,h=>by simp[tE]at h
def xC{y}(h:mmT G i y k=δ r):∃u,mmV G [i.enc,y.enc]=δ u.enc/\k u=δ r/\u.ok H:=by unfold mmT at h;split at h;exact⟨_,by simp only[TV.enc,Bw.one,mmV],h,KB trivial⟩;cases h
def ABU{y z}(h:AJF i y z k=δ r):∃u,mm3 i.enc y.enc z.enc=δ u.enc/\k u=δ r/\u.ok H:=by unfold AJF at h;split at h;exact⟨_,by simp only[TV.enc,Bw.one,mm3],h,KB trivial⟩;cases h
theorem xM{F}(ok:OL env H)(h:quT P env H F k=δ r):∃v,Ci P (B3 env) (BL H) F=δ v.enc/\k v=δ r/\v.ok H:=by
 have j:∀x,(Jx env x).ok H:=iD ok.env;have g:=Lx env;unfold quT at h;split at h;grind[Ci];grind[Ci];rename_i c a b;split at h;rename_i t K;have w:BS (B3 env) c=.bool t:=by rw[g,K];rfl
 grind[Ci,Bool.false_eq_true];cases h;obtain⟨u,d,e⟩:=sO ok.heap (j _) h;grind[Ci];rename_i x;split at h;grind[BS,B3,Ci,km,TV.enc,Bw.one,KB];grind[BS,B3,Ci,TV.enc,Bw.one,KB];grind[BS,B3,lvs,Ci,TV.enc];grind[BS,B3,Ci,km,TV.enc];rename_i id D G n i B s;split at h;rename_i l A;have w:BS (B3 env) x=.ptr id n (i.toNat*G.sz+B):=by rw[g,s];rfl
 have:=j x;rw[s]at this;exact⟨_,by simp only[Ci,w,pD ok.heap (this (.own id D G n) (by simp[TV.refs])) A,if_true,TV.enc],h,this⟩;cases h;cases h;simp_all[AA3,Ci];obtain⟨u,d,e⟩:=ADw (H:=H) h;exact⟨u,by simp only[Ci,g,d],e⟩;obtain⟨u,d,e⟩:=zT ok.heap (j _) h;exact⟨u,by simp only[Ci,g,d],e⟩;obtain⟨u,d,e⟩:=qh ok.heap (j _) h;exact⟨u,by simp only[Ci,g,d],e⟩;obtain⟨u,d,e⟩:=yA (j _) h;exact⟨u,by simp only[Ci,g,d],e⟩;obtain⟨u,d,e⟩:=qy ok.heap (j _) h;exact⟨u,by simp only[Ci,g,d],e⟩;obtain⟨u,d,e⟩:=yH (H:=H) (j _) h;exact⟨u,by simp only[Ci,g,d],e⟩;rename_i t x Q O R;obtain⟨u,d,e⟩:=yn ok.heap (j _) h;have q:∀o:Ω Operand,o.map (BS (B3 env))=(o.map (Jx env)).map TV.enc:=by
  intro o;cases o with
  |none=>rfl
  |some y=>simp only[Bu,g]
 exact⟨u,by simp only[Ci,g,q,d],e⟩;rename_i x i;split at h;rename_i N s;split at h;rename_i v z;have w:BS (B3 env) x=.tup (N.map TV.enc):=by rw[g,s];simp only[TV.enc,uV]
 have E:=j x;rw[s]at E;exact⟨v,by simp only[Ci,w,CT,z,Bu],h,rJ E (BP z)⟩;cases h;cases h;rename_i f a b;split at h;rename_i l m A L;refine⟨_,?_,h,KB trivial⟩;have q:∀o:Ψ Operand,o.map (BS (B3 env))=(o.map (Jx env)).map TV.enc:=by intro o;rw[PJ];exact NS λy _=>g y
 simp only[Ci,q,<-rO A,<-rO L,TV.enc,Bw.one];cases h;rename_i t C;obtain⟨v,z,h⟩:=XS h;obtain⟨I,J⟩:=zO (H:=H) z;refine⟨v,?_,h,J λq M=>?_⟩;simp only[Ci];rw[<-I,PJ];congr 1;exact NS λp _=>by simp only[Function.comp,g]
 obtain⟨p,_,rfl⟩:=Bp.1 M;exact j _;obtain⟨u,d,e⟩:=ABN ok.heap (j _) h;exact⟨u,by simp only[Ci,g,d],e⟩;obtain⟨u,d,e⟩:=xC (H:=H) h;exact⟨u,by simp only[Ci,g,d],e⟩;obtain⟨u,d,e⟩:=xC (H:=H) h;exact⟨u,by simp only[Ci,g,d],e⟩;obtain⟨u,d,e⟩:=ABU (H:=H) h;exact⟨u,by simp only[Ci,g,d],e⟩;cases h
end
def Conv(x y:Cx)(v v':Ad):Prop:=∀c,Bz x v c->Bz y v' c
def Tk(x y:Cx)(H H2:Aw):Prop:=
 θ H2=θ H/\∀(j:Nat)(e':Ft),H2[j]?=δ e'->e'=.dead\/
  (∃g cs cs',H[j]?=δ (.live g cs)/\e'=.live g cs'/\θ cs'=θ cs/\∀(i:Nat)(v':Ad),cs'[i]?=δ v'->∃v,cs[i]?=δ v/\Conv x y v v')\/
  (H[j]?=δ e'/\∀g cs,e'≠.live g cs)
theorem Tk.refl(x:Cx)(H:Aw):Tk x x H H:=by
 refine⟨rfl,λj a d=>?_⟩;cases a with
 |live g c=>exact .inr (.inl ⟨g,c,c,d,rfl,rfl,λi v b=>⟨v,b,λ_ r=>r⟩⟩)
 |_=>grind
theorem Tk.own{y}{H d}{h}(hr:Tk x y H d):∀B,owned h d B->owned h H B:=by rintro B ⟨j,f,i,c,a⟩;rcases hr.2 j f i with b|⟨g,k,e,b,_⟩|⟨b,_⟩;grind;exact⟨j,_,b,q!,a⟩;exact⟨j,_,b,c,a⟩
def Tk.later{h}{H a}{w}{x y}(hr:Tk x y H a):(cx X h H w).Later (cx X h a w):={size:=Al _,keep:=λ_ _ _ _=>rfl,own:=λB _ b=>b.imp _root_.id (hr.own B),n:=by simp[cx,hr.1],gen:=λ_ _=>Al _,same:=λ_ _ _=>⟨rfl,rfl⟩}
theorem JT.rel{X:Nat->Prop}{h}{n}(s:JT X h C w)(hr:Tk (cx X h C w) (cx X h n w) C n):JT X h n w:=by
 have y:=hr.own (h:=h);have M:(cx X h C w).Later (cx X h n w):=hr.later;have back:∀{j:Nat}{e:Ft},n[j]?=δ e->e≠.dead->∃N,C[j]?=δ N/\N≠.dead:=by intro j e l ad;rcases hr.2 j e l with a|⟨g,z,H,a,_⟩|⟨a,_⟩;grind;grind;grind
 refine⟨λB p=>⟨(s.out B p).1,λho=>(s.out B p).2 (y B ho)⟩,λj Q H l=>?_,λj L l=>?_,λi j e e' B a c J K O D=>?_,s.bldKeep λj e l p=>?_⟩;rcases hr.2 j _ l with a|⟨g,z,o,a,c,O,D⟩|⟨_,a⟩;cases a;injection c with R S;subst R S;obtain⟨I,W⟩:=s.live j Q z a;refine⟨I,?_⟩;rcases W with⟨k,h0⟩|⟨B,A,T,P,f,k,V,q,Z,G,b⟩;refine .inl ⟨k,?_⟩;grind;refine .inr ⟨B,A,T,P,f,k,V,q,o!,G,λi v' Y=>?_⟩;obtain⟨v,hv,U⟩:=D i v' Y;obtain⟨p1,p2,p3⟩:=b i v hv;exact⟨p1,p2,U _ p3⟩;grind;rcases hr.2 j _ l with a|⟨g,z,o,_,c,_⟩|⟨a,_⟩;cases a;cases c;obtain⟨I,B,r,q1,q2,q3,q4,q5,q6,q7,q8,q9⟩:=s.lp j L a;exact⟨I,B,r,q1,q2,q3,q4,q5,q6,q7,q8,λt v m=>⟨(q9 t v m).1,(q9 t v m).2.later M⟩⟩;obtain⟨d,E,F⟩:=back a J;obtain⟨d',u,x⟩:=back c K;exact s.inj i j _ _ B E u F x O D;refine⟨?_,rfl,rfl,rfl,λ_ _ _ _ _=>rfl⟩;rcases hr.2 j _ l with a|⟨g,z,o,_,c,_⟩|⟨a,_⟩;subst a;cases p;subst c;cases p;exact a
theorem Tk.onto{a}(hr:Tk (cx X h C w) (cx X h C w) C a):Tk (cx X h C w) (cx X h a w) C a:=by have e:(cx X h C w).Later (cx X h a w):=hr.later;refine⟨hr.1,λj k p=>?_⟩;rcases hr.2 j k p with d|⟨g,f,b,d,l,m,n⟩|d;grind;refine .inr (.inl ⟨g,f,b,d,l,m,λi q o=>?_⟩);obtain⟨v,q1,q2⟩:=n i q o;exact⟨v,q1,λc r=>(q2 c r).later e⟩;grind
def Wz{env2:Env}{b:Aw}(f:θ b=θ C)(hr:∀X h w,JT X h C w→Tk (cx X h C w) (cx X h b w) C b∧ ∀t c,(t,c)∈env2→ ∃v,(t,v)∈q∧Conv (cx X h C w) (cx X h b w) v c):
  FX N (θ C) q C env2 b:=by
 refine⟨o!,λX h a w s=>?_⟩;obtain⟨q1,q2⟩:=hr X h w s.sim;refine⟨h,⟨s.sim.rel q1,λt c m=>?_,s.size⟩,λ_ _=>⟨rfl,rfl,rfl⟩,q1.own⟩;obtain⟨v,d,e⟩:=q2 t c m;exact⟨(s.env t v d).1,e _ (s.env t v d).2⟩
def Tk.ext{X:Nat->Prop}{c}{H a b}{d}{y}(hr:Tk x y H b)(e:HM c a d h H w):HM c a d h b w where
 os:=e.os
 tape:=e.tape
 output:=e.output
 size:=e.size
 keep:=e.keep
 n:=by rw[hr.1];exact e.n
 gen:=e.gen
 same:=e.same
 fresh B hB:=e.fresh B (hr.own B hB)
 loops:=e.loops
def Jw.after{N:Nat}{H:Aw}{v f:Ad}{H1 b:Aw}(h:Jw P N o q H (DW v H1))
  (hr:∀X h w,JT X h H1 w->Tk (cx X h H1 w) (cx X h b w) H1 b/\Conv (cx X h H1 w) (cx X h b w) v f):Jw P N o q H (DW f b):=by
 intro r X g a w s Q;apply Wv (h r X g a w s Q);rintro n l ⟨c,u,d,m,i,⟨rfl,rfl⟩,j,e,k⟩;obtain⟨q1,q2⟩:=hr X d l e;exact⟨c,_,d,_,i,⟨rfl,rfl⟩,q2 _ j,e.rel q1,Tk.ext (X:=X) q1 k⟩
def Jw.before{N}{env2}{H H2:Aw}{K:Ad->Aw->Prop}(b:FX N (θ H) q H env2 H2)(h:Jw P N o env2 H2 K):Jw P N o q H K:=by intro r X g a w s Q;obtain⟨f,x,j,l⟩:=b.2 X g a w s;apply Wv (h r X f a w x Q);rintro t u ⟨c,v,e,d,i,k,n,m,p⟩;exact⟨c,v,e,d,i,k,n,m,(FX.ext rfl b.1 j l (HM.refl g H w)).trans p⟩
def Ej.before{args args2:Ψ Ad}{H H2:Aw}{K:Ad→Aw→Prop}(hn:θ args2=θ args)
  (hr:∀X h w,JT X h H w->Tk (cx X h H w) (cx X h H2 w) H H2/\∀(j:Nat)(b:Ad),args2[j]?=δ b->∃v,args[j]?=δ v/\Conv (cx X h H w) (cx X h H2 w) v b)
  (h:Ej P S args2 H2 K):Ej P S args H K:=by
 intro X g w a s n k;obtain⟨q1,q2⟩:=hr X g w s;refine(h X g w a (s.rel q1) o! λj b c m l=>?_).mono ?_;obtain⟨v,o,d⟩:=q2 j b m;exact d _ (k j v c o l);rintro e t ⟨c,v,i,f,rfl,q,r,p,x⟩;exact⟨c,v,i,f,rfl,q,r,p,(Tk.ext (X:=X) q1 (HM.refl g H w)).trans x⟩
def Xc(v v':Ad):Prop:=∀x c,Bz x v c->Bz x v' c
def Xc.refl(v:Ad):Xc v v:=λ_ _ h=>h
def Xc.nil{sz:Nat}(h:0<sz):Xc .nils (.vs sz []):=λ_ _ r=>r.nil_vs h
def Dq(cs cs':Ψ Ad):Prop:=θ cs'=θ cs/\∀(i:Nat)(v':Ad),cs'[i]?=δ v'->∃v,cs[i]?=δ v/\Xc v v'
theorem Dq.refl(a:Ψ Ad):Dq a a:=⟨rfl,λ_ v h=>⟨v,h,.refl v⟩⟩
theorem Dq.append{e b f}(c:Dq p e)(g:Dq b f):Dq (p++b) (e++f):=by refine⟨by simp[c.1,g.1],λi j h=>?_⟩;rcases Az i (θ e) with d|d;rw[CZ d]at h;obtain⟨v,q1,q2⟩:=c.2 i j h;grind;rw[Cn d]at h;obtain⟨v,q1,q2⟩:=g.2 _ j h;exact⟨v,by rw[Cn (by rw[<-c.1];exact d),<-c.1];exact q1,q2⟩
theorem Dq.one{b}(h:Xc u b):Dq [u] [b]:=⟨rfl,λi v a=>by
 match i,a with
 |0,a=>grind
 |i+1,a=>simp at a⟩
def Dq.agg{b a}(h:Dq b a):Xc (.agg b) (.agg a):=by
 intro x c r;cases r with
 |agg i e hr=>refine .agg (by rw[i,h.1]) e λj k d g f=>?_;obtain⟨v,q1,q2⟩:=h.2 j k g;exact q2 _ _ (hr j v d q1 f)
mutual
def Ty.mk:(t:Ty)->Ψ Bw->Ω (t.D×Ψ Bw)
 |.bool,.bl b::r=>δ (b,r)
 |.int k,.it k' n::r=>if k=k' then δ (n,r)else ε
 |.str,.st s::r=>δ (s,r)
 |.list t,.ls t' l::r=>if h:(Ty.list t').beq (Ty.list t)=ζ then δ (Ty.cast h l,r)else ε
 |.list _,.nil::r=>δ ([],r)
 |.arr n t,.ar n' t' a::r=>if h:(Ty.arr n' t').beq (Ty.arr n t)=ζ then δ (Ty.cast h a,r)else ε
 |.prod ts,ls=>ts.mk ls
 |_,_=>ε
def Sr.mk:(ts:Sr)->Ψ Bw->Ω (ts.D×Ψ Bw)
 |.one t,ls=>t.mk ls
 |.cons t ts,ls=>
  match t.mk ls with
  |some (x,r)=>match ts.mk r with|some (y,r')=>δ ((x,y),r')|none=>ε
  |none=>ε
end
mutual
theorem Ty.mk_spec:∀(t:Ty)b(x:t.D)(r:Ψ Bw),t.mk b=δ (x,r)->∃a,b=a++r/\Dq (lvs a) (t.enc x).cells
 |.bool,b,x,r,h=>by
  cases b with
  |nil=>simp[Ty.mk]at h
  |cons y b=>
   cases y<;>simp only[Ty.mk]at h<;>try (cases h;done)
   simp only[Ar,Ee]at h;obtain⟨rfl,rfl⟩:=h;exact⟨[_],rfl,Dq.refl _⟩
 |.int k,b,x,r,h=>by
  cases b with
  |nil=>simp[Ty.mk]at h
  |cons y b=>
   cases y<;>simp only[Ty.mk]at h<;>try (cases h;done)
   split at h;rename_i f;subst f;simp only[Ar,Ee]at h;obtain⟨rfl,rfl⟩:=h;exact⟨[_],rfl,Dq.refl _⟩;cases h
 |.str,b,x,r,h=>by
  cases b with
  |nil=>simp[Ty.mk]at h
  |cons y b=>
   cases y<;>simp only[Ty.mk]at h<;>try (cases h;done)
   simp only[Ar,Ee]at h;obtain⟨rfl,rfl⟩:=h;exact⟨[_],rfl,Dq.refl _⟩
 |.list t,b,x,r,h=>by
  cases b with
  |nil=>simp[Ty.mk]at h
  |cons y b=>
   cases y<;>simp only[Ty.mk]at h<;>try (cases h;done)
   split at h;rename_i c;simp only[Ar,Ee]at h;obtain⟨rfl,rfl⟩:=h;refine⟨[_],rfl,?_⟩;have d:((Ty.list t).enc (Ty.cast c ‹_›))=_:=eR c _;rw[d];exact Dq.refl _;cases h;simp only[Ar,Ee]at h;obtain⟨rfl,rfl⟩:=h;exact⟨[_],rfl,Dq.one (Xc.nil t.sz_pos)⟩
 |.arr n t,b,x,r,h=>by
  cases b with
  |nil=>simp[Ty.mk]at h
  |cons y b=>
   cases y<;>simp only[Ty.mk]at h<;>try (cases h;done)
   split at h;rename_i c;simp only[Ar,Ee]at h;obtain⟨rfl,rfl⟩:=h;refine⟨[_],rfl,?_⟩;have d:((Ty.arr n t).enc (Ty.cast c ‹_›))=_:=eR c _;rw[d];have e:∀y:Bw,lvs [y]=y.enc:=λy=>by rw[IC];simp[lvs]
   rw[e];exact Dq.refl _;cases h
 |.prod ts,b,x,r,h=>ts.mk_spec b x r (by simpa only[Ty.mk]using h)
theorem Sr.mk_spec:∀(d:Sr)c(x:d.D)(r:Ψ Bw),d.mk c=δ (x,r)->∃a,c=a++r/\Dq (lvs a) (d.cells x)
 |.one t,c,x,r,h=>t.mk_spec c x r (by simpa only[Sr.mk]using h)
 |.cons t d,c,x,r,h=>by simp only[Sr.mk]at h;split at h;rename_i y e f;split at h;rename_i z k g;simp only[Ar,Ee]at h;obtain⟨rfl,rfl⟩:=h;obtain⟨a,rfl,i⟩:=t.mk_spec c y e f;obtain⟨b,rfl,j⟩:=d.mk_spec e z k g;exact⟨a++b,by rw[A2],by rw[G5];exact i.append j⟩;cases h;cases h
end
def Ty.isAgg:Ty->Bool
 |.arr .. =>ζ
 |.prod _=>ζ
 |_=>η
def Ty.all(t:Ty)(ls:Ψ Bw):Ω t.D:=
 match t.mk ls with
 |some (x,[])=>δ x
 |_=>ε
theorem Fy{x:t.D}(h:t.all g=δ x):Dq (Go.Ab.lvs g) (t.enc x).cells:=by unfold Ty.all at h;split at h;rename_i y c;obtain⟨a,rfl,d⟩:=t.mk_spec g y [] c;grind;cases h
def Ty.data(t:Ty)(v:TV):Ω t.D:=
 match v with
 |.c x=>match t.isAgg|| !x.scalar with|true=>ε|false=>t.all [x]
 |.g cs=>match t.isAgg with|true=>t.all cs|false=>ε
 |_=>ε
def Ty.scalar_cells(h:t.isAgg=η)(x:t.D):(t.enc x).cells=[t.enc x]:=by cases t<;>first|rfl|cases h
def Ty.agg_enc(h:t.isAgg=ζ)(x:t.D):t.enc x=.agg (t.enc x).cells:=by cases t<;>first|rfl|cases h
def M1{v}{x:t.D}(h:t.data v=δ x):Xc v.enc (t.enc x):=by unfold Ty.data at h;split at h;rename_i y;split at h;cases h;rename_i a;simp at a;have:=Fy h;rw[t.scalar_cells a.1,IC,M0 a.2]at this;obtain⟨u,b,c⟩:=this.2 0 _ rfl;simp at b;subst b;exact c;rename_i d;split at h;rename_i a;have:=(Fy h).agg;rw[<-t.agg_enc a]at this;exact this;cases h;cases h
def Ty.tv(t:Ty)(x:t.D):TV:=
 match t,x with
 |.bool,b=>.c (.bl b)
 |.int k,n=>.c (.it k n)
 |.str,s=>.c (.st s)
 |.list t,l=>.c (.ls t l)
 |.arr n t,a=>.g [.ar n t a]
 |.prod ts,x=>.g (ts.lvs x)
def Ty.tv_enc(t:Ty)(x:t.D):(t.tv x).enc=t.enc x:=by
 cases t with
 |arr n t=>
  have a:∀y:Bw,Go.Ab.lvs [y]=y.enc:=λy=>by rw[IC];simp[Go.Ab.lvs]
  simp only[Ty.tv,TV.enc,a];rfl
 |prod b=>simp only[Ty.tv,TV.enc,b.lvs_cells];rfl
 |_=>rfl
def Ty.tv_ok(t:Ty)(x:t.D):(t.tv x).ok c:=by
 cases t with
 |prod a=>exact a.lvs_ok x
 |_=>exact KB trivial
def Dx.ro:Dx->Bool
 |.dead=>η
 |.live b _=>b
 |.buf b _ _ _ _=>b
 |.lp b _ _ _ _ _ _ _=>b
 |.mp b _ _ _=>b
def Dx.isLp:Dx->Bool
 |.lp .. =>ζ
 |_=>η
def LpS(H H':As):Prop:=∀(id:Nat),id<θ H->∀ro F n env ps a b s,H'[id]?=δ (.lp ro F n env ps a b s)->∃ro0 s0,H[id]?=δ (.lp ro0 F n env ps a b s0)
def LpS.refl(H:As):LpS H H:=λ_ _ _ _ _ _ _ _ _ _ h=>⟨_,_,h⟩
def Dx.lock:Dx->Dx
 |.dead=>.dead
 |.live _ cs=>.live ζ cs
 |.buf _ t l n ver=>.buf ζ t l n ver
 |.lp _ F n env ps a b s=>.lp ζ F n env ps a b s
 |.mp _ k t es=>.mp ζ k t es
theorem ph(e:Dx):e.lock.enc=e.enc:=by cases e<;>rfl
structure CL(H H':As):Prop where
 len:H.length<=H'.length
 refs:∀id ver t n,TY H id ver t n->TY H' id ver t n
 ro:∀(id:Nat)(e:Dx),H[id]?=some e->e.ro=true->H'[id]?=some e
 nb:∀id,id<H.length->(∀t l n ver,H[id]? ≠some (.buf false t l n ver))->∀t l n ver,H'[id]? ≠some (.buf false t l n ver)
 lp:LpS H H'
theorem CL.refl(H:As):CL H H:=⟨Al _,λ_ _ _ _ h=>h,λ_ _ h _=>h,λ_ _ h=>h,.refl H⟩
def CL.trans{a b c}(h:CL a b)(k:CL b c):CL a c:=⟨Cq h.len k.len,λid d t n q=>k.refs id d t n (h.refs id d t n q),λid e q r=>k.ro id e (h.ro id e q r) r,λid q r=>k.nb id (DM q h.len) (h.nb id q r),λid q _ _ _ _ _ _ _ _ r=>by obtain⟨g,i,f⟩:=k.lp id (DM q h.len) _ _ _ _ _ _ _ _ r;exact h.lp id q _ _ _ _ _ _ _ _ f⟩
def CL.leaf(h:CL c L)(k:B.ok c):B.ok L:=by
 cases B with
 |own id a t n=>exact h.refs id a t n k
 |_=>trivial
def CL.lok(h:CL c L)(k:lok c g):lok L g:=λx H=>h.leaf (k x H)
def CL.tv(h:CL c L)(k:i.ok c):i.ok L:=h.lok k
def CL.ent(h:CL c L)(k:I.ok c):I.ok L:=by
 cases I with
 |live b d=>exact h.lok k
 |buf b t l n H=>exact k
 |dead=>trivial
 |lp=>exact k
 |mp=>exact k
def CL.env{H a}(h:CL H a){env:Bi}(k:∀p∈env,p.2.ok H):∀p∈env,p.2.ok a:=λp b=>h.tv (k p b)
theorem CL.push(H:As)(e:Dx):CL H (H++[e]):=by refine⟨q!,λid g t n h=>⟨by have:=h.1;simp;omega,λro f l d a b=>?_⟩,λid i b hr=>?_,λid c h=>k!,λid c _ _ _ _ _ _ _ _ h=>k!⟩;rw[CZ h.1]at b;exact h.2 ro f l d a b;grind
def CL.set{H:As}{id:Nat}{r:Dx}(o:H[id]?=δ I)(hr:I.ro=η)
  (y:∀ro t l n k,r=.buf ro t l n k->∃d v p f,I=.buf d t v p f/\(f<k\/(f=k/\p=n)))
  (B:∀ro F n env z a b s,r=.lp ro F n env z a b s->∃d w,I=.lp d F n env z a b w:=by intro _ _ _ _ _ _ _ _ h;cases h):CL H (H.set id r):=by
 have m:id<θ H:=by rcases Az id (θ H) with u|u;exact u;rw[Ct u]at o;cases o
 refine⟨q!,λj k t n h=>⟨by simpa using h.1,λro e l G A g=>?_⟩,λj E g x=>?_,λj g h t l n k i=>?_,λj g _ _ _ _ _ _ _ _ i=>?_⟩;by_cases c:j=id;subst c;rw[HB m]at g;injection g with g;obtain⟨d,v,p,f,q1,q2⟩:=y _ _ _ _ _ g;subst q1;obtain⟨C,D⟩:=h.2 _ _ _ _ _ o;rcases q2 with q2|⟨rfl,rfl⟩;exact⟨o!,λI=>o!⟩;exact⟨C,D⟩;rw[Dc (c ·.symm)]at g;exact h.2 _ _ _ _ _ g;have c:j≠id:=by rintro rfl;rw[o]at g;injection g with g;subst g;rw[hr]at x;cases x
 rw[Dc (c ·.symm)];exact g;by_cases c:j=id;subst c;rw[HB m]at i;injection i with i;obtain⟨d,v,p,f,q1,_⟩:=y _ _ _ _ _ i;subst q1;have:d=η:=hr;subst this;exact h _ _ _ _ o;rw[Dc (c ·.symm)]at i;exact h _ _ _ _ i;by_cases c:j=id;subst c;rw[HB m]at i;injection i with i;obtain⟨d,w,q⟩:=B _ _ _ _ _ _ _ _ i;exact⟨d,w,by rw[o,q]⟩;rw[Dc (c ·.symm)]at i;exact⟨_,_,i⟩
theorem QF{H:As}(h:∀x∈H,x.ok H)(b:I.ok (H++[I])):∀x∈H++[I],x.ok (H++[I]):=by intro x a;rcases Ak.1 a with a|a;exact(CL.push H I).ent (h x a);grind
def R0{H}{id}(d:CL H (H.set id I))(h:∀x∈H,x.ok H)(c:I.ok (H.set id I)):∀x∈H.set id I,x.ok (H.set id I):=by intro x b;rcases Q5 b with b|rfl;exact d.ent (h x b);exact c
def Frame(F:Ψ Nat)(H H':As):Prop:=∀j,j<θ H->j∉F->H'[j]?=H[j]?
def Frame.refl(F:Ψ Nat)(H:As):Frame F H H:=λ_ _ _=>rfl
def Frame.push(F:Ψ Nat)(H:As)(e:Dx):Frame F H (H++[e]):=λ_ a _=>CZ a
theorem Frame.set{F:Ψ Nat}{H}{id:Nat}(h:id∈F):Frame F H (H.set id I):=λj _ hn=>Dc λq:id=j=>hn k!
def idT:TV->Ψ Nat
 |.c (.raw a)=>qv a
 |.c (.own id _ _ _)=>[id]
 |.aptr id .. =>[id]
 |.bptr id .. =>[id]
 |.vw id .. =>[id]
 |_=>[]
def AHG(v:TV):∀id∈qv v.enc,id∈idT v:=by
 cases v with
 |c x=>
  cases x with
  |_=>exact λ_ h=>h
 |vw id a t n b m=>intro i h;simp only[TV.enc,vwE]at h;split at h;split at h;exact h;cases h;exact h
 |_=>exact λ_ h=>h
def Rr(H:As)(e:Dx):BL (H++[e])=BL H++[e.enc]:=by simp[BL]
theorem LY(H:As)(id:Nat)(e:Dx):BL (H.set id e)=(BL H).set id e.enc:=by simp[BL]
theorem Cd(H:As):(BL H).length=θ H:=Ba _
section
variable {R:Type}
def storeT(P:Program)(H:As)(t:TypeId)(p v:TV)(k:TV->As->Ω R):Ω R:=
 match v.words,tI P t with
 |some ws,δ (_,n)=>
  match ξ (AGE ws) n with
  |false=>ε
  |true=>
   match p with
   |.c (.raw (.ptr id 0 off))=>
    match H[id]? with
    |some (.live η cs)=>match ADr cs off ws n with|some cs'=>k Vv (H.set id (.live η cs'))|none=>ε
    |_=>ε
   |.aptr id base m te i off=>
    match H[id]? with
    |some (.live η cs)=>
     match Xz cs base with
     |some (pre,.ar m' te' a::post)=>
      if h:(Ty.arr m' te').beq (Ty.arr m te)=ζ then
       (Gy (n:=m+1) (Ty.cast h a) i).bind λe=>
        match ADr (te.lvs e) off ws n with
        |some ls=>match te.all ls with|some e'=>k Vv (H.set id (.live η (pre++(.ar m te (Xe (n:=m+1) (Ty.cast h a) i e')::post))))|none=>ε
        |none=>ε
      else ε
     |_=>ε
    |_=>ε
   |.bptr id ver te _ i off=>
    match H[id]? with
    |some (.buf η te' l n' ver')=>
     match ξ ver ver' with
     |true=>
      if h:(Ty.list te').beq (Ty.list te)=ζ then
       (ix (α:=te.D) (Ty.cast h l) i).bind λe=>
        match ADr (te.lvs e) off ws n with
        |some ls=>match te.all ls with|some e'=>k Vv (H.set id (.buf η te (ER (α:=te.D) (Ty.cast h l) i e') n' ver'))|none=>ε
        |none=>ε
      else ε
     |false=>ε
    |_=>ε
   |_=>ε
 |_,_=>ε
theorem AAc{x b d:Ψ Ad}(h:N+θ d<=θ x):XV (p++x++b) (θ p+N) d=p++XV x N d++b:=by
 unfold XV;have e:(p++x++b).take (θ p+N)=p++x.take N:=by rw[A2,fm,BN o!,Tp,WW o!]
 have f:(p++x++b).drop (θ p+N+θ d)=x.drop (N+θ d)++b:=by grind[List.drop_drop,List.drop_left]
 grind
theorem Tk.set_less{y}{H m n:Aw}{f cs':Ψ Ad}(k:N<θ H)(s:m=H.set N (.live W f))(t:n=H.set N (.live W cs'))(o:Dq f cs')(d:x.Later y):Tk x y m n:=by
 subst s t;refine⟨q!,λj p a=>?_⟩;by_cases b:j=N;subst b;rw[HB k]at a;injection a with a;subst a;refine .inr (.inl ⟨W,f,cs',k!,rfl,o.1,λi l h=>?_⟩);obtain⟨v,q1,q2⟩:=o.2 i l h;exact⟨v,q1,λc r=>q2 _ _ (r.later d)⟩;rw[Dc (b ·.symm)]at a;cases p with
 |live q c0=>exact .inr (.inl ⟨q,c0,c0,k!,rfl,rfl,λi l h=>⟨l,h,λc r=>r.later d⟩⟩)
 |_=>grind
theorem iz{b:Aw}(l:θ b=θ C)(i:∀(j:Nat)(e:Ft),b[j]?=δ e->e≠.dead->∃a,C[j]?=δ a/\a≠.dead):(cx X h C w).Later (cx X h b w):={size:=Al _,keep:=λ_ _ _ _=>rfl,gen:=λ_ _=>Al _,same:=λ_ _ _=>⟨rfl,rfl⟩,n:=by simp[cx,l],own:=λB _ m=>m.imp _root_.id (λ⟨j,e,k,d,c⟩=>by obtain⟨a,f,g⟩:=i j e k d;exact⟨j,a,f,g,c⟩)}
theorem Jw.set_less{N}{b cs':Ψ Ad}(d:n<θ C)(h:Jw P N o q C (DW u (C.set n (.live W b))))(f:Dq b cs'):Jw P N o q C (DW u (C.set n (.live W cs'))):=by
 refine Jw.after h λX e w _=>?_;have a:(cx X e (C.set n (.live W b)) w).Later (cx X e (C.set n (.live W cs')) w):=by grind[iz]
 exact⟨Tk.set_less d rfl rfl f a,λc r=>r.later a⟩
theorem HK{l:Ψ R}{x:R}(h:l[N]?=δ x):N<θ l:=k!
variable {P:Program}{N:Nat}{o:Oper}{env:Bi}{H:As}{k:TV->As->Ω R}{r:R}
def nV(P:Program)(N:Nat)(o:Oper)(env:Bi)(H:As)(F:Ψ Nat)(k:TV->As->Ω R)(r:R):Prop:=
 ∃v H',Jw P N o (B3 env) (BL H) (DW v.enc (BL H'))/\k v H'=δ r/\v.ok H'/\(∀e∈H',e.ok H')/\CL H H'/\Frame F H H'
theorem yo(ok:OL env H)(ho:o.op=.store b e y)(h:storeT P H b (Jx env e) (Jx env y) k=δ r):nV P N o env H (idT (Jx env e)) k r:=by
 have V:=Lx env;have a1:(Jx env y).ok H:=iD ok.env y;have ao:(Jx env e).ok H:=iD ok.env e;unfold storeT at h;split at h;rename_i ws x n hw ht;obtain⟨w1,Y,w3⟩:=Zj hw;split at h;cases h;rename_i hn;have f:(lvs ws).length=n:=by grind[fe,Nat.eq_of_beq_eq_true]
 have R:tI P b=δ (x,(Jx env y).enc.cells.length):=k!
 split at h;rename_i id d F;split at h;rename_i cs u;split at h;rename_i L hs;obtain⟨s1,s2,s3⟩:=mf hs f;have B:(BL H)[id]?=δ (.live 0 (lvs cs)):=by rw[EK,u];rfl
 have j:CL H (H.set id (.live η L)):=CL.set u rfl λ_ _ _ _ _ h=>by cases h
 refine⟨Vv,_,Jw.store ho (id:=id) (g:=0) (off:=d) (v:=(Jx env y).enc) (by rw[V,F];rfl) (V y) w1 B R (by rw[Y,f];exact s2) ⟨rfl,?_⟩,h,jM,R0 j ok.heap (j.lok (s3 H (ok.heap _ (BP u)) (w3 H a1))),j,Frame.set (by rw[F];exact A9.2 rfl)⟩;rw[LY,Y,<-s1];rfl;cases h;cases h;rename_i id w m te i d F;split at h;rename_i cs u;split at h;rename_i pre W c a p hs;split at h;rename_i hb;have T:=Ty.beq_eq _ _ hb;injection T with hm S;subst hm S;obtain⟨t,hg,h⟩:=Do.1 h;split at h;rename_i ls Q;split at h;rename_i M A;obtain⟨ad,I⟩:=PA hs;obtain⟨s1,s2,_⟩:=mf Q f;have s:=Fy A;have q:(Ty.cast hb a:GG (W+1) c.D)=a:=rfl;rw[q]at hg h;obtain⟨h0,G,rfl,rfl⟩:=qA hg;obtain⟨J,Z,q1,q2,q3⟩:=uE c.E a G;have B:(BL H)[id]?=δ (.live 0 (lvs pre++J++(c.enc (a G)).cells++(Z++lvs p))):=by rw[EK,u,ad];show δ (Ft.live 0 (lvs (pre++(.ar W c a::p))))=_;rw[G5,IC,dF,q1];simp only[A2];rfl
 have j:CL H (H.set id (.live η (pre++(.ar W c (Xe (n:=W+1) a (G.val:Int) M)::p)))):=CL.set u rfl λ_ _ _ _ _ h=>by cases h
 have al:lok H cs:=ok.heap _ (BP u);rw[ad]at al;obtain⟨o1,o2⟩:=Jd.1 al;refine⟨Vv,_,?_,h,jM,R0 j ok.heap (j.lok (Jd.2 ⟨o1,λz hz=>?_⟩)),j,Frame.set (by rw[F];exact A9.2 rfl)⟩;have C:d+(lvs ws).length<=(c.enc (a G)).cells.length:=by rw[f,<-c.lvs_enc];exact s2
 have st:=Jw.store (P:=P) (N:=N) (K:=DW .any ((BL H).set id (.live 0 (XV (lvs pre++J++(c.enc (a G)).cells++(Z++lvs p)) (w+(G.val:Int).toNat*c.sz+d) (Jx env y).enc.cells)))) ho (id:=id) (g:=0)
  (off:=w+(G.val:Int).toNat*c.sz+d) (v:=(Jx env y).enc) (by rw[V,F];rfl) (V y) w1 B R (by rw[Y,f];simp only[AZ,q2,I];have:c.E.sz=c.sz:=rfl;rw[f]at C;simp only[CO,this];omega) ⟨rfl,rfl⟩
 have ea:w+(G.val:Int).toNat*c.sz+d=(lvs pre++J).length+d:=by rw[AZ,I,q2,CO];rfl
 rw[Y,ea,AAc C]at st;have O:=Jw.set_less (cs':=lvs (pre++(.ar W c (Xe (n:=W+1) a (G.val:Int) M)::p))) (by rw[Cd];exact HK u) st (by rw[G5,IC,dF,q3 M];simp only[A2];refine(Dq.refl _).append ((Dq.refl _).append (Dq.append ?_ (Dq.refl _)));rw[<-c.lvs_enc,<-s1];exact s);rw[LY];exact O;rcases Av.1 hz with rfl|hz;trivial;exact o2 z (by simp[hz]);cases h;cases h;cases h;cases h;cases h;rename_i id U te nn i d F;split at h;rename_i c l X a2 u;split at h;rename_i hv;have a0:=DH hv;subst a0;split at h;rename_i hb;have T:=Ty.beq_eq _ _ hb;injection T with S;subst S;obtain⟨t,hg,h⟩:=Do.1 h;split at h;rename_i ls Q;split at h;rename_i M A;obtain⟨s1,s2,_⟩:=mf Q f;have s:=Fy A;have q:(Ty.cast hb l:Ψ c.D)=l:=rfl;rw[q]at hg h;obtain⟨J,Z,q1,q2,q3,q4,_,q5⟩:=uO c.E hg;have hr:TY H id U c nn:=by rw[F]at ao;exact ao (.own id U c nn) (by simp[TV.refs])
 obtain⟨_,ax⟩:=hr.2 _ _ _ _ _ u;obtain⟨_,rfl⟩:=ax rfl;have ap:X=θ l:=ok.heap _ (BP u);have B:(BL H)[id]?=δ (.live X (J++(c.enc t).cells++Z)):=by rw[EK,u];show δ (Ft.live X (c.E.cl l))=_;rw[q1];rfl
 have j:CL H (H.set id (.buf η c (ER l i M) X U)):=CL.set u rfl λ_ _ _ _ _ h=>by cases h;exact⟨_,_,_,_,rfl,.inr ⟨rfl,rfl⟩⟩
 refine⟨Vv,_,?_,h,jM,R0 j ok.heap ((pj ap.symm).symm),j,Frame.set (by rw[F];exact A9.2 rfl)⟩;have C:d+(lvs ws).length<=(c.enc t).cells.length:=by rw[f,<-c.lvs_enc];exact s2
 have st:=Jw.store (P:=P) (N:=N) (K:=DW .any ((BL H).set id (.live X (XV (J++(c.enc t).cells++Z) (i.toNat*c.sz+d) (Jx env y).enc.cells)))) ho (id:=id) (g:=X)
  (off:=i.toNat*c.sz+d) (v:=(Jx env y).enc) (by rw[V,F];rfl) (V y) w1 B R (by rw[Y,f];simp only[AZ,q2];have:c.E.sz=c.sz:=rfl;rw[f]at C;rw[this];omega) ⟨rfl,rfl⟩
 have ea:i.toNat*c.sz+d=θ J+d:=by rw[q2];rfl
 rw[Y,ea,AAc C]at st;have O:=Jw.set_less (cs':=c.E.cl (ER l i M)) (by rw[Cd];exact HK u) st (by unfold ER;rw[q5 M];refine Dq.append (Dq.append (Dq.refl _) ?_) (Dq.refl _);rw[<-c.lvs_enc,<-s1];exact s);rw[LY];exact O;cases h;cases h;cases h;cases h;cases h;cases h;cases h
end
section
variable {R:Type}
def AAy(P:Program)(H:As)(t:TypeId)(k:TV->As->Ω R):Ω R:=
 match vg P t with
 |some z=>k (.c (.raw (.ptr (θ H) 0 0))) (H++[.live η z])
 |none=>ε
def AGk(H:As)(v:TV)(k:TV->As->Ω R):Ω R:=
 match v.words with
 |some ws=>k (.c (.raw (.ptr (θ H) 0 0))) (H++[.live η ws])
 |none=>ε
def nM(t:Ty):Ψ TV->Ω (Ψ t.D)
 |[]=>δ []
 |v::r=>match t.data v,nM t r with|some x,δ xs=>δ (x::xs)|_,_=>ε
def elT(P:Program)(t:TypeId):Ω Ty:=
 match eI P t with
 |some (ε,e,sz)=>
  match AB2 P 1000 e with
  |some te=>if sz=te.sz/\Sq P e=ζ then δ te else ε
  |none=>ε
 |_=>ε
def jF(len:Nat)(te:Ty)(parts:Array (Nat×Operand))(vs:Ψ TV):Bool:=
 τ (parts.toList.map (·.1)=List.range len)&&(vs.all λv=>match v.words with|some ws=>ξ (AGE ws) te.sz|none=>η)&&Nat.ble len 4096&&Nat.ble te.sz 4096
def aN(P:Program)(env:Bi)(H:As)(t:TypeId)(len:Nat)(parts:Array (Nat×Operand))(k:TV->As->Ω R):Ω R:=
 match elT P t with
 |some te=>
  match jF len te parts (parts.toList.map λp=>Jx env p.2)with
  |true=>match nM te (parts.toList.map λp=>Jx env p.2)with|some xs=>k (.c (.own (θ H) 0 te (θ xs))) (H++[.buf η te xs (θ xs) 0])|none=>ε
  |false=>ε
 |none=>ε
def rj(P:Program)(env:Bi)(t:TypeId)(len:Nat)(parts:Array (Nat×Operand))(k:TV->Ω R):Ω R:=
 match elT P t with
 |some te=>
  match jF len te parts (parts.toList.map λp=>Jx env p.2)with
  |true=>match nM te (parts.toList.map λp=>Jx env p.2)with|some xs=>k (.c (.ls te xs))|none=>ε
  |false=>ε
 |none=>ε
def jB(P:Program)(H:As)(t:TypeId)(x y:TV)(k:TV->As->Ω R):Ω R:=
 match eI P t,x,y with
 |some (ε,e,_),.c (.it _ l),.c (.it _ c)=>
  match elT P t,vg P e with
  |some te,δ z=>match te.all z with|some zd=>(mk zd l c).bind λr=>k (.c (.own (θ H) 0 te (θ r))) (H++[.buf η te r (θ r) 0])|none=>ε
  |_,_=>ε
 |_,_,_=>ε
def vc(P:Program)(H:As)(src dst:TypeId)(x:TV)(k:TV->As->Ω R):Ω R:=
 match P.underlying src,P.underlying dst,x with
 |some _,δ (.slice e),.c (.st s)=>
  match P.underlying e with
  |some (.int .u8)=>k (.c (.own (θ H) 0 (.int .u8) (Tj s).length)) (H++[.buf η (.int .u8) (Tj s) (Tj s).length 0])
  |_=>ε
 |_,_,_=>ε
def AFo(H:As)(te:Ty)(v:TV):Ω (Ψ te.D):=
 match v with
 |.c (.ls te' l)=>if h:(Ty.list te').beq (Ty.list te)=ζ then δ (Ty.cast h l)else ε
 |.c (.own id ver te' _)=>if h:(Ty.list te').beq (Ty.list te)=ζ then(match Yx H id ver te' with|some l=>δ (Ty.cast (t:=.list te') (t':=.list te) h l)|none=>ε)else ε
 |.vw id ver te' _ lo m=>if h:(Ty.list te').beq (Ty.list te)=ζ then(match Yx H id ver te' with|some l=>δ (Ty.cast (t:=.list te') (t':=.list te) h ((l.drop lo).take m))|none=>ε)else ε
 |.c .nil=>δ []
 |_=>ε
def tH(P:Program)(H:As)(t:TypeId)(s x:TV)(k:TV->As->Ω R):Ω R:=
 match elT P t with
 |some te=>
  match AFo H te x with
  |some xs=>
   match s with
   |.c .nil=>(app [] xs).bind λr=>k (.c (.own (θ H) 0 te (θ r))) (H++[.buf η te r (θ r) 0])
   |.c (.own id ver te' _)=>
    match H[id]? with
    |some (.buf η t2 l _ ver')=>
     match ξ ver ver' with
     |true=>
      if h:(Ty.list t2).beq (Ty.list te)=ζ/\(Ty.list te').beq (Ty.list te)=ζ then
       (app (α:=te.D) (Ty.cast h.1 l) xs).bind λr=>k (.c (.own id (ver+1) te (θ r))) (H.set id (.buf η te r (θ r) (ver+1)))
      else ε
     |false=>ε
    |_=>ε
   |_=>ε
  |none=>ε
 |none=>ε
variable {P:Program}{N:Nat}{o:Oper}{env:Bi}{H:As}{k:TV->As->Ω R}{r:R}
theorem vG{H:As}{l:Ψ t.D}:(TV.c (.own (θ H) N t (θ l))).ok (H++[.buf G t l (θ l) N]):=by refine KB ⟨q!,λd h f g b e=>?_⟩;grind
def tQ(H:As)(b:Ty)(n a:Nat):(TV.c (.own (θ H) a b n)).enc=.sl (BL H).length n b.sz 0 n:=by rw[Cd];rfl
def xj(ok:OL env H)(t:o.op=.alloc b)(h:AAy P H b k=δ r):nV P N o env H [] k r:=by
 unfold AAy at h;split at h;rename_i z d;obtain⟨e,f⟩:=Zm d;refine⟨_,_,?_,h,KB trivial,QF ok.heap (f _),CL.push _ _,Frame.push _ _ _⟩;have a:(TV.c (.raw (.ptr (θ H) 0 0))).enc=.ptr (BL H).length 0 0:=by rw[Cd];rfl
 rw[a,Rr];exact Jw.alloc t e ⟨rfl,rfl⟩;cases h
def AA5(ok:OL env H)(x:o.op=.box b e)(h:AGk H (Jx env e) k=δ r):nV P N o env H [] k r:=by
 unfold AGk at h;split at h;rename_i i d;obtain⟨t,f,g⟩:=Zj d;refine⟨_,_,?_,h,KB trivial,QF ok.heap ((CL.push _ _).lok (g H (iD ok.env e))),CL.push _ _,Frame.push _ _ _⟩;have a:(TV.c (.raw (.ptr (θ H) 0 0))).enc=.ptr (BL H).length 0 0:=by rw[Cd];rfl
 rw[a,Rr];exact Jw.box x (Lx env e) t ⟨rfl,by rw[f];rfl⟩;cases h
def oD{t:Ty}:∀{b}{a:Ψ t.D},nM t b=δ a->Dq (b.map TV.enc) (a.map t.enc)
 |[],a,h=>by simp only[nM,Ar]at h;subst h;exact Dq.refl _
 |v::r,a,h=>by simp only[nM]at h;split at h;rename_i x e c d;injection h with h;subst h;have:=oD d;exact(Dq.one (M1 c)).append this;cases h
def kp{t:Ty}:∀{e}{b:Ψ t.D},nM t e=δ b->Dq ((e.map TV.enc).flatMap Ad.cells) (t.E.cl b)
 |[],b,h=>by simp only[nM,Ar]at h;subst h;exact Dq.refl _
 |v::r,b,h=>by simp only[nM]at h;split at h;rename_i x k a g;injection h with h;subst h;have i:=kp g;refine Dq.append ?_ i;unfold Ty.data at a;split at a;rename_i y;split at a;cases a;rename_i d;simp at d;have c:=Fy a;rw[IC,M0 d.2,<-Bw.scalar_cells d.2]at c;have f:lvs ([]:Ψ Bw)=[]:=rfl;rw[f,DT]at c;exact c;rename_i j;split at a;exact Fy a;cases a;cases a;cases h
theorem kq(h:elT P b=δ t):∃e,eI P b=δ (ε,e,t.sz)/\Sq P e=ζ:=by grind[elT]
theorem vN{a}(h:elT P b=δ t)(c:jF N t a (a.toList.map λp=>Jx env p.2)=ζ):
  Ta P (B3 env) b N a=δ (t.sz,(a.toList.map λp=>Jx env p.2).map TV.enc):=by
 obtain⟨e,k,l⟩:=kq h;unfold jF at c;simp only[BZ,K!]at c;obtain⟨⟨⟨f,g⟩,i⟩,j⟩:=c;have d:(a.toList.map λp=>BS (B3 env) p.2)=(a.toList.map λp=>Jx env p.2).map TV.enc:=by grind[List.map_congr_left,Lx]
 unfold Ta;simp only[k,d];refine C! ⟨t.sz_pos,l,f,?_,PL i,PL j⟩;rw[GK];intro v n;obtain⟨u,m,rfl⟩:=Bp.1 n;have:=GK.1 g u m;split at this<;>simp_all[Zj,fe]
theorem ADK{b:Ψ t.D}(h:nM t A=δ b):θ b=θ A:=by have:=(oD h).1;grind
theorem Tk.push_less{y}{H:Aw}{a}(n:Dq p a)(d:x.Later y):Tk x y (H++[.live N p]) (H++[.live N a]):=by
 refine⟨q!,λj o e=>?_⟩;rcases Az j (θ H) with b|b;rw[CZ b]at e;cases o with
 |live g c0=>exact .inr (.inl ⟨g,c0,c0,k!,rfl,rfl,λi m h=>⟨m,h,λc r=>r.later d⟩⟩)
 |_=>grind
 have k:=HK e;simp at k;have l:j=θ H:=o!
 subst l;simp at e;subst e;refine .inr (.inl ⟨N,p,a,q!,rfl,n.1,λi m h=>?_⟩);obtain⟨v,q1,q2⟩:=n.2 i m h;exact⟨v,q1,λc r=>q2 _ _ (r.later d)⟩
theorem Jw.push_less{a}(h:Jw P N o q C (DW u (C++[.live n p])))(i:Dq p a):Jw P N o q C (DW u (C++[.live n a])):=by
 refine Jw.after h λX f w _=>?_;have b:(cx X f (C++[.live n p]) w).Later (cx X f (C++[.live n a]) w):=by refine iz q! λj e l k=>?_;grind
 exact⟨Tk.push_less i b,λc r=>r.later b⟩
def oi{a:Array (Nat×Operand)}(ok:OL env H)(f:o.op=.buildSlice b n a)(h:aN P env H b n a k=δ r):nV P N o env H [] k r:=by unfold aN at h;split at h;rename_i i d;split at h;rename_i g;split at h;rename_i j c;have e:=vN d g;have t:=ADK c;refine⟨_,_,?_,h,vG,QF ok.heap rfl,CL.push _ _,Frame.push _ _ _⟩;rw[tQ,Rr];have:=UT (N:=N) (H:=BL H) (K:=DW _ _) f e ⟨rfl,rfl⟩;rw[Ba,<-t]at this;exact Jw.push_less this (kp c);cases h;cases h;cases h
theorem AH2{a:Ty}{vs:List Ad}{l:List a.D}(h:Dq vs (l.map a.enc))(I:Dq (vs.flatMap Ad.cells) (a.E.cl l))(z: ∀v∈vs,v.cells.length=a.sz):Xc (.vs a.sz vs) (.vs a.sz (l.map a.enc)):=by
 intro x c L;cases L with
 |vs f t o w C p=>
  have hn:(l.map a.enc).length=vs.length:=h.1;rw[<-hn];have key: ∀(j:Nat) (e:Ad) (i:Nat) (v:Ad),(l.map a.enc)[j]? =some e->e.cells[i]? =some v-> ∃b k,vs[j]? =some b/\b.cells[i]? =some k/\Xc k v:=by
   intro j e i v d m;obtain⟨b,q1,_⟩:=h.2 j e d;have g: ∀u∈l.map a.enc,u.cells.length=a.sz:=λu J=>by obtain⟨y,_,rfl⟩:=Bp.1 J;exact a.enc_len y
   have A:=pK g j e i v d m;obtain⟨k,r,s⟩:=I.2 _ v A;have H:i<a.sz:=by grind
   have F:=z b (BP q1);have G:b.cells[i]? =some (b.cells[i]'(by omega)):=Au (by omega);have M:=pK z j b i _ q1 G;grind
  refine Bz.vs f (by grind) o (λj e d=>?_) (λn=>?_) λj e i v d m=>?_
  ·obtain⟨y,_,rfl⟩:=Bp.1 (BP d);exact a.enc_len y
  ·obtain⟨B,q,q1,q2,q3,q4⟩:=C (λe=>n (Eh (by grind)));refine⟨B,q,q1,q2,q3,λj e i v d m=>?_⟩;obtain⟨b,k,r,s,_⟩:=key j e i v d m;grind
  ·obtain⟨b,k,r,s,K⟩:=key j e i v d m;exact K _ _ (p j b i k r s)
def rE(ok:OL env H)(s:o.op=.makeSlice b e y)(h:jB P H b (Jx env e) (Jx env y) k=δ r):nV P N o env H [] k r:=by
 have i:=Lx env;unfold jB at h;split at h;rename_i t sz Q l O c j v w;split at h;rename_i x z d A;split at h;rename_i L f;obtain⟨I,q,h⟩:=Do.1 h;obtain⟨M,m,u⟩:=kq d;rw[j]at m;obtain⟨rfl,rfl⟩:=m;obtain⟨J,R⟩:=Zm A;have a:=Fy f;obtain⟨⟨C,D,F⟩,p,G⟩:=ALH x.E L q;refine⟨_,_,?_,h,vG,QF ok.heap rfl,CL.push _ _,Frame.push _ _ _⟩;rw[tQ,Rr];have g:(lvs z).length=x.sz:=by rw[<-a.1,x.enc_len]
 have:=Jw.makeSlice (N:=N) (H:=BL H) (K:=DW _ _) s j x.sz_pos u J g (by rw[i,v];rfl) (by rw[i,w];rfl) C D F ⟨rfl,rfl⟩;rw[p]at this;apply Jw.push_less this;rw[<-G,p];induction θ I with
 |zero=>exact Dq.refl _
 |succ n B=>exact Dq.append a B
 cases h;cases h;cases h
def vd(ok:OL env H)(j:o.op=.convert b V e)(h:vc P H b V (Jx env e) k=δ r):nV P N o env H [] k r:=by have f:=Lx env;unfold vc at h;split at h;rename_i u a s l g m;split at h;rename_i i;refine⟨_,_,?_,h,vG,QF ok.heap rfl,CL.push _ _,Frame.push _ _ _⟩;rw[tQ,Rr];obtain⟨c,d⟩:=AKQ s;have:=qj (N:=N) (H:=BL H) (K:=DW _ _) j l g i (by rw[f,m];rfl) ⟨rfl,rfl⟩;rw[d,c]at this;exact this;cases h;cases h
def ACJ(a:Ty):∀l(k:Nat),(a.E.cl l).drop (k*a.sz)=a.E.cl (l.drop k)
 |l,0=>by rw[Yv];rfl
 |[],k+1=>by simp[Su.cl]
 |x::r,k+1=>by have e:a.E.cl (x::r)=(a.enc x).cells++a.E.cl r:=rfl;have b:=a.enc_len x;rw[e,show(k+1)*a.sz=(a.enc x).cells.length+k*a.sz by rw[b,EJ,Nat.one_mul,Yt],Yc,Rl o!,B7,Tp];exact ACJ a r k
def ACK(a:Ty):∀l(k:Nat),(a.E.cl l).take (k*a.sz)=a.E.cl (l.take k)
 |l,0=>by rw[Yv];rfl
 |[],k+1=>by simp[Su.cl]
 |x::r,k+1=>by have e:a.E.cl (x::r)=(a.enc x).cells++a.E.cl r:=rfl;have b:a.E.cl (List.take (k+1) (x::r))=(a.enc x).cells++a.E.cl (r.take k):=rfl;have c:=a.enc_len x;rw[e,b,show(k+1)*a.sz=(a.enc x).cells.length+k*a.sz by rw[c,EJ,Nat.one_mul,Yt],fm,BN o!,Tp,ACK a r k]
theorem ABn{f:Ψ t.D}(x:∀e∈H,e.ok H)(z:i.ok H)(h:AFo H t i=δ f):Kg (BL H) t.sz i.enc=δ (θ f,t.E.cl f):=by
 unfold AFo at h;split at h;rename_i a l;split at h;rename_i j;have c:=Ty.beq_eq _ _ j;injection c with b;subst b;injection h with h;have r:=h;subst r;simp only[TV.enc,Bw.one,Kg,Ba];rfl;cases h;rename_i id g a n;split at h;rename_i j;have c:=Ty.beq_eq _ _ j;injection c with b;subst b;split at h;rename_i l v;injection h with h;have r:l=f:=h;obtain⟨s,p⟩:=X9 x (z (.own id g a n) (by simp[TV.refs])) v;have y:=a.E.clen l;have A:a.E.sz=a.sz:=rfl;grind[TV.enc,Bw.one,Kg];cases h;cases h;rename_i id g a n d m;split at h;rename_i j;have c:=Ty.beq_eq _ _ j;injection c with b;subst b;split at h;rename_i l v;injection h with h;have r:(l.drop d).take m=f:=h;obtain⟨s,p⟩:=X9 x (z (.own id g a n) (by simp[TV.refs])) v;have o:θ f=min m (n-d):=by rw[<-r,BQ,C2,p]
 have w:f=(l.drop d).take (min m (n-d)):=by rw[<-r,<-p,<-C2,List.take_eq_take_min]
 have y:(a.E.cl l).length=n*a.sz:=by rw[<-p];exact a.E.clen l
 show Kg (BL H) a.sz (vwE id n a.sz d m)=_;unfold vwE;by_cases q:min m (n-d)=0;have u:f=[]:=tz.1 o!;rw[C! q,u];by_cases q0:d=0;rw[C! q0];simp only[Kg,s];rw[C! ⟨P!,P!,q!⟩,Yv];rfl;rw[D! q0];simp[Kg,Su.cl];rw[D! q];simp only[Kg,s];have k:(d+min m (n-d))*a.sz<=n*a.sz:=NU _ o!;rw[EJ]at k;rw[C! ⟨P!,P!,by rw[y];exact k⟩,o,ACJ,ACK,<-w];cases h;cases h;injection h with h;subst h;rfl;cases h
theorem vk(ok:OL env H)(R:o.op=.call {callee:=.builtin .append,args:= #[e,y],argTypes:= #[b,V]})(Y:b=V)(h:tH P H b (Jx env e) (Jx env y) k=δ r):nV P N o env H (idT (Jx env e)) k r:=by
 subst Y;have x:=Lx env;unfold tH at h;split at h;rename_i te C;obtain⟨t,Q,S⟩:=kq C;split at h;rename_i w I;have a:=ABn ok.heap (iD ok.env y) I;rw[<-x]at a;split at h;rename_i M;obtain⟨l,u,X⟩:=Do.1 h;obtain⟨W,j⟩:=oh u;rw[B7]at j;subst j;refine⟨_,_,?_,X,vG,QF ok.heap rfl,CL.push _ _,Frame.push _ _ _⟩;rw[tQ,Rr];have:=eP (N:=N) (H:=BL H) (K:=DW _ _) R Q te.sz_pos S (by rw[x,M];rfl) a k! ⟨rfl,rfl⟩;exact this;rename_i id g al n M;split at h;rename_i d l J T c;split at h;rename_i Z;have G:=DH Z;subst G;split at h;rename_i v;have F:=Ty.beq_eq _ _ v.1;injection F with p;have s:=Ty.beq_eq _ _ v.2;injection s with q;subst q;subst p;obtain⟨l2,u,h⟩:=Do.1 h;have f:(Ty.cast v.1 l:Ψ d.D)=l:=rfl;rw[f]at u;obtain⟨W,rfl⟩:=oh u;have hr:TY H id g d n:=by have:=iD ok.env e;rw[M]at this;exact this (.own id g d n) (by simp[TV.refs])
 obtain⟨_,A⟩:=hr.2 _ _ _ _ _ c;obtain⟨_,rfl⟩:=A rfl;have z:J=θ l:=ok.heap _ (BP c);have i:(BL H)[id]?=δ (.live J (d.E.cl l)):=by rw[EK,c];rfl
 have m:CL H (H.set id (.buf η d (l++w) (l++w).length (g+1))):=CL.set c rfl λ_ _ _ _ _ h=>by cases h;exact⟨_,_,_,_,rfl,.inl (ni _)⟩
 refine⟨_,_,?_,h,KB ⟨k!,λad V l' n2 U hg=>?_⟩,R0 m ok.heap rfl,m,Frame.set (by rw[M];exact A9.2 rfl)⟩;have O:=d.E.clen l;have B:d.E.sz=d.sz:=rfl;rw[B]at O;have:=Sk (N:=N) (H:=BL H) (g':=J+θ w) (K:=DW _ _) R Q d.sz_pos S (by rw[x,M];rfl) i (by rw[O,z]) a k! (by rcases WY (θ w) with L|L;grind;exact .inl o!) ⟨rfl,rfl⟩;grind[LY,n?,Su.cl,TV.enc,Bw.one,Dx.enc];grind;cases h;cases h;cases h;cases h;cases h;cases h
end
def N9(id ver:Nat)(t:Ty)(l:Ψ t.D):Bw->Bw
 |.own id' ver' t' n=>match ξ id id'&&ξ ver ver' with|true=>.ls t l|false=>.own id' ver' t' n
 |x=>x
mutual
def pP(id ver:Nat)(t:Ty)(l:Ψ t.D):TV->TV
 |.c x=>.c (N9 id ver t l x)
 |.g cs=>.g (cs.map (N9 id ver t l))
 |.tup vs=>.tup (iJ id ver t l vs)
 |.aptr a b n te i o=>.aptr a b n te i o
 |.bptr a v te n i o=>.bptr a v te n i o
 |.vw a v te n i m=>.vw a v te n i m
 |.vptr cs post=>.vptr cs post
def iJ(id ver:Nat)(t:Ty)(l:Ψ t.D):Ψ TV->Ψ TV
 |[]=>[]
 |v::r=>pP id ver t l v::iJ id ver t l r
end
def RJ(id ver:Nat)(t:Ty)(l:Ψ t.D):Dx->Dx
 |.live η cs=>.live η (cs.map (N9 id ver t l))
 |e=>e
def frz(id:Nat)(env:Bi)(H:As):Ω (Bi×As):=
 match H[id]? with
 |some (.buf η t l _ ver)=>δ (env.map λp=>(p.1,pP id ver t l p.2),(H.map (RJ id ver t l)).set id .dead)
 |_=>ε
def T9(x y:Cx)(a b:Ψ Ad):Prop:=θ b=θ a/\∀(i:Nat)(v':Ad),b[i]?=δ v'->∃v,a[i]?=δ v/\Conv x y v v'
theorem T9.append{y}{e b f}(c:T9 x y p e)(g:T9 x y b f):T9 x y (p++b) (e++f):=by refine⟨by simp[c.1,g.1],λi j h=>?_⟩;rcases Az i (θ e) with d|d;rw[CZ d]at h;obtain⟨v,q1,q2⟩:=c.2 i j h;grind;rw[Cn d]at h;obtain⟨v,q1,q2⟩:=g.2 _ j h;exact⟨v,by rw[Cn (by rw[<-c.1];exact d),<-c.1];exact q1,q2⟩
def T9.later{x y:Cx}(l:x.Later y)(a:Ψ Ad):T9 x y a a:=⟨rfl,λ_ v h=>⟨v,h,λ_ r=>r.later l⟩⟩
theorem T9.one{y}{b}(h:Conv x y u b):T9 x y [u] [b]:=⟨rfl,λi v a=>by
 match i,a with
 |0,a=>grind
 |i+1,a=>simp at a⟩
def T9.agg{x y}{b a}(h:T9 x y b a):Conv x y (.agg b) (.agg a):=by
 intro c r;cases r with
 |agg i e hr=>refine .agg (by rw[i,h.1]) e λj k d g f=>?_;obtain⟨v,q1,q2⟩:=h.2 j k g;exact q2 _ (hr j v d q1 f)
def T9.tup{x y}{b a}(h:T9 x y b a):Conv x y (.tup b) (.tup a):=by
 intro c r;cases r with
 |tup g hr=>refine .tup (by rw[g,h.1]) λj i d f e=>?_;obtain⟨v,q1,q2⟩:=h.2 j i f;exact q2 _ (hr j v d q1 e)
section
variable {x y:Cx}{H:As}{id n ver:Nat}{t:Ty}{l:Ψ t.D} (lat:x.Later y) (hid:H[id]?=δ (.buf η t l n ver)) (hc:Conv x y (.sl id n t.sz 0 n) (.vs t.sz (l.map t.enc)))
include lat hid hc
theorem pN(e:B.ok H):T9 x y B.enc (N9 id ver t l B).enc/\Conv x y B.one (N9 id ver t l B).one:=by
 have same:∀w:Bw,T9 x y w.enc w.enc/\Conv x y w.one w.one:=λw=>⟨.later lat _,λ_ r=>r.later lat⟩
 cases B with
 |own f b h g=>simp only[N9];split;rename_i a;simp only[BZ]at a;have c:=DH a.1;have d:=DH a.2;subst c d;obtain⟨_,q⟩:=e.2 _ _ _ _ _ hid;obtain⟨rfl,rfl⟩:=q rfl;exact⟨.one hc,hc⟩;grind
 |_=>exact same _
def qo:∀{a},lok H a->T9 x y (lvs a) (lvs (a.map (N9 id ver t l)))
 |[],_=>.later lat _
 |z::r,h=>by rw[B4,IC,IC];exact(pN lat hid hc (h z q!)).1.append (qo λw b=>h w (by simp[b]))
mutual
theorem ui:∀{v:TV},v.ok H->Conv x y v.enc (pP id ver t l v).enc
 |.c z,h=>(pN lat hid hc (h z (by simp[TV.refs]))).2
 |.g cs,h=>(qo lat hid hc h).agg
 |.tup vs,h=>T9.tup (sI (vs:=vs) h)
 |.aptr ..,_=>λ_ r=>r.later lat
 |.bptr ..,_=>λ_ r=>r.later lat
 |.vw ..,_=>λ_ r=>r.later lat
 |.vptr ..,_=>λ_ r=>r.later lat
theorem sI:∀{vs},(TV.tup vs).ok H->T9 x y (TV.encL vs) (TV.encL (iJ id ver t l vs))
 |[],_=>.later lat _
 |v::r,h=>by simp only[TV.encL,iJ];have a:v.ok H:=rJ h q!;have b:(TV.tup r).ok H:=Rz λw c=>rJ h (by simp[c]);exact(T9.one (ui a)).append (sI b)
end
end
def uh{l}(H:CL c L)(d:B.ok c):(N9 N n t l B).ok L:=by
 cases B with
 |own f e h g=>simp only[N9];split;trivial;exact H.leaf d
 |_=>exact H.leaf d
def ACU{l}(d:CL c L)(h:lok c g):lok L (g.map (N9 N n t l)):=λz f=>by obtain⟨w,e,rfl⟩:=Bp.1 f;exact uh d (h w e)
mutual
theorem zi{H d:As}{id b:Nat}{t:Ty}{l:Ψ t.D}(a:CL H d):∀{v:TV},v.ok H->(pP id b t l v).ok d
 |.c z,h=>KB (uh a (h z (by simp[TV.refs])))
 |.g cs,h=>ACU a h
 |.tup vs,h=>wm a h
 |.aptr ..,h=>a.lok h
 |.bptr ..,h=>a.lok h
 |.vw ..,h=>a.lok h
 |.vptr ..,h=>a.lok h
theorem wm{H c}{id b}{t}{l}(d:CL H c):∀{e},(TV.tup e).ok H->(TV.tup (iJ id b t l e)).ok c
 |[],_=>λz i=>by simp[iJ,TV.refs,TV.refsL]at i
 |v::r,h=>by have f:v.ok H:=rJ h q!;have g:(TV.tup r).ok H:=Rz λw a=>rJ h (by simp[a]);refine Rz λw a=>?_;simp only[iJ]at a;rcases Av.1 a with rfl|a;exact zi d f;exact rJ (wm d g) a
end
theorem AE1{l:Ψ t.D}(f:c[N]?=δ (.buf η t l n W)):CL c ((c.map (RJ N W t l)).set N .dead):=by
 have s:=HK f;refine⟨q!,λj y x v h=>⟨by simpa using h.1,λro K E F u H=>?_⟩,λj e H hr=>?_,λj m h x l2 v y a=>?_,λj m _ _ _ _ _ _ _ _ a=>?_⟩;by_cases d:j=N;grind;rw[Dc (d ·.symm),CT]at H;cases a:c[j]? with
 |none=>grind
 |some e=>
  rw[a]at H;simp only[Bu,Ar]at H;cases e with
  |live b k=>cases b<;>simp[RJ]at H
  |dead=>cases H
  |lp=>cases H
  |mp=>cases H
  |buf b q o p r=>simp only[RJ]at H;exact h.2 _ _ _ _ _ (by rw[a,H])
 have d:j≠N:=by rintro rfl;rw[f]at H;injection H with H;subst H;cases hr
 rw[Dc (d ·.symm),CT,H];cases e with
 |live b k=>cases b with|true=>rfl|false=>cases hr
 |dead=>cases hr
 |buf b q o p r=>rfl
 |lp=>rfl
 |mp=>rfl
 by_cases d:j=N;grind;rw[Dc (d ·.symm),CT]at a;cases g:c[j]? with
 |none=>rw[g]at a;cases a
 |some e=>
  rw[g]at a;simp only[Bu,Ar]at a;cases e with
  |live b k=>cases b<;>simp[RJ]at a
  |dead=>cases a
  |lp=>cases a
  |mp=>cases a
  |buf b q o p r=>grind[RJ]
 by_cases d:j=N;grind[List.getElem?_set_self];rw[Dc (d ·.symm),CT]at a;cases g:c[j]? with
 |none=>rw[g]at a;cases a
 |some e=>
  rw[g]at a;simp only[Bu,Ar]at a;cases e with
  |live b k=>cases b<;>simp[RJ]at a
  |dead=>cases a
  |buf b q o p r=>cases a
  |mp=>cases a
  |lp w z G C I A B J=>injection a with _ q2 q3 q4 q5 q6 q7 _;subst q2 q3 q4 q5 q6 q7;exact⟨_,_,rfl⟩
theorem AJA{id:Nat}{env env2:Bi}{H K:As}(ok:OL env H)(h:frz id env H=some (env2,K)):OL env2 K/\CL H K/\ ∀N,FX N (BL H).length (B3 env) (BL H) (B3 env2) (BL K):=by
 unfold frz at h;split at h;rename_i t l n i d;simp only[Ar,Ee]at h;obtain⟨rfl,rfl⟩:=h;have G:=HK d;have A:=AE1 d;have hn:n=l.length:=ok.heap _ (BP d);refine⟨⟨λp M=>?_,λe R=>?_⟩,A,λN=>?_⟩;obtain⟨q,z,rfl⟩:=Bp.1 M;exact zi A (ok.env q z);rcases Q5 R with R|rfl;obtain⟨k,S,rfl⟩:=Bp.1 R;have F:=ok.heap k S;cases k with
 |live b D=>
  cases b with
  |true=>exact A.lok F
  |false=>exact ACU A F
 |dead=>trivial
 |buf b Q P T U=>exact F
 |lp=>exact F
 |mp=>exact F
 trivial;have u:(BL H)[id]? =some (.live n (t.E.cl l)):=by rw[EK,d];rfl
 refine Wz (by simp[BL]) λX g w s=>?_;have C: ∀j,(BL ((H.map (RJ id i t l)).set id .dead))[j]? =if j=id then some .dead else(H[j]?).map λe=>(RJ id i t l e).enc:=by intro j;rw[EK];by_cases v:j=id;subst v;rw[if_pos rfl,HB (by simpa using G)];rfl;grind
 have back: ∀(j:Nat) (e:Ft),(BL ((H.map (RJ id i t l)).set id .dead))[j]? =some e->e≠ .dead->j≠id/\ ∃k,(BL H)[j]? =some k/\k≠ .dead:=by
  intro j e a f;rw[C]at a;split at a;injection a with a;exact(f a.symm).elim;rename_i v;refine⟨v,?_⟩;cases z:H[j]? with
  |none=>rw[z]at a;cases a
  |some k=>
   refine⟨k.enc,by rw[EK,z];rfl,λL=>f ?_⟩;rw[z]at a;simp only[Bu,Ar]at a;cases k with
   |live b D=>simp[Dx.enc]at L
   |dead=>exact a.symm
   |buf b Q P T U=>simp[Dx.enc]at L
   |lp=>simp[Dx.enc]at L
   |mp=>simp[Dx.enc]at L
 have y:(cx X g (BL H) w).Later (cx X g (BL ((H.map (RJ id i t l)).set id .dead)) w):=iz (by simp[BL]) λj e a f=>(back j e a f).2;have hO: ∀B,g.io id=some B-> ¬(cx X g (BL ((H.map (RJ id i t l)).set id .dead)) w).O B:=by rintro B I (hX|⟨j,e,a,f,J⟩);exact(s.out B hX).2 ⟨id,_,u,q!,I⟩;obtain⟨v,k,Y,Z⟩:=back j e a f;exact v (s.inj j id _ _ B Y u Z q! J I)
 have o:Conv (cx X g (BL H) w) (cx X g (BL ((H.map (RJ id i t l)).set id .dead)) w) (.sl id n t.sz 0 n) (.vs t.sz (l.map t.enc)):=λc r=>Bz.froze s u (AJJ t.E l) (by rw[hn];exact Ba _) y rfl hO r;refine⟨⟨by simp[BL],λj e' a=>?_⟩,λtt v' m=>?_⟩;rw[C]at a;split at a;injection a with a;exact .inl a.symm;cases z:H[j]? with
 |none=>rw[z]at a;cases a
 |some k=>
  rw[z]at a;simp only[Bu,Ar]at a;have x:(BL H)[j]? =some k.enc:=by rw[EK,z];rfl
  cases k with
  |live b D=>
   refine .inr (.inl ?_);cases b with
   |true=>simp only[RJ,Dx.enc]at a;exact⟨0,lvs D,lvs D,x,a.symm,rfl,(T9.later y _).2⟩
   |false=>simp only[RJ,Dx.enc]at a;obtain⟨V,W⟩:=qo y d o (ok.heap _ (BP z));exact⟨0,lvs D,_,x,a.symm,V,W⟩
  |dead=>exact .inl a.symm
  |buf b Q P T U=>simp only[RJ,Dx.enc]at a;exact .inr (.inl ⟨T,Q.E.cl P,Q.E.cl P,x,a.symm,rfl,(T9.later y _).2⟩)
  |lp=>subst a;exact .inr (.inr ⟨x,λ_ _ h=>by cases h⟩)
  |mp=>subst a;exact .inr (.inr ⟨x,λ_ _ h=>by cases h⟩)
 simp only[B3,PJ,Bp]at m;obtain⟨p,M,e⟩:=m;simp only[Function.comp,Ee]at e;obtain⟨rfl,rfl⟩:=e;exact⟨p.2.enc,Bp.2 ⟨p,M,rfl⟩,ui y d o (ok.env p M)⟩;cases h
@[reducible] def DL:Ψ Ty->Type
 |[]=>Unit
 |[t]=>t.D
 |t::u::r=>t.D×DL (u::r)
def inp:(ts:Ψ Ty)->Ψ TV->Ω (DL ts)
 |[],[]=>δ ()
 |[t],[v]=>t.data v
 |t::u::r,v::vs=>
  match t.data v,inp (u::r) vs with
  |some x,δ y=>δ (x,y)
  |_,_=>ε
 |_,_=>ε
def yr:(ts:Ψ Ty)->DL ts->Ψ TV
 |[],_=>[]
 |[t],x=>[t.tv x]
 |t::u::r,x=>t.tv x.1::yr (u::r) x.2
def nr:(ts:Ψ Ty)->DL ts->Ψ Ad
 |[],_=>[]
 |[t],x=>[t.enc x]
 |t::u::r,x=>t.enc x.1::nr (u::r) x.2
def one:Ψ TV->TV
 |[v]=>v
 |vs=>.tup vs
def rL:Ψ Ad->Ad
 |[v]=>v
 |vs=>.tup vs
def Lu(bt:Ty):(rs:Ψ Ty)->DL (rs++[bt])->DL rs×bt.D
 |[],y=>((),y)
 |[_],y=>(y.1,y.2)
 |_::u::r,y=>((y.1,(Lu bt (u::r) y.2).1),(Lu bt (u::r) y.2).2)
inductive Qd where
 |c2 (f:FuncId) (te:Ty) (ds rs:List Ty) (post:List Ad) (g:List te.D->DL ds->Option (DL (rs++[.list te])))
 |cl (f:FuncId) (t:Ty)
 |c0 (f:FuncId) (ds rs:List Ty) (g:DL ds->Option (DL rs))
 |c1 (f:FuncId) (pos:Nat) (bt:Ty) (ds rs:List Ty) (g:bt.D->DL ds->Option (DL (rs++[bt])))
def Qd.f:Qd->FuncId
 |.c0 f .. =>f
 |.c1 f .. =>f
 |.c2 f .. =>f
 |.cl f _=>f
def fnB:Ad->Ad->Bool
 |.fn (.func F) [] [],.fn (.func G) [] []=>ξ F G
 |_,_=>η
def AI8{w}(h:fnB u w=ζ):u=w:=by unfold fnB at h;split at h<;>simp_all
def xK:Ψ TV->Ψ Ad->Bool
 |[],[]=>ζ
 |.c (.raw v)::r,w::s=>fnB v w&&xK r s
 |_,_=>η
def AAR:∀{l}{p},xK l p=ζ->l.map TV.enc=p
 |[],[],_=>rfl
 |[],_::_,h=>by simp[xK]at h
 |v::r,[],h=>by cases v<;>simp[xK]at h
 |v::r,w::s,h=>by unfold xK at h;split at h;rename_i e;cases e;rename_i c d;injection c with a1 a2;injection d with a b;subst a1 a2 a b;simp only[BZ]at h;rw[B4,AAR h.2];exact E! (· ::_) (AI8 h.1);cases h
def WP:Nat->Ad->Ψ Ad->Ψ Ad
 |0,v,l=>v::l
 |n+1,v,x::l=>x::WP n v l
 |_+1,v,[]=>[v]
def Qd.Ok(P:Program):Qd->Prop
 |.c2 f te ds rs post g=>∀l x y,g l x=δ y->(Lu (.list te) rs y).2.length=θ l->∀H id,H[id]?=δ (.live (θ l) (te.E.cl l))->
  Ej P f (.sl id (θ l) te.sz 0 (θ l)::(nr ds x++post)) H (DW (rL (nr rs (Lu (.list te) rs y).1)) (H.set id (.live (θ l) (te.E.cl (Lu (.list te) rs y).2))))
 |.cl f t=>∀(l:Ψ t.D)(H:As),(∀e∈H,e.ok H)->(l=[]->Ej P f [.vs t.sz []] (BL H) (DW (.vs t.sz []) (BL (H++[.dead]))))/\
  ∀r,l≠ []->app [] l=δ r->Ej P f [.vs t.sz (l.map t.enc)] (BL H) (DW (.sl (θ H) (θ r) t.sz 0 (θ r)) (BL (H++[.buf η t r (θ r) 0])))
 |.c0 f ds rs g=>∀x y,g x=δ y->∀H,Ej P f (nr ds x) H (DW (rL (nr rs y)) H)
 |.c1 f pos bt ds rs g=>∀b x y,g b x=δ y->∀H id,H[id]?=δ (.live 0 (bt.enc b).cells)->Ej P f (WP pos (.ptr id 0 0) (nr ds x)) H (DW (rL (nr rs (Lu bt rs y).1)) (H.set id (.live 0 (bt.enc (Lu bt rs y).2).cells)))
section
variable {R:Type}
def ACG(c:Qd)(vs:Ψ TV)(H:As)(k:TV->As->Ω R):Ω R:=
 match c with
 |.c0 _ ds rs g=>match inp ds vs with|some x=>(g x).bind λy=>k (one (yr rs y)) H|none=>ε
 |.c1 _ pos bt ds rs g=>
  match vs[pos]? with
  |some (.c (.raw (.ptr id 0 0)))=>
   match H[id]? with
   |some (.live η cs)=>
    match bt.all cs,inp ds (vs.take pos++vs.drop (pos+1))with
    |some b,δ x=>(g b x).bind λy=>k (one (yr rs (Lu bt rs y).1)) (H.set id (.live η (bt.lvs (Lu bt rs y).2)))
    |_,_=>ε
   |_=>ε
  |_=>ε
 |.c2 _ te ds rs post g=>
  match vs with
  |.c (.own id ver _ _)::r=>
   match H[id]? with
   |some (.buf η t l n' ver')=>
    match ξ ver ver' with
    |true=>
     if h:(Ty.list t).beq (Ty.list te)=ζ then
      match inp ds (r.take (θ ds)),xK (r.drop (θ ds)) post with
      |some x,ζ=>(g (Ty.cast h l) x).bind λy=>
       cond (ξ (Lu (.list te) rs y).2.length n') (k (one (yr rs (Lu (.list te) rs y).1)) (H.set id (.buf η te (Lu (.list te) rs y).2 n' ver'))) ε
      |_,_=>ε
     else ε
    |false=>ε
   |_=>ε
  |_=>ε
 |.cl _ t=>
  match vs with
  |[.c (.ls te l)]=>
   if h:(Ty.list te).beq (Ty.list t)=ζ then
    cond (τ (((θ l:Nat):Int)=0)) (k (.c (.ls t [])) (H++[.dead])) ((app (α:=t.D) [] (Ty.cast h l)).bind λr=>k (.c (.own (θ H) 0 t (θ r))) (H++[.buf η t r (θ r) 0]))
   else ε
  |[.c .nil]=>k (.c (.ls t [])) (H++[.dead])
  |_=>ε
def aj:∀a x,(yr a x).map TV.enc=nr a x
 |[],_=>rfl
 |[t],x=>by simp only[yr,nr,B4,Hi,t.tv_enc]
 |t::u::r,x=>by simp only[yr,nr,B4,t.tv_enc,aj (u::r)]
theorem oU{H:As}:∀b x,∀v∈yr b x,v.ok H
 |[],_,v,a=>by simp[yr]at a
 |[t],x,v,a=>by simp only[yr,A9]at a;subst a;exact t.tv_ok x
 |t::u::r,x,v,a=>by simp only[yr,Av]at a;rcases a with rfl|a;exact t.tv_ok _;exact oU (u::r) x.2 v a
def tP(a:Ψ TV):(one a).enc=rL (a.map TV.enc):=by
 match a with
 |[]=>rfl
 |[v]=>rfl
 |v::w::r=>simp only[one,rL,TV.enc,uV,B4]
def yP(h:∀v∈A,v.ok c):(one A).ok c:=by
 match A,h with
 |[],h=>exact Rz h
 |[v],h=>exact h v q!
 |v::w::r,h=>exact Rz h
def Zb:∀{a}{b}{x:DL a},inp a b=δ x->Dq (b.map TV.enc) (nr a x)
 |[],[],x,h=>Dq.refl _
 |[t],[v],x,h=>Dq.one (M1 h)
 |t::u::r,v::b,x,h=>by simp only[inp]at h;split at h;rename_i y z c d;injection h with h;subst h;exact(Dq.one (M1 c)).append (Zb d);cases h
 |[],_::_,x,h=>by simp[inp]at h
 |[t],[],x,h=>by simp[inp]at h
 |[t],_::_::_,x,h=>by simp[inp]at h
 |_::_::_,[],x,h=>by simp[inp]at h
theorem ur:∀{n:Nat}{a:Ψ Ad}{v:Ad}{b},a[n]?=δ v->Dq (a.take n++a.drop (n+1)) b->Dq a (WP n v b)
 |0,u::a,v,b,h,hl=>by simp at h;subst h;exact(Dq.one (Xc.refl u)).append hl
 |n+1,u::a,v,b,h,hl=>by
  cases b with
  |nil=>have:=hl.1;simp at this
  |cons d b=>
   have c:Xc u d:=by obtain⟨w,q1,q2⟩:=hl.2 0 d rfl;grind
   have e:Dq (a.take n++a.drop (n+1)) b:=⟨by have:=hl.1;simpa using this,λi g f=>hl.2 (i+1) g f⟩
   exact(Dq.one c).append (ur h e)
def AGz(c:Qd)(vs:Ψ TV):Ψ Nat:=
 match c with
 |.c0 .. =>[]
 |.c1 _ pos .. =>match vs[pos]? with|some v=>idT v|none=>[]
 |.c2 .. =>match vs[0]? with|some v=>idT v|none=>[]
 |.cl .. =>[]
def ALA(c:Qd)(vs:Ψ TV):Ψ TV:=
 match c with
 |.c2 .. =>vs.drop 1
 |_=>vs
def zR{D:Qd}(hc:D.Ok P){k:TV→As→Ω R}{r:R}(hv:∀v∈A,v.ok c)(K:∀e∈c,e.ok c)(h:ACG D A c k=δ r):
  ∃v O,Ej P D.f (A.map TV.enc) (BL c) (DW v.enc (BL O))/\k v O=δ r/\v.ok O/\(∀e∈O,e.ok O)/\CL c O/\Frame (AGz D A) c O:=by
 unfold ACG at h;split at h;rename_i f S H g;split at h;rename_i x hx;obtain⟨y,hy,h⟩:=Do.1 h;refine⟨_,c,?_,h,yP (oU H y),K,CL.refl c,Frame.refl _ _⟩;rw[tP,aj];have hl:=Zb hx;refine Ej.before (args2:=nr S x) (H2:=BL c) hl.1 (λX g0 w s=>⟨⟨rfl,λj e' p=>?_⟩,λj Z p=>?_⟩) (hc x y hy _);cases e' with
 |dead=>exact .inl rfl
 |live g1 L=>exact .inr (.inl ⟨g1,L,L,p,rfl,rfl,λi v hi=>⟨v,hi,λ_ r=>r⟩⟩)
 |_=>exact .inr (.inr ⟨p,q!⟩)
 obtain⟨v,q1,q2⟩:=hl.2 j Z p;exact⟨v,q1,λd W=>q2 _ _ W⟩;cases h;rename_i f pos J S H g;split at h;rename_i id hp;split at h;rename_i cs o;split at h;rename_i b x hb hx;obtain⟨y,hy,h⟩:=Do.1 h;have G:CL c (c.set id (.live η (J.lvs (Lu J H y).2))):=CL.set o rfl λ_ _ _ _ _ h=>by cases h
 refine⟨_,_,?_,h,yP (oU H _),R0 G K (J.lvs_ok _),G,Frame.set (by simp only[AGz,hp];exact A9.2 rfl)⟩;rw[tP,aj,LY];have C:id<(BL c).length:=by rw[Cd];exact HK o
 have hl:=Zb hx;have ap:=Fy hb;have a:Dq (A.map TV.enc) (WP pos (.ptr id 0 0) (nr S x)):=by refine ur ?_ (by rw[<-List.map_take,<-nZ,<-LR];exact hl);rw[CT,hp];rfl
 have m:=hc b x y hy ((BL c).set id (.live 0 (J.enc b).cells)) id (by rw[HB C]);rw[Yr]at m;have e1:(Dx.live η (J.lvs (Lu J H y).2)).enc=.live 0 (J.enc (Lu J H y).2).cells:=by simp only[Dx.enc,J.lvs_enc]
 rw[e1];refine Ej.before a.1 (λX g0 w s=>?_) m;have ad:BL c=(BL c).set id (.live 0 (lvs cs)):=by
  have:(BL c)[id]?=δ (.live 0 (lvs cs)):=by rw[EK,o];rfl
  apply JW;intro j;by_cases F:j=id;subst F;rw[HB C,this];rw[Dc (F ·.symm)]
 have ao:(cx X g0 (BL c) w).Later (cx X g0 ((BL c).set id (.live 0 (J.enc b).cells)) w):=by refine iz q! λj e p ar=>?_;by_cases F:j=id;subst F;exact⟨.live 0 (lvs cs),by rw[EK,o];rfl,q!⟩;rw[Dc (F ·.symm)]at p;exact⟨e,p,ar⟩
 refine⟨Tk.set_less C ad rfl ap ao,λj Z p=>?_⟩;obtain⟨v,q1,q2⟩:=a.2 j Z p;exact⟨v,q1,λd W=>q2 _ _ (W.later ao)⟩;cases h;cases h;cases h;rename_i f Y S H N g;split at h;rename_i id B t0 n0 r0;split at h;rename_i t l V ax o;split at h;rename_i hb;have al:=DH hb;subst al;split at h;rename_i I;have n:=Ty.beq_eq _ _ I;injection n with n;subst n;split at h;rename_i x hx hp;obtain⟨y,hy,h⟩:=Do.1 h;have z:(Ty.cast I l:Ψ t.D)=l:=rfl;rw[z]at hy;have hn:V=θ l:=K _ (BP o);have hr:TY c id B t0 n0:=hv _ JV (.own id B t0 n0) (by simp[TV.refs]);obtain⟨_,q⟩:=hr.2 _ _ _ _ _ o;obtain⟨rfl,rfl⟩:=q rfl;cases T:ξ (Lu (.list t) H y).2.length V with
 |false=>rw[T]at h;cases h
 |true=>
  rw[T]at h;have M:(Lu (.list t) H y).2.length=V:=DH T;have G:CL c (c.set id (.buf η t (Lu (.list t) H y).2 V B)):=CL.set o rfl λ_ _ _ _ _ e=>by cases e;exact⟨_,_,_,_,rfl,.inr ⟨rfl,rfl⟩⟩
  refine⟨_,_,?_,h,yP (oU H _),R0 G K M.symm,G,Frame.set (by simp[AGz,idT])⟩;rw[tP,aj,LY];have hl:=Zb hx;have U:=AAR hp;have a:Dq ((TV.c (.own id B t V)::r0).map TV.enc) (.sl id (θ l) t.sz 0 (θ l)::(nr S x++N)):=by
   rw[B4,<-DG (θ S) r0,LR,U];have e1:(TV.c (.own id B t V)).enc=.sl id (θ l) t.sz 0 (θ l):=by rw[<-hn];rfl
   rw[e1];rw[<-uB];rw[<-uB (l:=nr S x++N)];exact(Dq.refl _).append (hl.append (Dq.refl _))
  have m:=hc l x y hy (by rw[M,hn]) (BL c) id (by rw[EK,o,<-hn];rfl);have e2:(Dx.buf η t (Lu (.list t) H y).2 V B).enc=.live (θ l) (t.E.cl (Lu (.list t) H y).2):=by rw[<-hn];rfl
  rw[e2];refine Ej.before a.1 (λX g0 w s=>⟨⟨rfl,λj e' p=>?_⟩,λj Z p=>?_⟩) m;cases e' with
  |dead=>exact .inl rfl
  |live g1 L=>exact .inr (.inl ⟨g1,L,L,p,rfl,rfl,λi v hi=>⟨v,hi,λ_ r=>r⟩⟩)
  |_=>exact .inr (.inr ⟨p,q!⟩)
  obtain⟨v,q1,q2⟩:=a.2 j Z p;exact⟨v,q1,λd W=>q2 _ _ W⟩
 cases h;cases h;cases h;cases h;cases h;rename_i f t;have same:∀{args u}{Q},Dq args u->Ej P f u (BL c) Q->Ej P f args (BL c) Q:=λa m=>by
  refine Ej.before a.1 (λX g0 w s=>⟨⟨rfl,λj e' p=>?_⟩,λj Z p=>?_⟩) m;cases e' with
  |dead=>exact .inl rfl
  |live g1 L=>exact .inr (.inl ⟨g1,L,L,p,rfl,rfl,λi v hi=>⟨v,hi,λ_ r=>r⟩⟩)
  |_=>exact .inr (.inr ⟨p,q!⟩)
  obtain⟨v,q1,q2⟩:=a.2 j Z p;exact⟨v,q1,λd W=>q2 _ _ W⟩
 split at h;rename_i Y l;split at h;rename_i I;have n:=Ty.beq_eq _ _ I;injection n with n;subst n;have z:(Ty.cast I l:Ψ Y.D)=l:=rfl;rw[z]at h;cases hz:τ (((θ l:Nat):Int)=0)with
 |true=>
  rw[hz]at h;have h0:l=[]:=by
   have:((θ l:Nat):Int)=0:=by simpa using hz
   exact Eh o!
  subst h0;refine⟨TV.c (Bw.ls Y []),c++[Dx.dead],?_,h,KB trivial,QF K trivial,CL.push _ _,Frame.push _ _ _⟩;exact(hc [] c K).1 rfl
 |false=>
  rw[hz]at h;have h0:l≠ []:=by rintro rfl;simp at hz
  obtain⟨r,hr,h⟩:=Do.1 h;have e:Dx.ok (c++[.buf η Y r (θ r) 0]) (.buf η Y r (θ r) 0):=rfl;have q:=(hc l c K).2 r h0 hr;refine⟨TV.c (Bw.own (θ c) 0 Y (θ r)),c++[Dx.buf η Y r (θ r) 0],?_,h,vG,QF K e,CL.push _ _,Frame.push _ _ _⟩;exact q
 cases h;refine⟨TV.c (Bw.ls t []),c++[Dx.dead],?_,h,KB trivial,QF K trivial,CL.push _ _,Frame.push _ _ _⟩;exact same (Dq.one (Xc.nil t.sz_pos)) ((hc [] c K).1 rfl);cases h
end
section
variable {P:Program}{N:Nat}{o:Oper}{env:Env}{H:Aw}{K:Ad->Aw->Prop}
def ud{sz:Nat}{rows:Ψ Ad}(n:o.op=.binOp .eql b e (.const (.slice ε 0 0)) V)(E:P.underlying b=δ (.slice Q))(F:BS env e=.vs sz rows)
  (C:∀t,(rows≠ []->t=η)->K (.bool t) H):Jw P N o env H K:=by
 apply C9 (by rw[n];rfl);intro X h a w s I;have l:=Dp s.env e;rw[F]at l;generalize i:a.eval e=cx0 at l;cases l with
 | @vs sz rows c cap f m D p z J=>
  have k:=run_underlying E w;have g:(execOp a.eval o).run P w=.ok (.value (.bool c.isNone)) w:=by
   unfold execOp;rw[n];have r:a.eval (.const (.slice ε 0 0))=.slice ε 0 0:=rfl;have u:(eqGuard .eql b e (.const (.slice ε 0 0)) (.slice c (θ rows) cap) (.slice ε 0 0)).run P w=.ok () w:=by unfold eqGuard;simp
   have v:(Op.equal b (.slice c (θ rows) cap) (.slice ε 0 0)).run P w=.ok c.isNone w:=by
    have y:∃d,Op.maxDepth=d+1:=⟨9999,rfl⟩
    obtain⟨d,A⟩:=y;unfold Op.equal;rw[A];cases c<;>simp[Op.equalIn,k]
   simp only[i,r,Sem.run_bind,u,Result.andThen_ok,binOp,v,Sem.run_pure]
  unfold Oper.wp;rw[g,Oper.upon_value];refine⟨_,_,h,H,rfl,C c.isNone (λj=>?_),.bool _,s.sim,HM.refl _ _ _⟩;obtain⟨B,G,q,_⟩:=z j;rw[q];rfl
def Jw.clear{t e:TypeId}{x:Operand}{id g l n sz:Nat}{z:List Ad}(ho:o.op= .call {callee:=.builtin .clear,args:= #[x],argTypes:= #[t]})(hd:o.dst=none)(he:eI P t=some (none,e,sz))(bN:Sq P e=true)(hz:Zk P e=some z)(W:z.length=sz)
  (hx:BS env x= .sl id g sz l n) (E:H[id]? =some (Ft.live g p)) (a4:l+n*sz<=p.length) (hk:K (.tup []) (H.set id (.live g (XV p l (List.replicate n z).flatten)))):Jw P N o env H K:=by
 apply C9 (by rw[ho];rfl);intro X h a w s Q;obtain⟨b1,b,hi⟩:=RI he;obtain⟨i,zv,v,b4,a',b2⟩:=Uw bN;have a2:=mi hi v;obtain⟨i',y,a0,a8,a6⟩:=ff (cx X h H w) hz;have:i'=i:=by rw[v]at a0;exact(BW a0).symm
 subst this;have:y=zv:=by rw[a']at a8;exact(BW a8).symm
 subst this;have A:y.cells.size=sz:=by rw[b2,a2]
 have rx:=Dp s.env x;rw[hx]at rx;have R:=run_underlying b1 w;have S:(List.replicate n z).flatten.length=n*sz:=by simp[W]
 obtain⟨ar,ao⟩:=s.sim.live id g p E;have b0: ∃ad cap,a.eval x= .slice ad n cap/\(n≠0-> ∃B,h.io id=some B/\ad=some ⟨B,l,none⟩):=by
  generalize a.eval x=c at rx;cases rx with
  |sl h1 h2 h3 hc=>rcases hc ar with⟨_,q2,_,q4⟩|⟨B,cap,q1,_,_,q4⟩;exact⟨none,0,by rw[q4,q2],λbG=>(bG q2).elim⟩;exact⟨_,cap,q4,λ_=>⟨B,q1,rfl⟩⟩
 obtain⟨ad,cap,Z,bb⟩:=b0;have a1:id<H.length:=by rcases Az id H.length with h2|h2;exact h2;rw[Ct h2]at E;cases E
 by_cases hn:n=0;subst hn;have F:(execOp a.eval o).run P w= .ok (.value (.tuple #[])) w:=by unfold execOp;rw[ho];simp only[resolve,invoke,builtin,Sem.run_bind,Sem.run_pure,Result.andThen_ok,Q3,B4,Hi,Z,Builtin.clear_];simp[R];cases ad<;>simp
 unfold Oper.wp;rw[F,Oper.upon_value];have e1:H.set id (.live g (XV p l (List.replicate 0 z).flatten))=H:=by
  have:XV p l (List.replicate 0 z).flatten=p:=by simp[XV]
  rw[this];apply JW;intro j;by_cases a3:j=id;subst a3;rw[HB a1,E];rw[Dc λe=>a3 e.symm]
 rw[e1]at hk;exact⟨_,_,h,H,rfl,hk,.tup rfl λ_ _ _ h=>by (cases h),s.sim,HM.refl _ _ _⟩;obtain⟨B,J,rfl⟩:=bb hn;rcases ao with⟨a5,_⟩|⟨B',Y,T,fz,f,O,hb,al,b3,ap,I⟩;rw[show(cx X h H w).io id=h.io id from rfl,J]at a5;cases a5;rw[show(cx X h H w).io id=h.io id from rfl,J]at O;injection O with e0;subst e0;have V:(Builtin.zeroCells y.cells n).size=n*sz:=by rw[Zl,A]
 have G: ∀j,j<n*sz-> ∃d u,(Builtin.zeroCells y.cells n)[j]? =some d/\(List.replicate n z).flatten[j]? =some u/\d.oneCell'=true/\Bz (cx X h H w) u d:=by
  intro j r;have a7:0<sz:=by rcases WY sz with q|q;subst q;simp at r;exact q
  have hm:j%sz<y.cells.size:=by rw[A];exact Yu _ a7
  have D:y.cells[j%sz]? =some (y.cells[j%sz]'hm):=ON hm;have ax: ∀(m j:Nat),j<m*sz->(List.replicate m z).flatten[j]? =z[j%sz]? :=by
   intro m;induction m with
   |zero=>intro j r;omega
   |succ m ih=>intro j r;rw[ng,qO];rcases Az j sz with bt|bl;rw[CZ o!,Tq bt];rw[Cn o!,W,ih (j-sz) (by rw[EJ]at r;omega),<-Nat.mod_eq_sub_mod bl]
  have a9:z[j%sz]? =some (z[j%sz]'(by rw[W];exact Yu _ a7)):=Au _;have U:(Builtin.zeroCells y.cells n)[j]? =some (y.cells[j%sz]'hm):=by
   unfold Builtin.zeroCells;rw[dE,Array.getElem?_range,if_pos (by rw[A];exact r)];have bz:j%y.cells.size<y.cells.size:=by rw[A];rw[A]at hm;exact hm
   rw[Bu,getElem!_pos y.cells _ bz];simp only[A]
  cases a6 with
  |agg q1 q2 q3=>exact⟨_,_,U,by rw[ax n j r,a9],q2 _ _ D,q3 _ _ _ a9 D⟩
 obtain⟨w',L,p1,p2,p3,p4,p5,p6,p7,p8,p9⟩:=Vo (P:=P) (off:=l) (Builtin.zeroCells y.cells n).toList 0 Y w hb (by simp[V];omega) ap (λd hd=>by
  obtain⟨j,r⟩:=Db hd;have bm:j<n*sz:=by rw[<-V];have:=(Ei.1 r).1;simpa using this
  obtain⟨d',u,q1,_,q3,_⟩:=G j bm;rw[QG]at r;rw[r]at q1;injection q1 with q1;rw[q1];exact q3)
 have F:(execOp a.eval o).run P w= .ok (.value (.tuple #[])) w':=by
  unfold execOp;rw[ho];simp only[resolve,invoke,builtin,Sem.run_bind,Sem.run_pure,Result.andThen_ok,Q3,B4,Hi,Z,Builtin.clear_];have b5: ∀(α:Type) (M q:α),(match n with|0=>M|_+1=>q)=q:=by
   intro α M q;cases n with
   |zero=>exact(hn rfl).elim
   |succ m=>rfl
  obtain⟨m,rfl⟩: ∃m,n=m+1:=⟨n-1,o!⟩
  simp[R,zeroValue,typeInfo,v,a'];rw[p1];rfl
 have hh:Holds (cx X h H w) (XV p l (List.replicate n z).flatten) L fz:=by
  refine⟨λj=>if l<=j/\j<l+n*sz then(Builtin.zeroCells y.cells n).getD (j-l) undef else f j,by rw[lj (by rw[S];exact a4)];omega,by rw[p3];exact ap,λj u r=>?_⟩;rw[vU (by rw[S];exact a4),S]at r;rw[p4];simp only[NT,Dy,V,QG];split at r;rename_i C;rw[if_pos C,if_pos C];obtain⟨d,u',q1,q2,q3,q4⟩:=G (j-l) o!;rw[q2]at r;injection r with r;subst r;have e:(Builtin.zeroCells y.cells n).getD (j-l) undef=d:=by rw[RE,q1];rfl
  rw[e];exact⟨q1,q3,q4⟩;rename_i C;rw[if_neg C,if_neg C];exact I j u r
 obtain⟨q1,q2⟩:=s.sim.upd (g':=g) (B:=B) (arr:=L) (T:=T) (fz:=fz) (w':=w') E (Al _) (λ_=>⟨J,by rw[p3];exact al.symm⟩) (.inl J) p2 (λk _ hk=>p5 k hk) p6 p7 p8 (by rw[p9];exact Al _) hh;unfold Oper.wp;rw[F,Oper.upon_value];exact⟨_,_,_,_,rfl,hk,.tup rfl λ_ _ _ h=>by (cases h),q1,q2⟩
def tA(k:o.op=.call {callee:=.builtin .clear,args:= #[e],argTypes:= #[b]})(m:P.underlying b=δ (.slice V))
  (t:BS env e=.vs n []) (l:K (.tup []) H):Jw P N o env H K:=by
 apply C9 (by rw[k];rfl);intro X h a w s Q;have j:=Dp s.env e;rw[t]at j;have d:=run_underlying m w;have i:∃f cap,a.eval e=.slice f 0 cap:=by
  generalize a.eval e=c at j;cases j with
  |vs=>exact⟨_,_,rfl⟩
 obtain⟨f,cap,g⟩:=i;have x:(execOp a.eval o).run P w=.ok (.value (.tuple #[])) w:=by unfold execOp;rw[k];simp only[resolve,invoke,builtin,Sem.run_bind,Sem.run_pure,Result.andThen_ok,Q3,B4,Hi,g,Builtin.clear_];simp[d];cases f<;>simp
 unfold Oper.wp;rw[x,Oper.upon_value];exact⟨_,_,h,H,rfl,l,.tup rfl λ_ _ _ h=>by (cases h),s.sim,HM.refl _ _ _⟩
end
def Xd(P:Program)(N:Nat)(ops:Array Oper):Ψ Oper->Env->Aw->(Env->Aw->Prop)->Prop
 |[],env,H,Q=>∃env1 H1,FX N (θ H) env H env1 H1/\Q env1 H1
 |o::rest,env,H,Q=>∃env1 H1,FX N (θ H) env H env1 H1/\
  Yn ops o.guard env1 (Jw P N o env1 H1 λv H'=>Xd P N ops rest (env1.putO o.dst v) H' Q) (Xd P N ops rest (env1.putO o.dst (.tup [])) H1 Q)
def Xd.weak{N}{Q:Env->Aw->Prop}{env1}{H e:Aw}(w:FX N (θ H) q H env1 e):∀{os},Xd P N s os env1 e Q->Xd P N s os q H Q
 |[],h=>by obtain⟨c,b,d,a⟩:=h;exact⟨c,b,w.trans (d.of_le w.1),a⟩
 |o::os,h=>by obtain⟨c,b,d,a⟩:=h;exact⟨c,b,w.trans (d.of_le w.1),a⟩
theorem ue{Q:Env→Aw→Prop}:
  ∀(l:Ψ Nat)(os:Ψ Oper),l.map (s[·]?)=os.map δ->∀env H h a w,PW N os=ζ->Xd P N s os env H Q->St U h N env H a w->(∀f n y u q,Q f n->St U y N f n u q->HM h H w y n q->u.defers=a.defers->z .normal u q)->wpOpsIn (FR T) 0 P s z l a w:=by
 intro l;induction l with
 |nil=>
  intro os d env H h a w _ hr j C;have:os=[]:=t!
  subst this;obtain⟨env1,A,b,hr⟩:=hr;obtain⟨x,e,E,d⟩:=b.2 U h a w j;exact C env1 A x a w hr e (FX.ext rfl b.1 E d (HM.refl h H w)) rfl
 |cons i l L=>
  intro os d env H h a w X hr j C;match os,d with
  |o::os,d=>
   simp at d;obtain⟨O,m⟩:=d;simp only[wpOpsIn,O];have g:∀t,o.dst=δ t->t<a.tmps.size:=by intro t Y;simp only[PW]at X;rw[j.size];grind
   have p:PW N os=ζ:=by simp_all[PW]
   obtain⟨env1,A,b,hr⟩:=hr;obtain⟨x,e,E,d⟩:=b.2 U h a w j;have M:=FX.ext rfl b.1 E d (HM.refl h H w);rcases zm e.env hr with⟨J,R⟩|⟨J,S⟩;rw[C! J];refine Oper.wpIn_mono ?_ (R T U x a w e z);rintro u q ⟨c,v,y,n,rfl,k,W,V,K⟩;have r:=K.later U;apply L os m _ n y _ q p k ⟨V,PB.putO (e.env.later r) g W,(fW _ _ _).trans e.size⟩;intro env2 B m a2 G q2 F I D;exact C env2 B m a2 G q2 F (M.trans (K.trans I)) (D.trans (by cases o.dst<;>rfl));rw[D! k!];refine⟨λ_ _=>P!,L os m _ A x _ w p S ⟨e.sim,PB.putO e.env g (.tup rfl λ_ _ _ h=>by cases h),(fW _ _ _).trans e.size⟩ ?_⟩;intro env2 B m a2 G q2 F I D;exact C env2 B m a2 G q2 F (M.trans I) (D.trans (by cases o.dst<;>rfl))
theorem Fx{N}{H}{id:Nat}{b:Array Oper}(i:PW N b.toList=ζ)(h:Xd P N b b.toList q H (Z .normal)):J9 P N (.region id b η) q H Z:=by intro r X g a w s _;refine wpIn_region (ue (List.range b.size) b.toList ?_ q H g a w i h s ?_);apply JW;grind;intro c d f l m Q j k e;exact⟨f,c,d,Q,j,k,.same e⟩
open Go.MapKept (IsKey)
def Qa{α:Type}(n:Int)(v:α):Ψ (Int×α)->Ψ (Int×α)
 |[]=>[(n,v)]
 |p::r=>bif p.1==n then(n,v)::r else p::Qa n v r
def Lo{α:Type}(n:Int):Ψ (Int×α)->Ω α
 |[]=>ε
 |p::r=>bif p.1==n then δ p.2 else Lo n r
def AAH{a c:Type}(f:a->c)(n:Int)(v:a):∀b:Ψ (Int×a),(Qa n v b).map (λp=>(p.1,f p.2))=Qa n (f v) (b.map λp=>(p.1,f p.2))
 |[]=>rfl
 |p::r=>by simp only[Qa,B4];cases p.1==n<;>simp[AAH f n v r]
def vE{b c:Type}(f:b->c)(n:Int):∀a:Ψ (Int×b),Lo n (a.map λp=>(p.1,f p.2))=(Lo n a).map f
 |[]=>rfl
 |p::r=>by simp only[Lo,B4];cases p.1==n<;>simp[vE f n r]
section
variable {X:Nat->Prop}{h:Gh}{H:Aw}{w:World}
def JT.of_extM{a:Gh}{d:World}(s:JT X h H w)(k:HM h H w a C d)
  (key:∀(id:Nat)(e:Ft),C[id]?=δ e->e≠.dead->(H[id]?=δ e/\a.gen id=h.gen id/\a.io id=h.io id/\a.cap id=h.cap id/\∀B,h.io id=δ B->d.heap[B]?=w.heap[B]?)\/(e.isB=ζ/\BAt a d id e))
  (inj:∀(id b:Nat)(e g:Ft)(B:Nat),C[id]?=δ e->C[b]?=δ g->e≠.dead->g≠.dead->a.io id=δ B->a.io b=δ B->id=b):JT X a C d:=
 s.of_ext' k (λi e j f=>(key i e j f).imp id λh=>.inr (.inr h)) inj
theorem JT.push_m(s:JT X h H w)(o:Obj)(cap:Nat)(E:Ft)(u:E.isB=ζ)
  (t:BAt (h.at_ (θ H) (δ w.heap.size) 0 cap) {w with heap:=w.heap.push o} (θ H) E):
  JT X (h.at_ (θ H) (δ w.heap.size) 0 cap) (H++[E]) {w with heap:=w.heap.push o}:=by
 refine s.of_extM (HM.push o cap E) (λid e d g=>?_) λid q e r B m n b c k l=>?_;rcases JR d with⟨a,d⟩|⟨rfl,rfl⟩;refine .inl ⟨d,by simp[Gh.at_,Bq a],by simp[Gh.at_,Bq a],by simp[Gh.at_,Bq a],λB f=>?_⟩;have:=s.io_at d g f;grind;grind;rcases JR m with⟨l1,i⟩|⟨rfl,_⟩<;>rcases JR n with⟨l2,j⟩|⟨rfl,_⟩;exact s.inj _ _ _ _ B i j b c (by simpa[Gh.at_,Bq l1]using k) (by simpa[Gh.at_,Bq l2]using l);have p:=s.io_at i b (by simpa[Gh.at_,Bq l1]using k);grind[Gh.at_];have p:=s.io_at j c (by simpa[Gh.at_,Bq l2]using l);grind[Gh.at_];rfl
def JT.setM(s:JT X h H w){E E':Ft}{o o':Obj}{w':World}(g:H[N]?=δ E)(J:E.isB=ζ)(v:E'.isB=ζ)(m:h.io N=δ n)(K:w.heap[n]?=δ o)(A:∀r,o≠.loop r)
  (G:w'.heap=w.heap.setIfInBounds n o') (C:w'.os=w.os) (B:w'.tape=w.tape) (M:w'.output=w.output) (x:BAt h w' N E'):
  JT X h (H.set N E') w'/\HM h H w h (H.set N E') w':=by
 have d:N<θ H:=by rcases Az N (θ H) with f|f;exact f;rw[Ct f]at g;cases g
 have b:E≠.dead:=by rintro rfl;cases J
 have O:∀k,k≠n->w'.heap[k]?=w.heap[k]? :=λk h=>by rw[G];simp[PM h]
 have own:∀k,owned h (H.set N E') k->owned h H k:=by rintro k ⟨i,e,j,c,f⟩;rcases Jv d j with⟨y,a⟩|⟨rfl,_⟩;exact⟨i,e,a,c,f⟩;exact⟨i,E,g,b,f⟩
 have I:HM h H w h (H.set N E') w':=by refine⟨C,B,M,by rw[G];simp,λk _ hn=>O k λe=>hn ⟨N,E,g,b,by rw[e];exact m⟩,q!,λ_ _=>Al _,λ_ _ _=>⟨rfl,rfl⟩,λk O=>.inl (own k O),λk r hr=>⟨r,?_⟩⟩;refine(O k λe=>?_).trans hr;subst e;rw[K]at hr;injection hr with hr;exact A r hr
 refine⟨s.of_extM I (λi e j c=>?_) (λi D e F k j f p q t u=>?_),I⟩;rcases Jv d j with⟨y,a⟩|⟨rfl,rfl⟩;refine .inl ⟨a,rfl,rfl,rfl,λk z=>O k λe=>?_⟩;subst e;exact y (s.inj i N _ _ k a g c b z m);exact .inr ⟨v,x⟩;rcases Jv d j with⟨y,a⟩|⟨rfl,rfl⟩<;>rcases Jv d f with⟨L,l⟩|⟨rfl,rfl⟩;exact s.inj i D e F k a l p q t u;exact s.inj i D e E k a g p b t u;exact s.inj i D E F k g l b q t u;rfl
end
def oF{k:IntKind}{n:Int}:∀(l:Ψ MapEntry)(a:Ψ (Int×Ad))i,θ l=θ a→(∀(j:Nat)(p:Int×Ad),a[j]?=δ p→ ∃e:MapEntry,l[j]?=δ e∧e.key=.int k p.1)→
  (Instr.findNow (.int k) (.int k n) l i=δ ε/\Lo n a=ε/\∀v,Qa n v a=a++[(n,v)])\/∃j e p,Instr.findNow (.int k) (.int k n) l i=δ (δ (i+j,e.val))/\l[j]?=δ e/\a[j]?=δ p/\e.key=.int k n/\Lo n a=δ p.2/\∀v,Qa n v a=a.set j (n,v)
 |[],[],_,_,_=>.inl ⟨rfl,rfl,λ_=>rfl⟩
 |[],_::_,_,hl,_=>by simp at hl
 |_::_,[],_,hl,_=>by simp at hl
 |e::l,p::a,i,hl,h=>by
  obtain⟨z,o,r⟩:=h 0 p rfl;simp only[dA,Ar]at o;subst o;have m:Instr.sameNow (.int k) (.int k n) e.key=δ (n==p.1):=by rw[r];simp[Instr.sameNow]
  by_cases hn:p.1=n;refine .inr ⟨0,e,p,?_,rfl,rfl,by rw[r,hn],?_,λv=>?_⟩;simp[Instr.findNow,m,hn];simp[Lo,hn];simp[Qa,hn];have c:(n==p.1)=η:=by simp;exact λe=>hn e.symm
  have b:(p.1==n)=η:=by simpa using hn
  rcases oF (k:=k) (n:=n) l a (i+1) (by simpa using hl) (λj q x=>by simpa using h (j+1) q (by simpa using x))with⟨d,f,g⟩|⟨j,s,y,d,f,g,t,u,w⟩;exact .inl ⟨by simp[Instr.findNow,m,c,d],by simp[Lo,b,f],λv=>by simp[Qa,b,g]⟩;exact .inr ⟨j+1,s,y,by simp[Instr.findNow,m,c,d];omega,by simpa using f,by simpa using g,t,by simp[Lo,b,u],λv=>by simp[Qa,b,w]⟩
section
variable {P:Program}{N:Nat}{o:Oper}{env:Env}{H:Aw}{K:Ad->Aw->Prop}
def Jw.makeMap(k:IntKind)(c:o.op=.makeMap b ε)(e:K (.mp (θ H)) (H++[.mp k []])):Jw P N o env H K:=by
 apply C9 (by rw[c];rfl);intro X h a w s Q;have t:(execOp a.eval o).run P w=.ok (.value (.map (δ w.heap.size))) {w with heap:=w.heap.push (.map #[] 0)}:=by unfold execOp;rw[c];rfl
 unfold Oper.wp;rw[t,Oper.upon_value];refine⟨_,_,_,_,rfl,e,?_,s.sim.push_m (.map #[] 0) 0 (.mp k []) rfl ⟨w.heap.size, #[],by simp[Gh.at_],by simp[Gh.at_],q!,rfl,λj p d=>by simp at d⟩,HM.push _ _ _⟩;exact .mp (by simp[cx]) rfl λ_=>⟨w.heap.size,by simp[cx,Gh.at_],rfl⟩
def AFL{a:Act}(s:St U h N env H a w)(u:BS env e=.mp n)(x:H[n]?=δ (.mp M r)):
  ∃(B:Nat)(b:Array MapEntry),a.eval e=.map (δ B)/\h.io n=δ B/\h.gen n=0/\w.heap[B]?=δ (.map b b.size)/\b.size=θ r/\∀(j:Nat)(p:Int×Ad),r[j]?=δ p->∃X:MapEntry,b[j]?=δ X/\X.born=j/\X.key=.int M p.1/\∀e,Bz e p.2 X.val:=by
 have g:=Dp s.env e;rw[u]at g;obtain⟨B,b,i,l,m,k,o⟩:=s.sim.bld n _ x rfl;generalize a.eval e=c at g;cases g with
 |mp t y q=>obtain⟨v,d,rfl⟩:=q l;rw[show(cx U h H w).io n=h.io n from rfl,i]at d;injection d with d;subst d;exact⟨B,b,rfl,i,l,m,k,o⟩
def AE7{x}(s:St X h N env H x w)(d:BS env e=.int M a):x.eval e=.int M a:=by have b:=Dp s.env e;rw[d]at b;generalize x.eval e=c at b;cases b;rfl
theorem Jw.mapUpdate{t U et:TypeId}{m I A:Operand}{id:Nat}{k:IntKind}{es:Ψ (Int×Ad)}{n:Int}{v:Ad}(S:o.op=.mapUpdate t m I A)(hm:BS env m=.mp id)(G:BS env I=.int k n)
  (hp:∀x c,Bz x (BS env A) c->∀y,Bz y v c) (T:P.underlying t=δ (.map U et)) (l:P.underlying U=δ (.int k)) (E:H[id]?=δ (.mp k es)) (R:K .any (H.set id (.mp k (Qa n v es)))):Jw P N o env H K:=by
 apply C9 (by rw[S];rfl);intro X h a w s Q;obtain⟨B,b,q1,q2,q3,q4,q5,q6⟩:=AFL s hm E;have V:=AE7 s G;have W:=hp _ _ (Dp s.env A);generalize u:a.eval A=c at W;have al:id<θ H:=k!
 have f:IsKey (.int k) (.int k n):=rfl;have q:B<w.heap.size:=(dC.1 q4).1;have z:execOp a.eval o=(do Instr.mapUpdate t (a.eval m) (a.eval I) (a.eval A);pure .skip):=by unfold execOp;rw[S]
 rcases oF (n:=n) (k:=k) b.toList es 0 k! (λj p d=>by obtain⟨e,Z,_,C,_⟩:=q6 j p d;exact⟨e,k!,C⟩)with⟨D,M,O⟩|⟨j,Y,p0,D,M,O,h4,h5,h6⟩;have g:(execOp a.eval o).run P w=.ok .skip {w with heap:=w.heap.setIfInBounds B (.map (b.push {key:=.int k n,val:=c,born:=b.size}) (b.size+1))}:=by rw[z,q1,V,u];simp[Instr.mapUpdate,run_underlying T,MapKept.run_getObj_map q4,MapKept.run_checkKey l f,MapKept.run_findKey l D,MapKept.run_setObj_map _ q4]
 unfold Oper.wp;rw[g,Oper.upon_skip];obtain⟨J,L⟩:=s.sim.setM (E':=.mp k (Qa n v es)) (o':=.map (b.push {key:=.int k n,val:=c,born:=b.size}) (b.size+1))
  (w':={w with heap:=w.heap.setIfInBounds B (.map (b.push {key:=.int k n,val:=c,born:=b.size}) (b.size+1))}) E rfl rfl q2 q4 (λr e=>by cases e) rfl rfl rfl rfl (by refine⟨B,b.push {key:=.int k n,val:=c,born:=b.size},q2,q3,by simp[q],k!,λj p d=>?_⟩;rw[O]at d;rcases Q9 j (θ es) with ar|rfl|ad;grind;rw[Cn (Al _),G2]at d;simp only[dA,Ar]at d;subst d;exact⟨{key:=.int k n,val:=c,born:=b.size},k!,q5,rfl,W⟩;rw[Ct w!]at d;cases d)
 exact⟨_,_,_,_,rfl,R,.any _,J,L⟩;have d:b[j]?=δ Y:=by simpa using M
 have ap:j<b.size:=(dC.1 d).1;have g:(execOp a.eval o).run P w=.ok .skip {w with heap:=w.heap.setIfInBounds B (.map (b.modify j λe=>{e with key:=.int k n,val:=c}) b.size)}:=by rw[z,q1,V,u];simp[Instr.mapUpdate,run_underlying T,MapKept.run_getObj_map q4,MapKept.run_checkKey l f,MapKept.run_findKey l D,d,h4,MapKept.run_keyThatStays f,MapKept.run_setObj_map _ q4]
 unfold Oper.wp;rw[g,Oper.upon_skip];obtain⟨J,L⟩:=s.sim.setM (E':=.mp k (Qa n v es)) (o':=.map (b.modify j λe=>{e with key:=.int k n,val:=c}) b.size)
  (w':={w with heap:=w.heap.setIfInBounds B (.map (b.modify j λe=>{e with key:=.int k n,val:=c}) b.size)}) E rfl rfl q2 q4 (λr e=>by cases e) rfl rfl rfl rfl (by refine⟨B,b.modify j λe=>{e with key:=.int k n,val:=c},q2,q3,by simp[q],k!,λi p F=>?_⟩;rw[h6,We]at F;split at F;grind;rename_i ao;obtain⟨e,Z,C⟩:=q6 i p F;exact⟨e,k!,C⟩)
 exact⟨_,_,_,_,rfl,R,.any _,J,L⟩
def ACx(P:Program)(t:TypeId):Ω Ad:=
 match (P.info? t).bind (·.zero)with
 |some (.agg cs)=>if cs.toList.all (·.oneCell')then δ (.agg (cs.toList.map sC))else ε
 |some (.bool b)=>δ (.bool b)
 |_=>ε
theorem ADy(h:ACx P b=δ u)(w:World):∃v,(zeroValue b).run P w=.ok v w/\∀x,Bz x u v:=by unfold ACx at h;split at h;rename_i d a;split at h;rename_i e;obtain⟨i,c,a⟩:=Do.1 a;refine⟨.agg d,by simp[zeroValue,typeInfo,c,a],λx=>?_⟩;have:=zY x (.agg d);grind[ADJ];cases h;rename_i t a;obtain⟨i,c,a⟩:=Do.1 a;injection h with h;subst h;exact⟨.bool t,by simp[zeroValue,typeInfo,c,a],λx=>.bool t⟩;cases h
theorem Jw.lookup{id:Nat}{k:IntKind}{es:Ψ (Int×Ad)}{n:Int}{z:Ad}{g:Bool}(T:o.op=.lookup b e y g)(hm:BS env e=.mp id)(G:BS env y=.int k n)
  (U:P.underlying b=δ (.map V Q)) (f:P.underlying V=δ (.int k)) (hz:ACx P Q=δ z) (he:H[id]?=δ (.mp k es))
  (hk:K (bif g then .tup [(Lo n es).getD z,.bool (Lo n es).isSome]else(Lo n es).getD z) H):Jw P N o env H K:=by
 apply C9 (by rw[T];cases g<;>rfl);intro X h a w s t;obtain⟨B,q,q1,q2,q3,q4,q5,q6⟩:=AFL s hm he;have Y:=AE7 s G;have i:IsKey (.int k) (.int k n):=rfl;have O:execOp a.eval o=(do pure (.value (<-Instr.lookup b (a.eval e) (a.eval y) g))):=by unfold execOp;rw[T]
 have x:∀(c:Value)v J,(execOp a.eval o).run P w=.ok (.value (bif g then .tuple #[c,.bool J]else c)) w→Bz (cx X h H w) v c→K (bif g then .tup [v,.bool J]else v) H→
   Oper.wp P o a w (λZ L=>∃c v E C,Z=a.put o.dst c/\K v C/\Bz (cx X E C L) v c/\JT X E C L/\HM h H w E C L) t:=by
  intro c v J A I hK;unfold Oper.wp;rw[A,Oper.upon_value];refine⟨_,_,h,H,rfl,hK,?_,s.sim,HM.refl _ _ _⟩;cases g;exact I;refine .tup q! λj u d l S=>?_;rcases j with _|_|j;grind;simp at l S;subst l S;exact .bool J;grind
 rcases oF (n:=n) (k:=k) q.toList es 0 k! (λj p l=>by obtain⟨m,r,_,D,_⟩:=q6 j p l;exact⟨m,k!,D⟩)with⟨F,h2,R⟩|⟨j,M,W,F,h2,R,h4,h5,h6⟩;obtain⟨v,I,hr⟩:=ADy hz w;refine x v z η ?_ (hr _) k!;rw[O,q1,Y];cases g<;>simp[Instr.lookup,run_underlying U,MapKept.run_getObj_map q4,MapKept.run_checkKey f i,MapKept.run_findKey f F,I];obtain⟨e',r,_,_,D⟩:=q6 j W R;have l:q[j]?=δ M:=k!
 rw[l]at r;injection r with r;subst r;refine x M.val W.2 ζ ?_ (D _) k!;rw[O,q1,Y];cases g<;>simp[Instr.lookup,run_underlying U,MapKept.run_getObj_map q4,MapKept.run_checkKey f i,MapKept.run_findKey f F]
theorem Jw.range{id:Nat}{k:IntKind}{es:Ψ (Int×Ad)}(d:o.op=.range b e)(j:BS env e=.mp id)(l:P.underlying b=δ (.map V Q))(g:H[id]?=δ (.mp k es))
  (i:K (.itp (θ H) id) (H++[.it (θ es) []])):Jw P N o env H K:=by
 apply C9 (by rw[d];rfl);intro X h a w s f;obtain⟨B,t,q1,q2,q3,q4,q5,q6⟩:=AFL s j g;have c:id<θ H:=k!
 have n:(execOp a.eval o).run P w=.ok (.value (.pointer (δ ⟨w.heap.size,0,ε⟩))) {w with heap:=w.heap.push (.mapIter (δ B) (θ es) #[] (θ es))}:=by unfold execOp;rw[d];simp only[q1];simp[Instr.range,run_underlying l,MapKept.run_getObj_map q4,newObj,q5];rfl
 unfold Oper.wp;rw[n,Oper.upon_value];refine⟨_,_,_,_,rfl,i,?_,s.sim.push_m (.mapIter (δ B) (θ es) #[] (θ es)) B (.it (θ es) []) rfl ⟨w.heap.size,by simp[Gh.at_],by simp[Gh.at_],by simp[Gh.at_]⟩,HM.push _ _ _⟩;exact .itp (by simp[cx]) (by simp[cx];omega) rfl λ_=>⟨w.heap.size,by simp[cx,Gh.at_],rfl,λ_=>by simp[cx,Gh.at_,Bq c,q2]⟩
def AIJ{a:Act}{m:Nat}(s:St U h N env H a w)(F:BS env e=.itp W m)(D:H[W]?=δ (.it n d))(C:H[m]?=δ (.mp M r)):
  ∃(B f:Nat)(b:Array MapEntry),a.eval e=.pointer (δ ⟨B,0,ε⟩)/\h.io W=δ B/\h.gen W=0/\w.heap[B]?=δ (.mapIter (δ f) n d.toArray n)/\h.cap W=f/\w.heap[f]?=δ (.map b b.size)/\b.size=θ r/\∀(j:Nat)(p:Int×Ad),r[j]?=δ p->∃X:MapEntry,b[j]?=δ X/\X.born=j/\X.key=.int M p.1/\∀e,Bz e p.2 X.val:=by
 have l:=Dp s.env e;rw[F]at l;obtain⟨B,o,q,x⟩:=s.sim.bld W _ D rfl;obtain⟨f,b,t,u,v,y,z⟩:=s.sim.bld m _ C rfl;generalize a.eval e=c at l;cases l with
 |itp E J I A=>obtain⟨G,g,rfl,k⟩:=A q;rw[show(cx U h H w).io W=h.io W from rfl,o]at g;injection g with g;subst g;have k:=k u;rw[show(cx U h H w).io m=h.io m from rfl,t]at k;injection k with k;have k:f=h.cap W:=k;subst k;exact⟨B,_,b,rfl,o,q,x,rfl,v,y,z⟩
theorem Jw.next{x:Operand}{id m:Nat}{k:IntKind}{es:List (Int×Ad)}{seen:List Nat}(ho:o.op= .next x false)(hx:BS env x= .itp id m)(f:H[id]? =some (.it es.length seen))(he:H[m]? =some (.mp k es))
  (z:(∀j,j<es.length->j∈seen)->K (.tup [.bool false]) H)
  (C: ∀(j:Nat) (p:Int×Ad),es[j]? =some p->j∉seen->K (.tup [.bool true,.int k p.1,p.2]) (H.set id (.it es.length (seen++[j])))):Jw P N o env H K:=by
 apply C9 (by rw[ho];rfl);intro X h a w s Q;obtain⟨B,v,c,q1,q2,q3,q4,qc,q5,q6,q7⟩:=AIJ s hx f he;have ap:execOp a.eval o=(do pure (.value (<-Instr.next (a.eval x) false o.type))):=by unfold execOp;rw[ho]
 have y: ∀(j:Nat) (e:MapEntry),c[j]? =some e->e.born=j/\j<es.length:=by
  intro j e q;have I:j<es.length:=by grind[Array.getElem?_eq_some_iff]
  obtain⟨e',E,T,_⟩:=q7 j _ (Au I);rw[q]at E;injection E with E;subst E;exact⟨T,I⟩
 have t: ∀e∈c.toList,e.born<es.length:=λe A=>by grind[List.getElem?_of_mem]
 have M:w.heap[B]? =some (.mapIter (some v) es.length seen.toArray es.length):=q4;generalize V:Array.filter (λe:MapEntry=>!seen.toArray.contains e.born) c=L;have G: ∀e∈L.toList,e∈c.toList/\e.born∉seen:=λe A=>by rw[<-V]at A;simpa using A
 have E:L.filter (λx=>decide (x.born<es.length))=L:=Array.filter_eq_self.2 (λx hx=>by simpa using t x (G x (by simpa using hx)).1);have T:L.filter (λx=>decide (x.born>=es.length))= #[]:=by grind[Array.filter_eq_empty_iff]
 have D:(Instr.next (.pointer (some ⟨B,0,none⟩)) false o.type).run P w=((do
   let b:=(if L.isEmpty then #[none]else #[])++L.map some;match b[<-choose (.mapNext b.size)]? with
   |some (some e)=>
    setObj B (.mapIter (some v) es.length (seen.toArray.push e.born) c.size)
    pure (.tuple #[.bool true,e.key,e.val])
   |some none=>pure (.tuple #[.bool false])
   |none=>stuck "Next: no such candidate"):Sem Value).run P w:=by
  simp only[Instr.next,getObj,Sem.run_bind,Sem.run,M,q5,Result.andThen,next_test_false seen.toArray c es.length es.length t (Al _),QH,if_false,V,E,T,Array.append_empty];rfl
 by_cases h0:L.size=0;have W:L= #[]:=tq h0;subst W;have g:(execOp a.eval o).run P w= .ok (.value (.tuple #[.bool false])) w:=by simp_all[Sem.run_bind,Sem.run,Question.forced]
 unfold Oper.wp;rw[g,Oper.upon_value];refine⟨_,_,h,H,rfl,z λj q=>?_,.tup q! λi u d f n=>?_,s.sim,HM.refl _ _ _⟩;obtain⟨e,O,R,_⟩:=q7 j _ (Au q);rcases Classical.em (j∈seen)with U|U;exact U;have:e∈(Array.filter (λe:MapEntry=>!seen.toArray.contains e.born) c).toList:=by have A:e∈c:=wL O;simp[A,R,U]
 rw[V]at this;simp at this;rcases i with _|i;simp at f n;subst f n;exact .bool false;simp at f;have ax:L.isEmpty=false:=by simp[Array.isEmpty,h0]
 obtain⟨i,l,ar,Y,Z,ad,al,ao⟩: ∃(i:Nat) (l:World),i<L.size/\l.heap=w.heap/\l.os=w.os/\l.output=w.output/\l.tape=w.tape/\(choose (Question.mapNext L.size)).run P w= .ok i l:=by by_cases hf:L.size<=1;exact⟨0,w,o!,rfl,rfl,rfl,rfl,by simp[choose,Sem.run,Question.forced,hf]⟩;exact⟨_,w.drew,Yu _ o!,rfl,rfl,rfl,rfl,by simp only[choose,Sem.run,Question.forced,decide_eq_true_eq,hf,if_false,Question.cut];rfl⟩
 have A:L[i]∈L.toList:=q!
 obtain⟨m1,m2⟩:=G _ A;obtain⟨j,q⟩:=Db m1;have q:c[j]? =some L[i]:=by simpa using q
 obtain⟨O,R⟩:=y j _ q;obtain⟨e,S,c2,c3,c4⟩:=q7 j _ (Au R);rw[q]at S;injection S with S;subst S;have F:B<w.heap.size:=(dC.1 q4).1;have g:(execOp a.eval o).run P w= .ok (.value (.tuple #[.bool true,.int k es[j].1,L[i].val])) {l with heap:=w.heap.setIfInBounds B (.mapIter (some v) es.length (seen++[j]).toArray es.length)}:=by
  rw[ap,q1,Sem.run_bind,D];simp only[ax,QH,if_false,Array.empty_append,Array.size_map,Sem.run_bind,ao,Result.andThen_ok,dE,ON ar,Bu];have J:(setObj B (.mapIter (some v) es.length (seen.toArray.push L[i].born) c.size)).run P l= .ok () {l with heap:=w.heap.setIfInBounds B (.mapIter (some v) es.length (seen++[j]).toArray es.length)}:=by simp[setObj,Sem.run,Y,M,O,q6]
  simp only[J,Result.andThen_ok,Sem.run_pure,c3]
 unfold Oper.wp;rw[g,Oper.upon_value];obtain⟨s1,s2⟩:=s.sim.setM (E':=.it es.length (seen++[j])) (o':=.mapIter (some v) es.length (seen++[j]).toArray es.length) (w':={l with heap:=w.heap.setIfInBounds B (.mapIter (some v) es.length (seen++[j]).toArray es.length)}) f rfl rfl q2 q4 (λr e=>by cases e) rfl Z al ad
  ⟨B,q2,q3,by simp[F,qc]⟩
 refine⟨_,_,_,_,rfl,C j _ (Au R) (by rw[<-O];exact m2),.tup q! λi u d f n=>?_,s1,s2⟩;rcases i with _|_|_|i;simp at f n;subst f n;exact .bool true;simp at f n;subst f n;exact .int _ _;simp at f n;subst f n;exact c4 _;simp at f
theorem Jw.entry{x:Operand}{id m j:Nat}{k:IntKind}{es:Ψ (Int×Ad)}{seen:Ψ Nat}{p:Int×Ad}(l:o.op=.entry x)(A:BS env x=.itp id m)(f:H[id]?=δ (.it (θ es) (seen++[j])))(r:H[m]?=δ (.mp k es))
  (v:es[j]?=δ p) (y:K (.tup [.int k p.1,p.2]) H):Jw P N o env H K:=by
 apply C9 (by rw[l];rfl);intro X h a w s Q;obtain⟨B,C,b,q1,q2,q3,q4,J,q5,q6,q7⟩:=AIJ s A f r;obtain⟨e,D,n,q,E⟩:=q7 j p v;have t:b.find? (·.born==j)=δ e:=by
  rw[<-Array.find?_toList,<-n];refine find_born e b.toList ?_ k!;have I:b.toList.map (·.born)=List.range b.size:=by refine JW λi=>?_;rw[CT,QG];rcases Az i b.size with z|z;obtain⟨e,F,G,_⟩:=q7 i _ (Au (by omega:i<θ es));grind;grind
  grind
 have c:(execOp a.eval o).run P w=.ok (.value (.tuple #[.int k p.1,e.val])) w:=by unfold execOp;rw[l];simp only[q1];simp[Instr.entry,getObj,Sem.run,q4,q5,q6,t,q]
 unfold Oper.wp;rw[c,Oper.upon_value];refine⟨_,_,h,H,rfl,y,.tup q! λi u d f g=>?_,s.sim,HM.refl _ _ _⟩;rcases i with _|_|i;simp at f g;subst f g;exact .int _ _;grind;grind
end
mutual
def Ty.flat:Ty->Bool
 |.list _=>η
 |.arr _ t=>t.flat
 |.prod ts=>ts.flat
 |_=>ζ
def Sr.flat:Sr->Bool
 |.one t=>t.flat
 |.cons t ts=>t.flat&&ts.flat
end
def Plain(v:Ad):Prop:=∀x c,Bz x v c->∀y,Bz y v c
theorem Plain.agg{a:Ψ Ad}(h:∀v∈a,Plain v):Plain (.agg a):=λx c r y=>by
 cases r with
 |agg e f i=>exact .agg e f λj v d b g=>h v (BP b) x d (i j v d b g) y
mutual
theorem Ty.plain_cells:∀(t:Ty),t.flat=ζ->∀x:t.D,∀v∈(t.enc x).cells,Plain v
 |.bool,_,b,v,d=>by simp only[Ty.enc,Ad.cells,A9]at d;subst d;exact λ_ c r y=>by cases r;exact .bool _
 |.int k,_,n,v,d=>by simp only[Ty.enc,Ad.cells,A9]at d;subst d;exact λ_ c r y=>by cases r;exact .int _ _
 |.str,_,s,v,d=>by
  simp only[Ty.enc,Ad.cells,A9]at d;subst d;exact λ_ c r y=>by
   cases r with
   |str t e=>exact .str t e
 |.list t,h,_,_,_=>by cases h
 |.arr n t,h,a,v,d=>by simp only[Ty.enc,Ad.cells,G0]at d;obtain⟨i,_,d⟩:=d;exact t.plain_cells h _ v d
 |.prod ts,h,x,v,d=>ts.plain_cells h x v d
theorem Sr.plain_cells:∀(b:Sr),b.flat=ζ->∀x:b.D,∀v∈b.cells x,Plain v
 |.one t,h,x,v,a=>t.plain_cells h x v a
 |.cons t b,h,x,v,a=>by simp only[Sr.flat,BZ]at h;simp only[Sr.cells,Ak]at a;rcases a with a|a;exact t.plain_cells h.1 _ v a;exact b.plain_cells h.2 _ v a
end
theorem Ty.plain(t:Ty)(h:t.flat=ζ)(x:t.D):Plain (t.enc x):=by have a:=t.plain_cells h x;cases t<;>grind[Plain.agg,Ty.enc,Ad.cells]
section
variable {R:Type}
def vB(P:Program)(H:As)(t:TypeId)(k:TV->As->Ω R):Ω R:=
 match P.underlying t with
 |some (.map kt et)=>
  match P.underlying kt,AB2 P 1000 et with
  |some (.int kk),δ ty=>k (.c (.raw (.mp (θ H)))) (H++[.mp η kk ty []])
  |_,_=>ε
 |_=>ε
def oM(P:Program)(H:As)(t:TypeId)(m kx v:TV)(k:TV->As->Ω R):Ω R:=
 match P.underlying t with
 |some (.map kt _)=>
  match m,kx with
  |.c (.raw (.mp id)),.c (.it kk n)=>
   match P.underlying kt,H[id]? with
   |some (.int k1),δ (.mp η k2 ty es)=>
    if k1=kk/\k2=kk then
     match ty.flat with
     |true=>match ty.data v with|some x=>k Vv (H.set id (.mp η k2 ty (Qa n x es)))|none=>ε
     |false=>ε
    else ε
   |_,_=>ε
  |_,_=>ε
 |_=>ε
def yL(P:Program)(H:As)(t:TypeId)(g:Bool)(m kx:TV)(k:TV->As->Ω R):Ω R:=
 match P.underlying t with
 |some (.map kt et)=>
  match m,kx with
  |.c (.raw (.mp id)),.c (.it kk n)=>
   match P.underlying kt,H[id]?,ACx P et with
   |some (.int k1),δ (.mp _ k2 ty es),δ z=>
    if k1=kk/\k2=kk then
     match Ad.beq z (ty.enc ty.zero)with
     |true=>k (bif g then .tup [ty.tv ((Lo n es).getD ty.zero),.c (.bl (Lo n es).isSome)]else ty.tv ((Lo n es).getD ty.zero)) H
     |false=>ε
    else ε
   |_,_,_=>ε
  |_,_=>ε
 |_=>ε
variable {P:Program}{N:Nat}{o:Oper}{env:Bi}{H:As}{k:TV->As->Ω R}{r:R}
theorem vC(ok:OL env H)(t:o.op=.makeMap b ε)(h:vB P H b k=δ r):∀F,nV P N o env H F k r:=by intro F;unfold vB at h;split at h;split at h;rename_i a c _ _;have st:CL H (H++[.mp η a c []]):=CL.push H _;refine⟨_,_,Jw.makeMap a t ⟨?_,?_⟩,h,KB trivial,QF ok.heap trivial,st,Frame.push F H _⟩;show Ad.mp (BL H).length=Ad.mp (θ H);rw[Cd];rw[Rr];rfl;cases h;cases h
def rF{u:Operand}(ok:OL env H)(E:o.op=.mapUpdate b e y u)(h:oM P H b (Jx env e) (Jx env y) (Jx env u) k=δ r):nV P N o env H (List.range (θ H)) k r:=by
 have s:=Lx env;unfold oM at h;split at h;rename_i K I F;split at h;rename_i id J n D C;split at h;rename_i k1 q a d g i;split at h;rename_i f;obtain⟨w,A⟩:=f;subst w A;split at h;rename_i t;split at h;rename_i x G;have st:CL H (H.set id (.mp η q a (Qa n x d))):=CL.set i rfl λ_ _ _ _ _ h=>by cases h
 refine⟨Vv,_,Jw.mapUpdate (id:=id) (k:=q) (n:=n) (v:=a.enc x) (es:=d.map λp=>(p.1,a.enc p.2)) E (by rw[s,D];rfl) (by rw[s,C];rfl) (λm c l z=>?_) F g (by rw[EK,i];rfl) ⟨rfl,?_⟩,h,jM,R0 st ok.heap trivial,st,λj B hn=>(hn (IJ.2 B)).elim⟩;rw[s]at l;exact a.plain t x m c (M1 G m c l) z;rw[LY,<-AAH];rfl;cases h;cases h;cases h;cases h;cases h;cases h
theorem wE(ok:OL env H)(m:o.op=.lookup b e y G)(h:yL P H b G (Jx env e) (Jx env y) k=δ r):∀F,nV P N o env H F k r:=by
 intro F;have i:=Lx env;unfold yL at h;split at h;rename_i g D A;split at h;rename_i id E n x w;split at h;rename_i k1 ro C c a z f u B;split at h;rename_i d;obtain⟨l,q⟩:=d;subst l q;split at h;rename_i s;have t:(Lo n (a.map λp=>(p.1,c.enc p.2))).getD z=(c.tv ((Lo n a).getD c.zero)).enc:=by rw[vE,beq_eq _ _ s,Ty.tv_enc];cases Lo n a<;>rfl
 refine⟨_,H,Jw.lookup (id:=id) (k:=C) (n:=n) (z:=z) (g:=G) (es:=a.map λp=>(p.1,c.enc p.2)) m (by rw[i,x];rfl) (by rw[i,w];rfl) A f B (by rw[EK,u];rfl) ⟨?_,rfl⟩,h,?_,ok.heap,CL.refl H,Frame.refl F H⟩;rw[t,vE];cases G<;>cases Lo n a<;>rfl;cases G;exact Ty.tv_ok _ _;refine Rz λv j=>?_;rcases Av.1 j with rfl|j;exact Ty.tv_ok _ _;simp at j;subst j;exact KB trivial;cases h;cases h;cases h;cases h;cases h
end
inductive Tgt where
 |fn (F:FuncId)
 |yd (id:Nat)
abbrev Ss:=∀{R:Type},Tgt->Ψ TV->As->(TV->As->Ω R)->Ω R
def iw(ops:Array Oper)(g:Ω (Nat×Bool))(env:Bi):Ω Bool:=
 match g with
 |none=>δ ζ
 |some (j,want)=>
  match (ops[j]?).bind (·.dst)with
  |some d=>match env.get d with|.c (.bl b)=>δ (b==want)|.tup []=>δ η|_=>ε
  |none=>ε
def Lq:Ψ Bw->Ψ Nat
 |[]=>[]
 |.own id _ _ _::r=>id::Lq r
 |_::r=>Lq r
def behind(H:As)(v:TV):Ψ Nat:=
 match v with
 |.c (.raw (.ptr id 0 0))=>match H[id]? with|some (.live η cs)=>Lq cs|_=>[]
 |v=>Lq v.refs
def Ir:Ψ Nat->Bi->As->Bi×As
 |[],env,H=>(env,H)
 |id::r,env,H=>match frz id env H with|some (e,h)=>Ir r e h|none=>Ir r env H
def wj:Ψ Qd->FuncId->Ω Qd
 |[],_=>ε
 |c::r,F=>match ξ c.f F with|true=>δ c|false=>wj r F
def AHX:Ψ Ad->Ψ TV->Bool
 |[.fn (.func C) _ _],vs=>match vs.getLast? with|some (.c (.raw (.fn (.func D) _ _)))=>ξ C D|_=>ζ
 |_,_=>ζ
def AKG:Qd->Ψ TV->Bool
 |.c2 _ _ _ _ post _,.c (.own _ _ _ _)::r=>AHX post r
 |.c2 _ _ _ _ _ _,_=>η
 |_,_=>ζ
def pH:Ψ Qd->FuncId->Ψ TV->Ω Qd
 |[],_,_=>ε
 |c::r,F,vs=>match ξ c.f F&&AKG c vs with|true=>δ c|false=>pH r F vs
def aS(env:Bi)(op:Op):Ω (FuncId×Ψ TV):=
 match op with
 |.call c=>
  match c.callee with
  |.value f=>match Jx env f with|.c (.raw (.fn (.func F) first caps))=>δ (F,first.map tvA++c.args.toList.map (Jx env)++caps.map tvA)|_=>ε
  |_=>ε
 |_=>ε
def vf(env:Bi)(c:Call):Ω (Nat×Ψ TV):=
 match c.callee with
 |.value f=>match Jx env f with|.c (.raw (.yf id))=>δ (id,c.args.toList.map (Jx env))|_=>ε
 |_=>ε
def AIX:FuncId:=1152921504606846976
def AKp:Qd:=.c0 AIX [] [] λ_=>ε
def AF7:AKp.Ok P:=λ_ _ h=>by cases h
def AF8:FuncId:=1152921504606846977
def AKq:Qd:=.c0 AF8 [] [] λ_=>ε
def AF9:AKq.Ok P:=λ_ _ h=>by cases h
def nS(cs:Ψ Qd)(env:Bi)(H:As)(op:Op):Ψ Nat:=
 match op with
 |.call c=>
  match aS env (.call c)with
  |some (F,vs)=>match pH cs F vs with|some ct=>(ALA ct vs).flatMap (behind H)|none=>[]
  |none=>[]
 |.buildSlice _ _ parts=>parts.toList.flatMap λp=>Lq (Jx env p.2).refs
 |.store _ a v=>match Jx env a with|.aptr .. =>Lq (Jx env v).refs|.bptr .. =>Lq (Jx env v).refs|_=>[]
 |.slice _ x lo _ _=>match wj cs AIX with|some _=>[]|none=>match lo,wj cs AF8 with|some _,δ _=>[]|_,_=>Lq (Jx env x).refs
 |_=>[]
def X1(H H':As):As:=H++H'.drop (θ H)
def isNil:Ψ R->Bool
 |[]=>ζ
 |_=>η
section
variable {R:Type}
def uU(cs:Ψ Qd)(env:Bi)(H:As)(op:Op):Ψ Nat:=
 match op with
 |.store _ a _=>idT (Jx env a)
 |.mapUpdate .. =>List.range (θ H)
 |.call c=>
  match aS env (.call c)with
  |some (F,vs)=>match pH cs F vs with|some ct=>AGz ct vs|none=>(match isNil vs with|true=>[]|false=>List.range (θ H))
  |none=>
   match vf env c with
   |some _=>List.range (θ H)
   |none=>match c with|{callee:=.builtin .append,args:=⟨[s,_]⟩,.. }=>idT (Jx env s)|_=>[]
 |_=>[]
def sF(P:Program)(cs:Ψ Qd)(call:Ss)(env:Bi)(H:As)(op:Op)(k:TV->As->Ω R):Ω R:=
 match op with
 |.alloc t=>AAy P H t k
 |.box _ x=>AGk H (Jx env x) k
 |.store t a v=>storeT P H t (Jx env a) (Jx env v) k
 |.buildSlice t len parts=>aN P env H t len parts k
 |.makeSlice t x y=>jB P H t (Jx env x) (Jx env y) k
 |.makeMap t ε=>vB P H t k
 |.mapUpdate t m x y=>oM P H t (Jx env m) (Jx env x) (Jx env y) k
 |.lookup t m x g=>yL P H t g (Jx env m) (Jx env x) k
 |.convert s d x=>
  match kd P d with
  |.bytes=>vc P H s d (Jx env x) k
  |_=>quT P env H (.convert s d x) λv=>k v H
 |.call c=>
  match aS env (.call c)with
  |some (F,vs)=>
   match Enters P F with
   |true=>
    match pH cs F vs with
    |some ct=>ACG ct vs H k
    |none=>match isNil vs with|true=>call (.fn F) [] (H.map Dx.lock) λv H'=>k v (X1 H H')|false=>call (.fn F) vs H k
   |false=>ε
  |none=>
   match vf env c with
   |some (id,vs)=>call (.yd id) vs H k
   |none=>
    match c with
    |{callee:=.builtin .append,args:=⟨[s,x]⟩,argTypes:=⟨[t,t']⟩}=>match ξ t t' with|true=>tH P H t (Jx env s) (Jx env x) k|false=>ε
    |c=>quT P env H (.call c) λv=>k v H
 |op=>quT P env H op λv=>k v H
def force(f:Bool)(v:TV)(k:TV->Ω R):Ω R:=
 match f with
 |true=>match v with|.c (.bl b)=>cond b (k (.c (.bl ζ))) (k (.c (.bl η)))|v=>k v
 |false=>k v
def guards(ops:Array Oper):Ψ Nat:=ops.toList.filterMap λo=>o.guard.map (·.1)
def Je(j:Nat):Ψ Nat->Bool
 |[]=>η
 |i::r=>match ξ i j with|true=>ζ|false=>Je j r
def wD{α:Type}(l:Ψ α)(i:Int)(z:α):Ω (Ψ α):=if 0<=i/\i<=(θ l:Int)then δ (l.take (ο i)++ς (θ l-ο i) z)else ε
def ACL(o1 o2:Oper):Ω (Nat×TypeId×Operand×Operand):=
 match o1.dst,o1.op,o1.guard,o2.dst,o2.op,o2.guard with
 |some d,.slice t x (δ lo) ε ε,ε,ε,.call {callee:=.builtin .clear,args:=⟨[.tmp d']⟩,argTypes:=⟨[t']⟩},ε=>match ξ d d'&&ξ t t' with|true=>δ (d,t,x,lo)|false=>ε
 |_,_,_,_,_,_=>ε
def AI3(P:Program)(H:As)(t:TypeId)(x lo:TV)(k:As->Ω R):Ω R:=
 match x,lo with
 |.c (.own id ver _ _),.c (.it _ i)=>
  match H[id]? with
  |some (.buf η t2 l n2 ver2)=>
   match ξ ver ver2,elT P t,eI P t with
   |true,δ te,δ (ε,e,_)=>
    if h:(Ty.list t2).beq (Ty.list te)=ζ then
     match vg P e with
     |some z=>match te.all z with|some zd=>(wD (α:=te.D) (Ty.cast h l) i zd).bind λl'=>k (H.set id (.buf η te l' n2 ver2))|none=>ε
     |none=>ε
    else ε
   |_,_,_=>ε
  |_=>ε
 |_,_=>ε
def AGt(o:Oper):Ψ Oper->Ω (Nat×TypeId×Operand×Operand)
 |o2::_=>ACL o o2
 |[]=>ε
def AAX(P:Program)(cs:Ψ Qd)(call:Ss)(ops:Array Oper)(gs:Ψ Nat)(sk:Bool):Ψ Oper->Nat->Bi->As->(Bi->As->Ω R)->Ω R
 |[],_,env,H,k=>k env H
 |o::r,j,env,H,k=>
  match sk with
  |true=>AAX P cs call ops gs η r (j+1) env H k
  |false=>
   match AGt o r with
   |some (d,t,x,lo)=>AI3 P H t (Jx env x) (Jx env lo) λH'=>AAX P cs call ops gs ζ r (j+1) (env.put d Vv) H' k
   |none=>
    match iw ops o.guard env with
    |some ζ=>
     match Ir (nS cs env H o.op) env H with
     |(env1,H1)=>sF P cs call env1 H1 o.op λv H'=>force (Je j gs) v λv'=>AAX P cs call ops gs η r (j+1) (env1.putO o.dst v') H' k
    |some η=>AAX P cs call ops gs η r (j+1) (env.putO o.dst (.tup [])) H k
    |none=>ε
end
def pZ(H:As)(v:TV):Prop:=∀id ver t n,Bw.own id ver t n∈v.refs->∀t' l n' ver',H[id]? ≠δ (.buf η t' l n' ver')
structure EG(A:List Nat)(env:Bi)(H:As)(env':Bi)(H':As):Prop where
 step:CL H H'
 same:∀t,t∉A->pZ H (env.get t)->env'.get t=env.get t
def pZ.step(h:CL c L)(d:i.ok c)(k:pZ c i):pZ L i:=by intro id a t n H;have hr:=d (.own id a t n) H;exact h.nb id hr.1 (k id a t n H)
theorem EG.refl(A:Ψ Nat)(env:Bi)(H:As):EG A env H env H:=⟨CL.refl H,λ_ _ _=>rfl⟩
def EG.trans{A B}{d g i:Bi}{c e f:As}(ok:∀p∈d,p.2.ok c)(a:EG A d c g e)(b:EG B g e i f):EG (A++B) d c i f:=by refine⟨a.step.trans b.step,λt l k=>?_⟩;have j:=a.same t (λh=>l (F8 _ h)) k;rw[b.same t (λh=>l (LU _ h)) (by rw[j];exact k.step a.step (lR ok t)),j]
def EG.mono(a:EG d j L H c)(h:∀t,t∈d->t∈k):EG k j L H c:=⟨a.step,λt g f=>a.same t (λq=>g (h t q)) f⟩
def tK{t u:Nat}(h:u≠t):∀env:Bi,(Bi.del t env).get u=env.get u
 |[]=>rfl
 |(k,v)::r=>by simp only[Bi.del];by_cases a:k=t;subst a;rw[Hl];simp only[Bi.get,beq_false (PM h)];exact tK h r;rw[beq_false a];simp only[Bi.get];rw[tK h r]
def pu(h:n≠N):(j.put N i).get n=j.get n:=by simp_all[Bi.put,Bi.get,beq_false,PM,tK]
theorem yM{p:Nat×TV}{t:Nat}:∀{env},p∈Bi.del t env->p∈env
 |(k,v)::r,h=>by simp only[Bi.del]at h;split at h;exact Ca _ (yM h);rcases Av.1 h with rfl|h;simp;exact Ca _ (yM h)
theorem cg{d:Ω Nat}(h:∀p∈j,p.2.ok c)(b:i.ok c):∀p∈j.putO d i,p.2.ok c:=by
 cases d with
 |none=>exact h
 |some t=>intro p a;rcases Av.1 a with rfl|a;exact b;grind[yM]
def pO{l:Ψ t.D}(g:c[N]?=δ (.buf η t l n W))(j:∀a f e d,B=.own a f e d->∀i l2 h H,c[a]? ≠δ (.buf η i l2 h H)):N9 N W t l B=B:=by
 cases B with
 |own a f e d=>simp only[N9];split<;>simp_all
 |_=>rfl
mutual
theorem uj{H:As}{id n k:Nat}{t:Ty}{l:Ψ t.D}(d:H[id]?=δ (.buf η t l n k)):∀{v},pZ H v->pP id k t l v=v
 |.c z,h=>by simp only[pP];rw[pO d λa j i f e=>h a j i f (by simp[TV.refs,e])]
 |.g b,h=>by
  simp only[pP,TV.g.injEq];have:∀b:Ψ Bw,(∀a j i f,Bw.own a j i f∈b->∀s l2 q m,H[a]? ≠δ (.buf η s l2 q m))->b.map (N9 id k t l)=b:=by
   intro b;induction b with
   |nil=>intro _;rfl
   |cons z r p=>intro h;rw[B4,p λa j i f o=>h a j i f (by simp[o]),pO d λa j i f e=>h a j i f (by simp[e])]
  exact this b h
 |.tup vs,h=>by simp only[pP];rw[sJ d (vs:=vs) h]
 |.aptr ..,_=>rfl
 |.bptr ..,_=>rfl
 |.vw ..,_=>rfl
 |.vptr ..,_=>rfl
theorem sJ{H:As}{id n c:Nat}{t:Ty}{l:Ψ t.D}(b:H[id]?=δ (.buf η t l n c)):∀{vs},pZ H (.tup vs)->iJ id c t l vs=vs
 |[],_=>rfl
 |v::r,h=>by simp only[iJ];rw[uj b (v:=v) λa g f e d=>h a g f e (by simp only[TV.refs,TV.refsL,Ak];exact .inl d),sJ b (vs:=r) λa g f e d=>h a g f e (by simp only[TV.refs,TV.refsL,Ak]at d⊢;exact .inr d)]
end
def ACW{f:TV->TV}(a:f Vv=Vv)(t:Nat):∀env:Bi,Bi.get (env.map λp=>(p.1,f p.2)) t=f (env.get t)
 |[]=>a.symm
 |(k,v)::r=>by simp only[B4,Bi.get];split;rfl;exact ACW a t r
def AE0(h:frz N j L=δ (H,c))(t:Nat)(d:pZ L (j.get t)):H.get t=j.get t:=by unfold frz at h;split at h;rename_i e l n b a;obtain⟨rfl,rfl⟩:=h;rw[ACW (f:=pP N b e l) rfl];exact uj a d;cases h
def Rt:∀a{env}{H},OL env H→OL (Ir a env H).1 (Ir a env H).2∧EG [] env H (Ir a env H).1 (Ir a env H).2∧
  ∀N,FX N (BL H).length (B3 env) (BL H) (B3 (Ir a env H).1) (BL (Ir a env H).2)
 |[],env,H,ok=>⟨ok,EG.refl _ _ _,λN=>FX.refl N _ _⟩
 |id::r,env,H,ok=>by simp only[Ir];split;rename_i e h b;obtain⟨f,c,j⟩:=AJA ok b;obtain⟨g,i,k⟩:=Rt r f;refine⟨g,(EG.trans (A:=[]) (B:=[]) ok.env ⟨c,λt _ d=>AE0 b t d⟩ i),λN=>(j N).trans ((k N).of_le (by rw[Cd,Cd];exact c.len))⟩;exact Rt r ok
variable {E:Ψ Qd}{l:Ss}
section
variable {P:Program}{N:Nat}{R:Type}
def zE(P:Program)(args:Ψ Ad)(H:Aw)(v:Ad)(H':Aw):Tgt->Prop
 |.fn F=>Ej P F args H (DW v H')
 |.yd id=>∀N(o:Oper)c f env,o.op=.call c->c.callee=.value f->BS env f=.yf id->c.args.toList.map (BS env)=args->Jw P N o env H (DW v H')
def Wx(P:Program)(call:Ss):Prop:=∀{R:Type} tg vs H (k:TV->As->Ω R) r,(∀v∈vs,v.ok H)->(∀e∈H,e.ok H)->call tg vs H k=δ r->
 ∃v H',zE P (vs.map TV.enc) (BL H) v.enc (BL H') tg/\k v H'=δ r/\v.ok H'/\(∀e∈H',e.ok H')/\CL H H'
theorem lS(h:iw s D j=δ ζ){A B:Prop}(a:A):Yn s D (B3 j) A B:=by unfold iw at h;grind[Yn,XO,VJ,TV.enc,Bw.one]
theorem pX(h:iw s D j=δ η){A B:Prop}(b:B):Yn s D (B3 j) A B:=by unfold iw at h;unfold Yn;split at h;cases h;rename_i a want;unfold XO;split at h;rename_i d e;simp only[e,VJ];split at h;grind[TV.enc,Bw.one];rename_i c;simp[c];exact b;cases h;cases h
theorem yF(e:∀d b,j.get d=.c (.bl b)->H.get d=.c (.bl b))(h:iw s D j=δ ζ):iw s D H=δ ζ:=by cases D<;>grind[iw]
theorem ub:∀{a}{F}{c:Qd},wj a F=δ c->c∈a/\c.f=F
 |d::r,F,c,h=>by simp only[wj]at h;split at h;simp_all;obtain⟨b,e⟩:=ub h;grind
theorem uc:∀{a}{F}{b}{c:Qd},pH a F b=δ c->c∈a/\c.f=F
 |d::r,F,b,c,h=>by simp only[pH]at h;split at h;simp_all;obtain⟨e,g⟩:=uc h;grind
theorem o8{e}(h:aS j e=δ (S,A)):Go.Ab.callT (BS (B3 j)) e=δ (.inl (S,A.map TV.enc))/\∀H,(∀p∈j,p.2.ok H)->∀v∈A,v.ok H:=by
 unfold aS at h;split at h;rename_i c;split at h;rename_i f d;split at h;rename_i G first a g
 simp at h;obtain⟨rfl,rfl⟩:=h;have F:BS (B3 j) f=.fn (.func G) first a:=by rw[Lx,g];rfl
 have k:∀l:Ψ Ad,(l.map tvA).map TV.enc=l:=by
  intro l;conv=>rhs;rw[<-fj l]
  grind[List.map_congr_left,jN]
 refine⟨?_,λH m v i=>?_⟩;simp_all[Go.Ab.callT,Lx];simp at i;grind[ln,iD];cases h;cases h;cases h
theorem AAk{c}(h:vf j c=δ (N,A)):(∃f,c.callee=.value f/\BS (B3 j) f=.yf N/\c.args.toList.map (BS (B3 j))=A.map TV.enc)/\∀H,(∀p∈j,p.2.ok H)->∀v∈A,v.ok H:=by unfold vf at h;split at h;rename_i f a;split at h;rename_i i g;injection h with h;injection h with d e;subst d e;refine⟨⟨f,a,by rw[Lx,g];rfl,?_⟩,λH b v k=>?_⟩;grind[List.map_congr_left,Lx];grind[iD];cases h;cases h
def AJb{k:TV->As->Ω R}{r:R}(ok:OL j c)(h:quT P j c o.op (k · c)=δ r):∀F,nV P N o j c F k r:=by intro F;obtain⟨v,a,b,H⟩:=xM ok h;exact⟨v,c,Du a ⟨rfl,rfl⟩,b,H,ok.heap,CL.refl c,Frame.refl F c⟩
theorem vt(H:As):BL (H.map Dx.lock)=BL H:=by grind[BL,List.map_congr_left,ph]
theorem AAD(h:∀e∈c,e.ok c):∀e∈c.map Dx.lock,e.ok (c.map Dx.lock):=by
 have f:∀id a t n,TY c id a t n->TY (c.map Dx.lock) id a t n:=λid a t n q=>by
  refine⟨by simpa using q.1,λro y l w k H=>?_⟩;rw[CT]at H;cases j:c[id]? with
  |none=>grind
  |some e=>
   rw[j]at H;simp at H;cases e<;>simp only[Dx.lock]at H<;>first|(cases H;done)|skip
   injection H with _ m v o p;subst m o p;exact q.2 _ _ _ _ _ j
 have d:∀x:Bw,x.ok c->x.ok (c.map Dx.lock):=λx i=>by
  cases x with
  |own id a t n=>exact f _ _ _ _ i
  |_=>trivial
 intro e H;obtain⟨u,r,rfl⟩:=Bp.1 H;have g:=h u r;cases u with
 |dead=>trivial
 |live b s=>exact λx i=>d x (g x i)
 |buf=>exact g
 |lp=>exact g
 |mp=>exact g
theorem AEW(a:∀e∈c,e.ok c)(st:CL (c.map Dx.lock) L)(F:∀e∈L,e.ok L):
  (∀v:TV,v.ok L->v.ok (X1 c L))/\(∀e∈X1 c L,e.ok (X1 c L))/\CL c (X1 c L)/\∀x:Cx,Tk x x (BL L) (BL (X1 c L)):=by
 have K:c.length<=L.length:=by simpa using st.len
 have H:(X1 c L).length=L.length:=by grind[X1,n?,List.length_drop]
 have o:∀j,j<c.length->(X1 c L)[j]?=c[j]? :=λj p=>CZ p;have I:∀j,c.length<=j->(X1 c L)[j]?=L[j]? :=λj p=>by grind[X1]
 have keep:∀(j:Nat)(e:Dx),c[j]?=some e->e≠.dead->L[j]?=some e.lock:=λj e p G=>by apply st.ro j e.lock (by rw[CT,p];rfl);cases e<;>first|rfl|exact(G rfl).elim
 have A:∀id f t n,TY L id f t n->TY (X1 c L) id f t n:=λid f t n q=>by refine⟨by rw[H];exact q.1,λro P l O D d=>?_⟩;rcases Az id c.length with h|h;rw[o id h]at d;exact q.2 _ _ _ _ _ (keep id _ d q!);rw[I id h]at d;exact q.2 _ _ _ _ _ d
 have k:∀x:Bw,x.ok L->x.ok (X1 c L):=λx C=>by
  cases x with
  |own id f t n=>exact A _ _ _ _ C
  |_=>trivial
 have B:CL c (X1 c L):=by refine⟨by rw[H];exact K,λid f t n q=>⟨by rw[H];exact DM q.1 K,λro P l O D d=>?_⟩,λid e d _=>?_,λid w h=>by rw[o id w];exact h,λid w _ _ _ _ _ _ _ _ h=>by rw[o id w]at h;exact⟨_,_,h⟩⟩;rw[o id q.1]at d;exact q.2 _ _ _ _ _ d;grind
 refine⟨λv N x C=>k x (N x C),λe d=>?_,B,λx=>⟨by rw[Cd,Cd,H],λj Q p=>?_⟩⟩;rcases Ak.1 d with d|d;exact B.ent (a e d);have E:=F e (Q4 d);cases e with
 |dead=>trivial
 |live b s=>exact λx C=>k x (E x C)
 |buf=>exact E
 |lp=>exact E
 |mp=>exact E
 rw[EK]at p;cases J:(X1 c L)[j]? with
 |none=>grind
 |some y=>
  rw[J]at p;simp at p;subst p;have same:(BL L)[j]?=some y.enc->y.enc=.dead\/(∃g s u,(BL L)[j]?=some (.live g s)/\y.enc=.live g u/\u.length=s.length/\∀(i:Nat)(z:Ad),u[i]?=some z->∃v,s[i]?=some v/\Conv x x v z)\/((BL L)[j]?=some y.enc/\∀g s,y.enc≠.live g s):=λh=>by
   cases y with
   |dead=>exact .inl rfl
   |live b s=>exact .inr (.inl ⟨_,_,_,h,rfl,rfl,λi z h=>⟨z,h,λ_ r=>r⟩⟩)
   |buf b t l m f=>exact .inr (.inl ⟨_,_,_,h,rfl,rfl,λi z h=>⟨z,h,λ_ r=>r⟩⟩)
   |lp=>exact .inr (.inr ⟨h,λ_ _ h=>by cases h⟩)
   |mp=>exact .inr (.inr ⟨h,λ_ _ h=>by cases h⟩)
  rcases Az j c.length with h|h;rw[o j h]at J;by_cases M:y=.dead;subst M;exact .inl rfl;grind[EK,ph];grind[EK]
theorem sG(y:∀u∈E,u.Ok P)(W:Wx P l){k:TV->As->Ω R}{r:R}(ok:OL j c)(h:sF P E l j c o.op k=δ r):nV P N o j c (uU E j c o.op) k r:=by
 have s:∀t,o.op=t->quT P j c t (k · c)=δ r->∀F,nV P N o j c F k r:=λt e h=>AJb ok k!;generalize a:o.op=t at h;unfold sF at h;split at h;exact xj ok a h;exact AA5 ok a h;exact yo ok a h;exact oi ok a h;exact rE ok a h;grind[vC];exact rF ok a h;grind[wE];split at h;exact vd ok a h;grind;rename_i u;split at h;rename_i F q m;obtain⟨K,C⟩:=o8 m;split at h;rename_i x;split at h;rename_i L n;obtain⟨M,O⟩:=uc n;obtain⟨v,d,q1,q2,q3,q4,q5,q6⟩:=zR (y L M) (C c ok.env) ok.heap h;rw[O]at q1;exact⟨v,d,lZ k! x q1,q2,q3,q4,q5,by simp only[uU,m,n];exact q6⟩;rename_i n;split at h;rename_i b;have A:q=[]:=by cases q<;>first|rfl|cases b
 subst A;obtain⟨v,d,q1,q2,q3,q4,q5⟩:=W (.fn F) [] (c.map Dx.lock) _ r (λv Q=>by cases Q) (AAD ok.heap) h;obtain⟨i,G,I,J⟩:=AEW ok.heap q5 q4;have B:Ej P F [] (BL c) (DW v.enc (BL d)):=by grind[zE,vt]
 refine⟨v,X1 c d,Jw.after (lZ k! x B) λX g w _=>?_,q2,i v q3,G,I,?_⟩;have hr:=(J (cx X g (BL d) w)).onto;exact⟨hr,λu r=>r.later hr.later⟩;simp only[uU,m,n];exact λH p _=>CZ p;rename_i b;obtain⟨v,d,q1,q2,q3,q4,q5⟩:=W (.fn F) q c k r (C c ok.env) ok.heap h;have z:=b;exact⟨v,d,lZ (by rw[a];exact K) x q1,q2,q3,q4,q5,by simp only[uU,m,n,z];exact λH p hn=>(hn (IJ.2 p)).elim⟩;cases h;rename_i m;split at h;rename_i id q D;obtain⟨⟨f,S,T,U⟩,V⟩:=AAk D;obtain⟨v,d,q1,q2,q3,q4,q5⟩:=W (.yd id) q c k r (V c ok.env) ok.heap h;exact⟨v,d,q1 N o u f (B3 j) a S T U,q2,q3,q4,q5,by simp only[uU,m,D];exact λH p hn=>(hn (IJ.2 p)).elim⟩;grind[vk,Nat.eq_of_beq_eq_true,uU];grind
theorem oG{k:TV->Ω R}{r:R}(h:force G i k=δ r):k i=δ r:=by unfold force at h;grind
def pE(ops:Ψ Oper):Ψ Nat:=ops.filterMap (·.dst)
def uP{t}{d:Nat}(h:ACL o t=δ (d,b,e,y)):o.dst=δ d/\o.op=.slice b e (δ y) ε ε/\o.guard=ε/\t.dst=ε/\t.op=.call {callee:=.builtin .clear,args:= #[.tmp d],argTypes:= #[b]}/\t.guard=ε:=by unfold ACL at h;split at h;rename_i a f g i j k;split at h<;>simp_all;cases h
def wk{a:Ty}{z:Ψ Ad}{b:a.D}(h:Dq z (a.enc b).cells):∀n:Nat,Dq (ς n z).flatten (a.E.cl (ς n b))
 |0=>Dq.refl _
 |n+1=>by exact Dq.append h (wk h n)
theorem AA9{o1 o2}{d:Nat}{t:TypeId}{x lo:Operand}{env}{H}{k:As→Ω R}{r:R}(ok:OL env H)(hc:ACL o1 o2=δ (d,t,x,lo))(h:AI3 P H t (Jx env x) (Jx env lo) k=δ r):
  ∃v G,Jw P N o1 (B3 env) (BL H) (DW v (BL H))/\Jw P N o2 ((B3 env).put d v) (BL H) (DW (.tup []) (BL G))/\k G=δ r/\(∀e∈G,e.ok G)/\CL H G:=by
 obtain⟨_,c2,_,c4,U,_⟩:=uP hc;unfold AI3 at h;split at h;rename_i id c t0 n0 kk i hx Z;split at h;rename_i a l b ap y;split at h;rename_i te e ax hb al F;split at h;rename_i S;split at h;rename_i z hz;split at h;rename_i zd ao;obtain⟨w,o,h⟩:=Do.1 h;have T:=DH hb;subst T;have u:=Ty.beq_eq _ _ S;injection u with u;subst u;have B:(Ty.cast S l:Ψ a.D)=l:=rfl;rw[B]at o;have hr:TY H id c t0 n0:=by have:=iD ok.env x;rw[hx]at this;exact this (.own id c t0 n0) (by simp[TV.refs])
 obtain⟨_,q⟩:=hr.2 _ _ _ _ _ y;obtain⟨rfl,rfl⟩:=q rfl;have hn:b=θ l:=ok.heap _ (BP y);obtain⟨e',I,M⟩:=kq al;rw[I]at F;injection F with F;injection F with _ F;injection F with X Y;subst X Y;obtain⟨z1,z2⟩:=Zm hz;have p:=Fy ao;have C:(lvs z).length=a.sz:=by rw[<-p.1,a.enc_len]
 unfold wD at o;split at o;rename_i hi;injection o with o;have O:CL H (H.set id (.buf η a w b c)):=CL.set y rfl λ_ _ _ _ _ e=>k!
 have J:Dx.ok (H.set id (.buf η a w b c)) (.buf η a w b c):=by show b=θ w;grind
 have m:(BL H)[id]?=δ (.live b (a.E.cl l)):=by rw[EK,y];rfl
 have A:id<(BL H).length:=k!
 have ex:BS (B3 env) x=.sl id b a.sz 0 b:=by rw[Lx,hx];rfl
 have el:BS (B3 env) lo=.int kk i:=by rw[Lx,Z];rfl
 have W:T7 (BL H) id b=ζ:=by simp[T7,m]
 have s:∀v,BS ((B3 env).put d v) (.tmp d)=v:=λv=>by simp[BS,Env.put,Env.get]
 have j:=a.E.clen l;have Q:a.E.sz=a.sz:=rfl;rw[Q]at j;have ad:Ci P (B3 env) (BL H) o1.op=δ (if i.toNat=0 then .sl id b a.sz 0 b else if i.toNat=b then .vs a.sz []else .sl id b a.sz (0+i.toNat*a.sz) (b-i.toNat)):=by
  rw[c2];have b1:Xf 0 (δ (Ad.int kk i))=δ i.toNat:=by grind[Xf,vF]
  have b2:∀n,Xf n ε=δ n:=λ_=>rfl;simp only[Ci,ex,el,Bu,nl,jJ,b1,b2,I];rw[C! ⟨P!,a.sz_pos,o!,Al _,Al _,W,q!⟩];grind
 have g:∀V,a.E.cl l=V->(BL H).set id (.live b V)=BL H:=λV ar=>by apply JW;grind
 have f:Dq (XV (a.E.cl l) (i.toNat*a.sz) (ς (b-i.toNat) (lvs z)).flatten) (a.E.cl w):=by
  have e1:a.E.cl w=a.E.cl (l.take i.toNat)++a.E.cl (ς (b-i.toNat) zd):=by grind[Su.cl]
  have e2:(a.E.cl l).take (i.toNat*a.sz)=a.E.cl (l.take i.toNat):=by
   have e3:a.E.cl l=a.E.cl (l.take i.toNat)++a.E.cl (l.drop i.toNat):=by grind[List.take_append_drop,Su.cl]
   have e4:(a.E.cl (l.take i.toNat)).length=i.toNat*a.sz:=by rw[a.E.clen,BQ,Q];grind
   grind
  have e5:(a.E.cl l).drop (i.toNat*a.sz+(ς (b-i.toNat) (lvs z)).flatten.length)=[]:=by apply mF;simp[C];rw[<-EJ];grind
  unfold XV;rw[e1,e2,e5,DT];exact(Dq.refl _).append (wk p _)
 have L:Jw P N o2 ((B3 env).put d (if i.toNat=0 then .sl id b a.sz 0 b else if i.toNat=b then .vs a.sz []else .sl id b a.sz (0+i.toNat*a.sz) (b-i.toNat))) (BL H) (DW (.tup []) (BL (H.set id (.buf η a w b c)))):=by
  have e6:BL (H.set id (.buf η a w b c))=(BL H).set id (.live b (a.E.cl w)):=by rw[LY];rfl
  rw[e6];by_cases h0:i.toNat=0;rw[C! h0];refine Jw.set_less A ?_ f;have:=Jw.clear (N:=N) (K:=DW (.tup []) _) U c4 I M z1 C (s (.sl id b a.sz 0 b)) m (by rw[j,hn];omega) ⟨rfl,rfl⟩;grind;rw[D! h0];by_cases h1:i.toNat=b;rw[C! h1];have e7:w=l:=t!
  rw[e7,g _ rfl];exact tA U (RI I).1 (s _) ⟨rfl,rfl⟩;rw[D! h1];refine Jw.set_less A ?_ f;have:=Jw.clear (N:=N) (K:=DW (.tup []) _) U c4 I M z1 C (s (.sl id b a.sz (0+i.toNat*a.sz) (b-i.toNat))) m (by rw[j,<-hn,DY,<-EJ];apply NU;omega) ⟨rfl,rfl⟩;grind
 exact⟨_,_,Du ad ⟨rfl,rfl⟩,L,h,R0 O ok.heap J,O⟩;grind;cases h;cases h;cases h;cases h;cases h;cases h
def AGC:FX N (BL c).length ((B3 j).put n u) (BL c) (B3 (j.put n Vv)) (BL c):=by
 refine Wz rfl λX g w s=>⟨Tk.refl _ _,λt f m=>?_⟩
 rw[kv]at m;rcases Av.1 m with e|m;injection e with a b;subst a b;exact⟨u,JV,λH _=>.any H⟩;exact⟨f,Ca _ m,λ_ r=>r⟩
theorem jG{J:Ψ Qd}(m:∀c∈J,c.Ok P){p}(l:Wx P p){D:Array Oper}{gs:Ψ Nat}:∀os j env H k(r:R),OL env H→AAX P J p D gs η os j env H k=δ r→
  ∃f i,Xd P N D os (B3 env) (BL H) (λe h=>e=B3 f/\h=BL i)/\k f i=δ r/\OL f i/\EG (pE os) env H f i
 |[],j,env,H,k,r,ok,h=>⟨env,H,⟨_,_,FX.refl _ _ _,rfl,rfl⟩,h,ok,EG.refl _ _ _⟩
 |o::os,j,env,H,k,r,ok,h=>by
  simp only[AAX]at h;have B:∀{e}{h}{v},EG (pE [o]) e h (e.putO o.dst v) h:=by
   intro e h v;refine⟨CL.refl h,λt U _=>?_⟩;cases hd:o.dst with
   |none=>rfl
   |some d=>refine pu λe=>U ?_;simp[pE,hd,e]
  have z:∀t,t∈pE [o]++pE os->t∈pE (o::os):=by grind[pE]
  split at h;rename_i d t x lo y;cases os with
  |nil=>cases y
  |cons o2 E=>
   have hc:=y;obtain⟨c1,c2,c3,c4,c5,c6⟩:=uP hc;obtain⟨v,C,M,w2,T,W,st⟩:=AA9 (N:=N) ok hc h;have g:OL (env.put d Vv) C:=⟨cg (d:=δ d) (st.env ok.env) jM,W⟩
   obtain⟨f,i,L,Y,F,G⟩:=jG m l E (j+1+1) _ C k r g T;refine⟨f,i,⟨B3 env,BL H,FX.refl N _ _,?_⟩,Y,F,?_⟩;rw[c3];apply Jw.mono M;rintro u _ ⟨rfl,rfl⟩;rw[c1];refine⟨(B3 env).put d u,BL H,FX.refl N _ _,?_⟩;rw[c6];apply Jw.mono w2;rintro _ _ ⟨rfl,rfl⟩;rw[c4];exact Xd.weak AGC L;have Z:EG (pE [o]) env H (env.put d Vv) C:=by exact⟨st,λu hu _=>pu λe=>hu (by simp[pE,c1,e])⟩
   refine(EG.trans ok.env Z G).mono λu hu=>?_;grind[pE,List.mem_cons_of_mem]
  split at h;rename_i S;obtain⟨K,t1,M⟩:=Rt (nS J env H o.op) ok;generalize Ir (nS J env H o.op) env H=q at h K t1 M;obtain⟨env1,C⟩:=q;obtain⟨v,I,e1,e2,e3,e4,e5,_⟩:=sG (N:=N) m l K h;have O:=oG e2;have g:OL (env1.putO o.dst v) I:=⟨cg (e5.env K.env) e3,e4⟩
  obtain⟨f,i,L,E,F,G⟩:=jG m l os (j+1) _ I k r g O;refine⟨f,i,?_,E,F,?_⟩;refine⟨B3 env1,BL C,M N,lS ?_ ?_⟩;exact yF (λd b hb=>by rw[t1.same d (λh=>by cases h) (by rw[hb];intro id al t n hm;simp[TV.refs]at hm),hb]) S;exact λrr X h0 a w s Q=>Wv (e1 rr X h0 a w s Q) (by rintro a' w' ⟨c,u,h',ad,ha,⟨rfl,rfl⟩,V,hs,hx⟩;exact⟨c,_,h',_,ha,by show Xd P N D os ((B3 env1).putO o.dst v.enc) (BL I) _;rw[<-Yg];exact L,V,hs,hx⟩);have Z:EG (pE [o]) env1 C (env1.putO o.dst v) I:=by exact⟨e5,λt U T=>(B (h:=C)).same t U T⟩
  have:=(EG.trans (A:=[]) ok.env t1 (EG.trans K.env Z G))
  exact this.mono z;rename_i S;have g:OL (env.putO o.dst (.tup [])) H:=⟨cg ok.env (Rz λv V=>by cases V),ok.heap⟩
  obtain⟨f,i,L,E,F,G⟩:=jG m l os (j+1) _ H k r g h;refine⟨f,i,⟨B3 env,BL H,FX.refl N _ _,pX S ?_⟩,E,F,(EG.trans ok.env B G).mono z⟩;have:(B3 env).putO o.dst (.tup [])=B3 (env.putO o.dst (.tup [])):=by rw[Yg];rfl
  grind;cases h
end
def Kt(S:Ψ Nat):Nat->As->As
 |_,[]=>[]
 |j,e::r=>(match Je j S with|true=>e|false=>e.lock)::Kt S (j+1) r
theorem Jc{S:Ψ Nat}:∀H(i j:Nat),(Kt S i H)[j]?=(H[j]?).map λe=>match Je (i+j) S with|true=>e|false=>e.lock
 |[],i,j=>by simp[Kt]
 |e::r,i,0=>by simp[Kt]
 |e::r,i,j+1=>by simp only[Kt,mJ];rw[Jc r (i+1) j];grind
def Io{S:Ψ Nat}:∀H i,(Kt S i H).length=θ H
 |[],_=>rfl
 |e::r,i=>by simp[Kt,Io r]
theorem rA{S}:∀H i,BL (Kt S i H)=BL H
 |[],_=>rfl
 |e::r,i=>by have:=rA (S:=S) r (i+1);grind[BL,Kt,ph]
theorem oL(h:TY c N n t W):TY (Kt d 0 c) N n t W:=by
 refine⟨by rw[Io];exact h.1,λro r l p f a=>?_⟩;rw[Jc]at a;cases S:c[N]? with
 |none=>grind
 |some e=>
  rw[S]at a;simp at a;split at a;subst a;exact h.2 _ _ _ _ _ S;cases e with
  |dead=>cases a
  |live b k=>cases a
  |lp=>cases a
  |mp=>cases a
  |buf b s o q u=>injection a with _ g m i j;subst g i j;exact h.2 _ _ _ _ _ S
def rC{S:List Nat}(h:B.ok c):B.ok (Kt S 0 c):=by
 cases B with
 |own id a t n=>exact oL h
 |_=>trivial
theorem lW{S:List Nat}(ok:OL j c):OL j (Kt S 0 c):=by
 refine⟨λp o x g=>rC (ok.env p o x g),λe m=>?_⟩;obtain⟨q,a⟩:=Ed.1 m;rw[Jc]at a;cases i:c[q]? with
 |none=>grind
 |some H=>
  rw[i]at a;simp at a;have d:=ok.heap H (BP i);have f:H.ok (Kt S 0 c):=by
   cases H with
   |dead=>trivial
   |live b k=>exact λx g=>rC (d x g)
   |buf b t l n h=>exact d
   |lp=>exact d
   |mp=>exact d
  split at a;grind;subst a;cases H with
  |dead=>trivial
  |live b k=>exact f
  |buf b t l n h=>exact f
  |lp=>exact f
  |mp=>exact f
def w9{j:Nat}:∀{l},Je j l=ζ->j∈l
 |i::r,h=>by simp only[Je]at h;split at h;rename_i a;exact Av.2 (.inl (DH a).symm);exact Ca _ (w9 h)
def R4(S:Ψ Nat):Nat->As->As->As
 |j,e::r,e'::r'=>(match Je j S with|true=>e'|false=>e)::R4 S (j+1) r r'
 |_,_,H'=>H'
def wQ{S}:∀{H a:As}(i j:Nat),θ H<=θ a->(R4 S i H a)[j]?=match τ (j<θ H)&& !Je (i+j) S with|true=>H[j]? |false=>a[j]?
 |[],a,i,j,_=>by simp[R4]
 |e::r,[],i,j,h=>by simp at h
 |e::r,e'::r',i,0,h=>by simp only[R4,NT,dA,Bh,Nat.zero_lt_succ,decide_true,Ya];cases Je i S<;>rfl
 |e::r,e'::r',i,j+1,h=>by
  simp only[R4,mJ];rw[wQ (i+1) j (by simpa using h),show i+1+j=i+(j+1) by omega];have:τ (j+1<(e::r).length)=τ (j<θ r):=q!
  rw[this]
def wR{S:Ψ Nat}:∀{H a:As}i,θ H<=θ a->(R4 S i H a).length=θ a
 |[],a,i,_=>by simp[R4]
 |e::r,[],i,h=>by simp at h
 |e::r,e'::r',i,h=>by simp[R4,wR (i+1) (show θ r<=θ r' by simpa using h)]
theorem AEX{S:List Nat}(V: ∀e∈c,e.ok c)(st:CL (Kt S 0 c) L)(Q: ∀e∈L,e.ok L):
  (∀v:TV,v.ok L->v.ok (R4 S 0 c L))/\(∀e∈R4 S 0 c L,e.ok (R4 S 0 c L))/\CL c (R4 S 0 c L)/\Frame S c (R4 S 0 c L)/\ ∀x:Cx,Tk x x (BL L) (BL (R4 S 0 c L)):=by
 have P:c.length<=L.length:=by simpa[Io]using st.len
 have z:=wR (S:=S) 0 P;have C:=λj=>wQ (S:=S) 0 j P;have o: ∀j,j<c.length->Je j S=false->(R4 S 0 c L)[j]? =c[j]? :=λj k H=>by rw[C,DY,H,decide_eq_true k];rfl
 have u: ∀j,(c.length<=j\/Je j S=true)->(R4 S 0 c L)[j]? =L[j]? :=λj k=>by rw[C,DY];rcases k with h|h;rw[decide_eq_false o!];rfl;rw[h,By,Bool.and_false]
 have T: ∀j,Je j S=true->(Kt S 0 c)[j]? =c[j]? :=λj k=>by rw[Jc,DY,k];cases c[j]? <;>rfl
 have keep: ∀(j:Nat) (e:Dx),Je j S=false->c[j]? =some e->e≠ .dead->L[j]? =some e.lock:=λj e H k R=>by apply st.ro j e.lock (by rw[Jc,k,DY,H];rfl);cases e<;>first|rfl|exact(R rfl).elim
 have f: ∀j,(j<c.length/\Je j S=false)\/(c.length<=j\/Je j S=true):=λj=>by
  rcases Az j c.length with h|h;cases H:Je j S with
  |false=>exact .inl ⟨h,rfl⟩
  |true=>exact .inr (.inr rfl)
  exact .inr (.inl h)
 have K: ∀id w t n,TY L id w t n->TY (R4 S 0 c L) id w t n:=λid w t n q=>by refine⟨by rw[z];exact q.1,λro Z l Y N p=>?_⟩;rcases f id with⟨h,H⟩|h;rw[o id h H]at p;exact q.2 _ _ _ _ _ (keep id _ H p q!);rw[u id h]at p;exact q.2 _ _ _ _ _ p
 have A: ∀x:Bw,x.ok L->x.ok (R4 S 0 c L):=λx M=>by
  cases x with
  |own id w t n=>exact K _ _ _ _ M
  |_=>trivial
 have d:CL c (R4 S 0 c L):=by refine⟨by rw[z];exact P,λid w t n q=>⟨by rw[z];exact DM q.1 P,λro Z l Y N p=>?_⟩,λid e p hr=>?_,λid G h=>?_,λid G ro F n env ps a b s h=>?_⟩;rcases f id with⟨h,H⟩|h;rw[o id h H]at p;exact q.2 _ _ _ _ _ p;rw[u id h]at p;exact(st.refs id w t n (oL q)).2 _ _ _ _ _ p;have W:=(Ei.1 p).1;rcases f id with⟨h,H⟩|h;rw[o id h H];exact p;have H:=h.resolve_left o!;rw[u id h];exact st.ro id e (by rw[T id H];exact p) hr;rcases f id with⟨B,H⟩|B;rw[o id B H];exact h;have H:=B.resolve_left o!;rw[u id B];exact st.nb id (by rw[Io];exact G) (by rw[T id H];exact h);rcases f id with⟨B,H⟩|B;rw[o id B H]at h;exact⟨_,_,h⟩;have H:=B.resolve_left o!;rw[u id B]at h;obtain⟨r1,s1,q⟩:=st.lp id (by rw[Io];exact G) _ _ _ _ _ _ _ _ h;rw[T id H]at q;exact⟨_,_,q⟩
 refine⟨λv X x M=>A x (X x M),λe p=>?_,d,λj k hn=>o j k (by
  cases H:Je j S with
  |false=>rfl
  |true=>exact absurd (w9 H) hn),λx=>⟨by rw[Cd,Cd,z],λj e' k=>?_⟩⟩
 obtain⟨j,k⟩:=Ed.1 p;rcases f j with⟨h,H⟩|h;rw[o j h H]at k;exact d.ent (V e (BP k));rw[u j h]at k;have O:=Q e (BP k);cases e with
 |dead=>trivial
 |live b D=>exact λx M=>A x (O x M)
 |buf=>exact O
 |lp=>exact O
 |mp=>exact O
 rw[EK]at k;cases J:(R4 S 0 c L)[j]? with
 |none=>grind
 |some y=>
  rw[J]at k;simp at k;subst k;have same:(BL L)[j]? =some y.enc->y.enc= .dead\/(∃g D E,(BL L)[j]? =some (.live g D)/\y.enc= .live g E/\E.length=D.length/\ ∀(i:Nat) (I:Ad),E[i]? =some I-> ∃v,D[i]? =some v/\Conv x x v I)\/((BL L)[j]? =some y.enc/\ ∀g D,y.enc≠ .live g D):=λh=>by
   cases y with
   |dead=>exact .inl rfl
   |live b D=>exact .inr (.inl ⟨_,_,_,h,rfl,rfl,λi I h=>⟨I,h,λ_ r=>r⟩⟩)
   |buf b t l m w=>exact .inr (.inl ⟨_,_,_,h,rfl,rfl,λi I h=>⟨I,h,λ_ r=>r⟩⟩)
   |lp=>exact .inr (.inr ⟨h,λ_ _ h=>by cases h⟩)
   |mp=>exact .inr (.inr ⟨h,λ_ _ h=>by cases h⟩)
  rcases f j with⟨h,H⟩|h;rw[o j h H]at J;by_cases U:y= .dead;subst U;exact .inl rfl;exact same (by rw[EK,keep j y H J U];simp[ph]);rw[u j h]at J;exact same (by rw[EK,J];rfl)
def isLen:Op->Bool
 |.call {callee:=.builtin .len,.. }=>ζ
 |.move _=>ζ
 |.assign _=>ζ
 |.extract _ _=>ζ
 |_=>η
def rdT(env:Bi)(op:Op):Ψ Nat:=match isLen op with|true=>[]|false=>op.operands.toList.flatMap λx=>idT (Jx env x)
def XT(o:Oper)(env:Bi):Bi:=(tmpsOf o).filterMap λt=>match env.get t with|.c (.raw .any)=>ε|v=>δ (t,v)
def lf(ids:Ψ Nat):Nat->As->Ψ Nat
 |_,[]=>[]
 |j,.live η cs::r=>match (Lq cs).any λi=>Je i ids with|true=>j::lf ids (j+1) r|false=>lf ids (j+1) r
 |j,_::r=>lf ids (j+1) r
def AFc:Bw->Bool
 |.own .. =>η
 |.raw _=>η
 |_=>ζ
def xl:Ψ TV->Ω (Ψ Nat)
 |[]=>δ []
 |v::r=>
  match xl r with
  |none=>ε
  |some ids=>
   match v with
   |.c (.own id _ _ _)=>δ (id::ids)
   |.c x=>match AFc x with|true=>δ ids|false=>ε
   |.g cs=>match cs.all AFc with|true=>δ ids|false=>ε
   |_=>ε
section
variable {R:Type}
def quD(P:Program)(env:Bi)(H:As)(op:Op)(k:TV->Ω R):Ω R:=
 match op with
 |.buildSlice t len parts=>rj P env t len parts k
 |op=>quT P env H op k
def uT(P:Program)(cs:Ψ Qd)(call:Ss)(env:Bi)(H:As)(op:Op)(k:TV->As->Ω R):Ω R:=
 match op with
 |.box _ x=>AGk H (Jx env x) k
 |.store t a v=>storeT P H t (Jx env a) (Jx env v) k
 |.makeSlice t x y=>jB P H t (Jx env x) (Jx env y) k
 |.buildSlice t len parts=>aN P env H t len parts k
 |.call c=>
  match aS env (.call c)with
  |some (F,vs)=>
   match Enters P F with
   |true=>
    match pH cs F vs with
    |some ct=>ACG ct vs H k
    |none=>match xl vs with|some ids=>call (.fn F) vs (Kt ids 0 H) λv H'=>k v (R4 ids 0 H H')|none=>call (.fn F) vs H k
   |false=>ε
  |none=>
   match vf env c with
   |some (id,vs)=>call (.yd id) vs H k
   |none=>
    match c with
    |{callee:=.builtin .append,args:=⟨[s,x]⟩,argTypes:=⟨[t,t']⟩}=>match ξ t t' with|true=>tH P H t (Jx env s) (Jx env x) k|false=>ε
    |_=>ε
 |_=>ε
def AKA(P:Program)(cs:Ψ Qd)(call:Ss)(env:Bi)(H:As)(op:Op)(k:TV->As->Ω R):Ω R:=
 match Ir (nS cs env H op) env H with
 |(ef,hf)=>uT P cs call ef hf op k
def vr(cs:Ψ Qd)(env:Bi)(H:As)(op:Op):Ψ Nat:=
 match op with
 |.call c=>
  match aS env (.call c)with
  |some (F,vs)=>match pH cs F vs with|some _=>uU cs env H (.call c)|none=>match xl vs with|some ids=>ids|none=>uU cs env H (.call c)
  |none=>uU cs env H (.call c)
 |op=>uU cs env H op
def zb(cs:Ψ Qd)(env:Bi)(H:As)(op:Op):Ψ Nat:=
 match nS cs env H op with
 |[]=>vr cs env H op
 |ids=>ids++lf ids 0 H++(match Ir ids env H with|(ef,hf)=>vr cs ef hf op)
def AKJ:Op->Bool
 |.buildSlice .. =>ζ
 |_=>η
def ABr(P:Program)(cs:Ψ Qd)(call:Ss)(ops:Array Oper)(m:Ψ Nat)(gs:Ψ Nat)(ow:Bool):Ψ Nat->Ψ (Nat×Ψ Nat)->Bi->As->(Bi->As->Ω R)->Ω R
 |[],_,env,H,k=>k env H
 |i::r,pend,env,H,k=>
  match ops[i]? with
  |none=>ε
  |some o=>
   match o.op with
   |.alloc t=>
    match vg P t with
    |some z=>
     match o.guard.isNone&&r.all (λj=>Py m i j||If ops j)with
     |true=>ABr P cs call ops m gs ow r pend (env.putO o.dst (.c (.raw (.ptr (θ H) 0 0)))) (H++[.live η z]) k
     |false=>ε
    |none=>ε
   |op=>
    match iw ops o.guard env with
    |some η=>ABr P cs call ops m gs ow r ((i,[])::pend) (env.putO o.dst (.tup [])) H k
    |some ζ=>
     match dq op&& !(ow&&AKJ op)with
     |true=>
      match (rdT env op).all λid=>Nat.blt id (θ H) with
      |true=>quD P env H op λv=>force (Je i gs) v λv'=>ABr P cs call ops m gs ow r ((i,rdT env op)::pend) (env.putO o.dst v') H k
      |false=>ε
     |false=>
      match r.all (λj=>Py m i j||If ops j)&&pend.all (λp=>Py m p.1 i||p.2.all λid=>!Je id (zb cs (XT o env) H op))with
      |true=>AKA P cs call (XT o env) H op λv H'=>force (Je i gs) v λv'=>ABr P cs call ops m gs ow r pend (env.putO o.dst v') H' k
      |false=>ε
    |none=>ε
variable {P:Program}{N:Nat}{o:Oper}{env:Bi}{H:As}{r:R}
def ACk(env:Bi)(b:Op)(h:isLen b=η):∀id∈ABi (B3 env) b,id∈rdT env b:=by intro id a;unfold ABi at a;unfold rdT;rw[h];obtain⟨x,c,d⟩:=G0.1 a;refine G0.2 ⟨x,c,AHG _ _ ?_⟩;rwa [<-Lx]
def aL.mono{H}{v}{a b:Ψ Nat}(h:aL P N o q H a v)(s:∀id∈a,id∈b):aL P N o q H b v:=λ_ _ d e=>h _ _ d λid c=>e id (s id c)
theorem aL.len{env}{H}{v:Ad}(b:isLen o.op=ζ)(e:Ci P env H o.op=δ v):aL P N o env H [] v:=by
 intro c f d _;refine Du (v:=v) ?_ ⟨rfl,rfl⟩;rw[xL (iE d),<-e];generalize o.op=op at b;unfold isLen at b;split at b;rename_i args a;obtain⟨args⟩:=args;obtain⟨a⟩:=a;match args,a with
 |[x],[t]=>rfl
 |[],_=>rfl
 |_::_::_,_=>rfl
 |[_],[]=>rfl
 |[_],_::_::_=>rfl
 rfl;rfl;rfl;cases b
theorem ADj{k:TV->Ω R}(ok:OL env H)(h:quD P env H o.op k=δ r):∃v,aL P N o (B3 env) (BL H) (rdT env o.op) v.enc/\k v=δ r/\v.ok H:=by
 have main:quT P env H o.op k=δ r->∃v,aL P N o (B3 env) (BL H) (rdT env o.op) v.enc/\k v=δ r/\v.ok H:=λh=>by
  obtain⟨v,i,j,l⟩:=xM ok h;refine⟨v,?_,j,l⟩;cases z:isLen o.op with
  |true=>grind[rdT,aL.len]
  |false=>exact(X5 i).mono (ACk _ _ z)
 generalize d:o.op=op at h;unfold quD at h;split at h;rename_i t len b;unfold rj at h;split at h;rename_i q m;split at h;rename_i f;split at h;rename_i F e;have E:=vN m f;refine⟨_,?_,h,KB trivial⟩;rw[<-d];refine aL.mono (a:=ABi (B3 env) o.op) ?_ (ACk _ _ (by rw[d];rfl));have y:xy P (B3 env) (BL H) o.op=δ (.vs q.sz ((b.toList.map λp=>Jx env p.2).map TV.enc)):=by grind[xy]
 have A:=lE (N:=N) y;intro x n i j;have l:=A x n i j;refine Jw.after (v:=.vs q.sz ((b.toList.map λp:Nat×Operand=>Jx env p.2).map TV.enc)) (H1:=n) l λX g w s=>⟨Tk.refl _ _,λc D=>AH2 (oD e) (kp e) (λv C=>?_) _ _ D⟩
 unfold jF at f;simp only[BZ]at f;obtain⟨u,B,rfl⟩:=Bp.1 C;have:=GK.1 f.1.1.2 u B;split at this;simp_all[Zj,fe];cases this;cases h;cases h;cases h;grind
theorem za{d:List Qd}(u: ∀c∈d,c.Ok P){call:Ss}(n:Wx P call){k:TV->As->Option R}(ok:OL env H)(h:uT P d call env H o.op k=some r):nV P N o env H (vr d env H o.op) k r:=by
 have b: ∀j,o.op=j->sF P d call env H j k=some r->vr d env H j=uU d env H j->nV P N o env H (vr d env H o.op) k r:=λj a e f=>by subst a;rw[f];exact sG u n ok e
 generalize a:o.op=j at h;rw[<-a];cases j with
 |call c=>
  cases l:aS env (.call c)with
  |none=>exact b _ a (by unfold uT at h;unfold sF;grind) (by simp only[vr,l])
  |some p=>
   obtain⟨F,m⟩:=p;cases s:pH d F m with
   |some M=>exact b _ a (by unfold uT at h;unfold sF;grind) (by simp only[vr,l,s])
   |none=>
    cases q:xl m with
    |none=>
     have hn:isNil m=false:=by cases m<;>first|rfl|cases q
     exact b _ a (by unfold uT at h;unfold sF;grind) (by simp only[vr,l,s,q])
    |some i=>
     obtain⟨E,G⟩:=o8 l;simp only[uT,l,s,q]at h;split at h
     ·rename_i I;have L:=lW (S:=i) ok;obtain⟨v,t,q1,q2,q3,q4,q5⟩:=n (.fn F) m (Kt i 0 H) _ r (λv J x K=>rC (G H ok.env v J x K)) L.heap h;obtain⟨z,A,B,C,D⟩:=AEX ok.heap q5 q4;have y:Ej P F (m.map TV.enc) (BL H) (DW v.enc (BL t)):=by have:=q1;rw[zE,rA]at this;exact this
      refine⟨v,R4 i 0 H t,Jw.after (lZ (by rw[a];exact E) I y) λX g w _=>?_,q2,z v q3,A,B,?_⟩
      ·have hr:=(D (cx X g (BL t) w)).onto;exact⟨hr,λc r=>r.later hr.later⟩
      ·rw[a];simp only[vr,l,s,q];exact C
     ·cases h
 |_=>exact b _ a (by unfold uT at h;unfold sF;grind) rfl
theorem xG{p:Nat×TV}(h:p∈XT o j):p.1∈tmpsOf o/\p.2=j.get p.1/\p.2≠.c (.raw .any):=by obtain⟨t,b,a⟩:=PK.1 h;grind
theorem AG9(h:i.enc=.any):i=.c (.raw .any):=by
 cases i with
 |c x=>
  cases x with
  |ar n t a=>cases h
  |_=>grind[TV.enc,Bw.one]
 |vw id b t n d m=>simp only[TV.enc,vwE]at h;split at h;split at h<;>cases h;cases h
 |_=>simp[TV.enc]at h
theorem nQ{t:Nat}:∀{l:Bi},(∀p∈l,p.1≠t)->Bi.get l t=Vv
 |[],_=>rfl
 |(k,u)::r,h=>by simp only[Bi.get,beq_false (h (k,u) q!)];exact nQ λp a=>h p (by simp[a])
theorem w8{j:Nat}:∀{l:Ψ Nat},j∈l->Je j l=ζ
 |i::r,h=>by simp only[Je];rcases Av.1 h with rfl|h;rw[Hl];rw[w8 h];split<;>rfl
def AH7(ids:Ψ Nat)(H:As)(j:Nat):Prop:=∀cs,H[j]?=δ (.live η cs)->∀i∈Lq cs,i∉ids
theorem sQ{ids:Ψ Nat}:∀{H}{i j:Nat},i+j∉lf ids i H->AH7 ids H j
 |e::r,i,0,hn,c,h=>by grind[lf,w8]
 |e::r,i,j+1,hn,c,h=>by
  have d:(i+1)+j∉lf ids (i+1) r:=by
   have f:i+1+j=i+(j+1):=o!
   rw[f];intro a;apply hn;cases e with
   |live b c=>cases b<;>grind[lf]
   |dead=>exact a
   |buf=>exact a
   |lp=>exact a
   |mp=>exact a
  exact sQ (ids:=ids) d c h
def oN{id b:Nat}{t:Ty}{l:Ψ t.D}:∀{a},id∉Lq a->a.map (N9 id b t l)=a
 |[],_=>rfl
 |x::r,h=>by
  cases x with
  |own d c e n=>simp only[Lq,Av,not_or]at h;simp only[B4,N9,beq_false h.1,qD,oN h.2]
  |_=>simp only[Lq]at h;simp only[B4,N9,oN h]
def iI:∀(a:Ψ Nat){env}{H}{j:Nat},j∉a->AH7 a H j->(Ir a env H).2[j]?=H[j]?
 |[],_,_,_,_,_=>rfl
 |id::r,env,H,j,hj,hn=>by
  simp at hj;simp only[Ir];split;rename_i e h d;have m:h[j]?=H[j]? :=by
   unfold frz at d;split at d;rename_i t l n q s;simp at d;rw[<-d.2,Dc (hj.1 ·.symm),CT];cases p:H[j]? with
   |none=>rfl
   |some o=>
    simp;cases o with
    |live b c=>
     cases b with
     |false=>simp only[RJ];rw[oN λf=>hn c p id f JV]
     |true=>rfl
    |_=>rfl
   cases d
  rw[iI r hj.2 λc g i k f=>hn c (m▸g) i k (Ca _ f),m];exact iI r hj.2 λc g i k f=>hn c g i k (Ca _ f)
theorem ABC(f:∀c∈E,c.Ok P)(g:Wx P l){k:TV→As→Ω R}(ok:OL env H)(h:AKA P E l (XT o env) H o.op k=δ r):
  ∃v d,Eff P N o (B3 env) (BL H) (zb E (XT o env) H o.op) (DW v.enc (BL d))/\k v d=δ r/\v.ok d/\(∀e∈d,e.ok d)/\CL H d:=by
 have n:OL (XT o env) H:=⟨λp m=>by rw[(xG m).2.1];exact lR ok.env _,ok.heap⟩
 obtain⟨s,u,A⟩:=Rt (nS E (XT o env) H o.op) n;have w:=λj=>iI (nS E (XT o env) H o.op) (env:=XT o env) (H:=H) (j:=j);have x:∀id,id∉zb E (XT o env) H o.op->id∉vr E (Ir (nS E (XT o env) H o.op) (XT o env) H).1 (Ir (nS E (XT o env) H o.op) (XT o env) H).2 o.op/\(Ir (nS E (XT o env) H o.op) (XT o env) H).2[id]?=H[id]? :=by intro id a;unfold zb at a;split at a;rename_i z;rw[z];exact⟨a,rfl⟩;simp only[Ak,not_or]at a;refine⟨a.2,w id a.1.1 (sQ (i:=0) k!)⟩
 obtain⟨v,d,q1,q2,q3,q4,q5,q6⟩:=za (N:=N) f g s h;refine⟨v,d,⟨λt G=>Jw.before (FX.subset λq y=>?_) (Jw.before (A N) q1),?_⟩,q2,q3,q4,u.step.trans q5⟩;obtain⟨p,m,rfl⟩:=Bp.1 y;obtain⟨D,b,F⟩:=xG m;grind[VJ,OR,AG9];rintro _ _ ⟨rfl,rfl⟩ id a hn;rw[Cd]at a;obtain⟨B,C⟩:=x id hn;rw[EK,EK,q6 id (DM a u.step.len) B,C]
def Uu{j:Nat}:∀{l},Je j l=η->j∉l
 |i::r,h=>by simp only[Je]at h;split at h;cases h;rename_i b;intro a;rcases Av.1 a with rfl|a;rw[Hl]at b;cases b;exact Uu h a
 |[],_=>λh=>by cases h
def vq(ops:Array Oper)(l:Ψ Nat):Ψ Nat:=l.filterMap λi=>(ops[i]?).bind (·.dst)
theorem Zf{L:Ψ Qd}(u:∀c∈L,c.Ok P){w}(s:Wx P w){b}{X}{ow}:∀l n env H k(r:R),OL env H→
  ABr P L w b (Iq b.toList []) X ow l n env H k=δ r->
  ∃a q,RA P N b l n (B3 env) (BL H) (λe h=>e=B3 a/\h=BL q)/\k a q=δ r/\OL a q/\EG (vq b l) env H a q
 |[],n,env,H,k,r,ok,h=>⟨env,H,⟨rfl,rfl⟩,h,ok,EG.refl _ _ _⟩
 |i::l,n,env,H,k,r,ok,h=>by
  simp only[ABr]at h;simp only[RA];cases J:b[i]? with
  |none=>rw[J]at h;cases h
  |some o=>
   rw[J]at h;simp only at h⊢;have m:∀{e}{h}{v},EG (vq b [i]) e h (e.putO o.dst v) h:=by
    intro e h v;refine⟨CL.refl h,λt T _=>?_⟩;cases hd:o.dst with
    |none=>rfl
    |some d=>refine pu λe=>T ?_;simp[vq,J,hd,e]
   have g:∀t,t∈vq b [i]++vq b l->t∈vq b (i::l):=by grind[vq]
   split at h;rename_i t Q;split at h;rename_i z hz;split at h;rename_i F;simp only[BZ]at F;obtain⟨z1,z2⟩:=Zm hz;have I:=CL.push H (.live η z);have f:OL (env.putO o.dst (.c (.raw (.ptr (θ H) 0 0)))) (H++[.live η z]):=⟨cg (I.env ok.env) (KB trivial),QF ok.heap (z2 _)⟩
   obtain⟨a,q,x,C,D,E⟩:=Zf u s l _ _ _ _ _ f h;have G:o.guard=ε:=by simpa using F.1
   refine⟨a,q,?_,C,D,?_⟩;rw[G];refine .inr (.inr ⟨t,lvs z,Q,z1,λj V=>?_,?_⟩);grind[List.all_eq_true];have M:B3 (env.putO o.dst (.c (.raw (.ptr (θ H) 0 0))))=(B3 env).putO o.dst (.ptr (BL H).length 0 0):=by rw[Yg,Cd];rfl
   have W:BL (H++[.live η z])=BL H++[.live 0 (lvs z)]:=Rr _ _;rw[M,W]at x;exact x;have U:EG (vq b [i]) env H (env.putO o.dst (.c (.raw (.ptr (θ H) 0 0)))) (H++[.live η z]):=⟨I,(m (h:=H)).same⟩
   exact(EG.trans ok.env U E).mono g;cases h;cases h;rename_i O;have y:If b i=η:=by
    cases Z:If b i with
    |false=>rfl
    |true=>obtain⟨t,T⟩:=(XP J).1 Z;exact(O t T).elim
   split at h;rename_i G;have f:OL (env.putO o.dst (.tup [])) H:=⟨cg ok.env (Rz λv hv=>by cases hv),ok.heap⟩
   obtain⟨a,q,x,C,D,E⟩:=Zf u s l _ _ _ _ _ f h;have M:(B3 env).putO o.dst (.tup [])=B3 (env.putO o.dst (.tup [])):=by rw[Yg];rfl
   exact⟨a,q,pX G ⟨y,by rw[M];exact x⟩,C,D,(EG.trans ok.env m E).mono g⟩;rename_i G;split at h;split at h;rename_i S;obtain⟨v,q1,q2,q3⟩:=ADj (N:=N) ok h;have B:=oG q2;have f:OL (env.putO o.dst v) H:=⟨cg ok.env q3,ok.heap⟩
   obtain⟨a,q,x,C,D,E⟩:=Zf u s l _ _ _ _ _ f B;refine⟨a,q,lS G (.inl ⟨y,v.enc,rdT env o.op,q1,λid A=>?_,by rw[<-Yg];exact x⟩),C,D,(EG.trans ok.env m E).mono g⟩;have:=GK.1 S id A;rw[Cd];exact PL this;cases h;split at h;rename_i F;simp only[BZ]at F;obtain⟨v,K,q1,q2,q3,q4,q5⟩:=ABC (N:=N) u s ok h;have B:=oG q2;have f:OL (env.putO o.dst v) K:=⟨cg (q5.env ok.env) q3,q4⟩
   obtain⟨a,q,x,C,D,E⟩:=Zf u s l _ _ _ _ _ f B;refine⟨a,q,lS G (.inr (.inl ⟨y,zb L (XT o env) H o.op,λj V=>by simpa using List.all_eq_true.1 F.1 j V,λp hp=>?_,DW v.enc (BL K),q1,?_,?_⟩)),C,D,?_⟩;have:=GK.1 F.2 p hp;simp only[QI,GK,Wa]at this;exact this.imp id λY id A=>Uu (Y id A);rintro _ _ ⟨rfl,rfl⟩;rw[Cd,Cd];exact q5.len;rintro _ _ ⟨rfl,rfl⟩;rw[<-Yg];exact x;have U:EG (vq b [i]) env H (env.putO o.dst v) K:=⟨q5,(m (h:=H)).same⟩
   exact(EG.trans ok.env U E).mono g;cases h;cases h
end
abbrev DV:=(t:Ty)×t.D
def dvs:(ts:Ψ Ty)->DL ts->Ψ DV
 |[],_=>[]
 |[t],x=>[⟨t,x⟩]
 |t::u::r,x=>⟨t,x.1⟩::dvs (u::r) x.2
def ABT:(ts:Ψ Ty)->Ψ DV->Ω (DL ts)
 |[],[]=>δ ()
 |[t],[⟨t',x⟩]=>if h:t'.beq t=ζ then δ (Ty.cast h x)else ε
 |t::u::r,⟨t',x⟩::ds=>if h:t'.beq t=ζ then match ABT (u::r) ds with|some y=>δ (Ty.cast h x,y)|none=>ε else ε
 |_,_=>ε
def ACQ{a:Ty}(h:a.beq t=ζ)(x:a.D):(⟨t,Ty.cast h x⟩:DV)=⟨a,x⟩:=by have e:=Ty.beq_eq a t h;subst e;rfl
theorem rG:∀{b}{a}{s:DL b},ABT b a=δ s->dvs b s=a
 |[],[],s,_=>rfl
 |[],_::_,s,h=>by cases h
 |[t],[],s,h=>by cases h
 |[t],[⟨t',x⟩],s,h=>by simp only[ABT]at h;split at h;rename_i c;injection h with h;subst h;simp only[dvs,ACQ];cases h
 |[t],_::_::_,s,h=>by simp[ABT]at h
 |t::u::r,[],s,h=>by cases h
 |t::u::r,⟨t',x⟩::a,s,h=>by simp only[ABT]at h;split at h;rename_i c;split at h;rename_i y d;injection h with h;subst h;simp only[dvs,ACQ,rG d];cases h;cases h
inductive Part where
 |d (t:Ty)
 |o (id:Nat)
inductive PD where
 |t (tmp:Nat) (ty:Ty)
 |g (tmp id:Nat)
 |p (id:Nat) (ps:List Part)
 |u (id:Nat) (ty:Ty)
 |x (id:Nat)
 |k (tmp:Nat) (v:Ad)
 |y (id:Nat) (s:LS)
 |m (id:Nat) (k:IntKind) (t:Ty)
 |w (tmp id:Nat)
def AJf:Ad->Ad->Bool
 |.ptr a b c,.ptr a' b' c'=>ξ a a'&&(ξ b b'&&ξ c c')
 |.nilp,.nilp=>ζ
 |.nilf,.nilf=>ζ
 |_,_=>η
def AHg{w}(h:AJf u w=ζ):u=w:=by unfold AJf at h;split at h<;>simp_all
def Ls:Ψ PD->Ψ Nat
 |[]=>[]
 |.p id _::r=>id::Ls r
 |.u id _::r=>id::Ls r
 |.x id::r=>id::Ls r
 |.y id _::r=>id::Ls r
 |.m id _ _::r=>id::Ls r
 |_::r=>Ls r
def WQ:Ψ PD->Ψ Nat
 |[]=>[]
 |.t tmp _::r=>tmp::WQ r
 |.g tmp _::r=>tmp::WQ r
 |.k tmp _::r=>tmp::WQ r
 |.w tmp _::r=>tmp::WQ r
 |_::r=>WQ r
def AJY:Ψ Part->Ψ Ty
 |[]=>[]
 |.d t::r=>t::AJY r
 |_::r=>AJY r
def fY:Ψ PD->Ψ Ty
 |[]=>[]
 |.t _ t::r=>t::fY r
 |.p _ ps::r=>AJY ps++fY r
 |.u _ t::r=>.list t::fY r
 |.m _ k t::r=>.list (.prod (.cons (.int k) (.one t)))::fY r
 |.w _ _::r=>.int .i64:: .int .i64::fY r
 |_::r=>fY r
def uR(H:As)(id:Nat):Bw->Bool
 |.own id' ver _ _=>match ξ id id' with
  |true=>match H[id]? with|some (.buf _ _ _ _ ver')=>ξ ver ver'|_=>η
  |false=>η
 |_=>η
def sA(H:As)(rest:Ψ Nat):Ψ Part->Ψ Bw->Ω (Ψ DV)
 |[],[]=>δ []
 |.d t::ps,cs=>
  match t.mk cs with
  |some (x,cs')=>match sA H rest ps cs' with|some ds=>δ (⟨t,x⟩::ds)|none=>ε
  |none=>ε
 |.o id::ps,c::cs=>
  match uR H id c&& !Je id rest with
  |true=>sA H rest ps cs
  |false=>ε
 |_,_=>ε
def Y3(env:Bi)(H:As):Ψ PD->Ω (Ψ DV)
 |[]=>δ []
 |.t tmp ty::r=>
  match ty.data (env.get tmp),Y3 env H r with
  |some x,δ ds=>δ (⟨ty,x⟩::ds)
  |_,_=>ε
 |.g tmp id::r=>
  match env.get tmp with
  |.c x=>match uR H id x&& !Je id (Ls r)with|true=>Y3 env H r|false=>ε
  |_=>ε
 |.p id ps::r=>
  match H[id]? with
  |some (.live _ cs)=>
   match sA H (id::Ls r) ps cs,Y3 env H r with
   |some a,δ b=>δ (a++b)
   |_,_=>ε
  |_=>ε
 |.u id ty::r=>
  match H[id]? with
  |some (.buf _ t l _ _)=>match t.beq ty,Y3 env H r with|true,δ ds=>δ (⟨.list t,l⟩::ds)|_,_=>ε
  |_=>ε
 |.x _::r=>Y3 env H r
 |.k tmp v::r=>
  match env.get tmp with
  |.c (.raw w)=>match AJf v w with|true=>Y3 env H r|false=>ε
  |_=>ε
 |.y id s::r=>
  match H[id]? with
  |some (.lp _ _ _ _ _ _ _ s')=>match s.beq s' with|true=>Y3 env H r|false=>ε
  |_=>ε
 |.m id k t::r=>
  match H[id]? with
  |some (.mp _ k' t' es)=>match τ (k'=k)&&t'.beq t,Y3 env H r with|true,δ ds=>δ (⟨.list (.prod (.cons (.int k') (.one t'))),es⟩::ds)|_,_=>ε
  |_=>ε
 |.w tmp id::r=>
  match env.get tmp with
  |.vw id' ver te n lo m=>match uR H id (.own id' ver te n)&& !Je id (Ls r),Y3 env H r with|true,δ ds=>δ (⟨.int .i64,(lo:Int)⟩::⟨.int .i64,(m:Int)⟩::ds)|_,_=>ε
  |_=>ε
def uv(H:As):Ψ Part->Ψ DV->Ω (Ψ Bw×Ψ DV)
 |[],ds=>δ ([],ds)
 |.d _::ps,⟨t,x⟩::ds=>match uv H ps ds with|some (cs,r)=>δ (t.lvs x++cs,r)|none=>ε
 |.o id::ps,ds=>
  match H[id]? with
  |some (.buf _ t _ n ver)=>match uv H ps ds with|some (cs,r)=>δ (.own id ver t n::cs,r)|none=>ε
  |_=>ε
 |_,_=>ε
def Ws:Ψ PD->Ψ DV->Bi->As->Ω (Bi×As)
 |[],[],env,H=>δ (env,H)
 |.t tmp _::r,⟨t,x⟩::ds,env,H=>Ws r ds ((tmp,t.tv x)::env) H
 |.g tmp id::r,ds,env,H=>
  match H[id]? with
  |some (.buf _ t _ n ver)=>Ws r ds ((tmp,.c (.own id ver t n))::env) H
  |_=>ε
 |.p id ps::r,ds,env,H=>
  match H[id]? with
  |some (.live η _)=>match uv H ps ds with|some (cs,ds')=>Ws r ds' env (H.set id (.live η cs))|none=>ε
  |_=>ε
 |.u id _::r,⟨.list t,l⟩::ds,env,H=>
  match H[id]? with
  |some (.buf η t' _ _ ver)=>match t'.beq t with|true=>Ws r ds env (H.set id (.buf η t l (θ l) (ver+1)))|false=>ε
  |_=>ε
 |.x id::r,ds,env,H=>
  match H[id]? with
  |some e=>match e.ro||e.isLp with|false=>Ws r ds env (H.set id .dead)|true=>ε
  |none=>ε
 |.k tmp v::r,ds,env,H=>Ws r ds ((tmp,.c (.raw v))::env) H
 |.y id s::r,ds,env,H=>
  match H[id]? with
  |some (.lp η F n e ps a b _)=>Ws r ds env (H.set id (.lp η F n e ps a b s))
  |_=>ε
 |.m id _ _::r,⟨.list (.prod (.cons (.int k) (.one t))),es⟩::ds,env,H=>
  match H[id]? with
  |some (.mp η k' t' _)=>match τ (k'=k)&&t'.beq t with|true=>Ws r ds env (H.set id (.mp η k t es))|false=>ε
  |_=>ε
 |.w tmp id::r,⟨.int _,lo⟩::⟨.int _,m⟩::ds,env,H=>
  match H[id]? with
  |some (.buf _ t _ n ver)=>Ws r ds ((tmp,.vw id ver t n (ο lo) (ο m))::env) H
  |_=>ε
 |_,_,_,_=>ε
def AIn(e e':Dx):Prop:=e'=.dead\/(∃b cs b' cs',e=.live b cs/\e'=.live b' cs'/\Dq (lvs cs) (lvs cs'))\/(∃b t l n v b' v',e=.buf b t l n v/\e'=.buf b' t l n v')\/(∃ro ro' F n env ps a b s,e=.lp ro F n env ps a b s/\e'=.lp ro' F n env ps a b s)\/(∃b b' k t es,e=.mp b k t es/\e'=.mp b' k t es)
def HR(H1 H:As)(rest:Ψ Nat):Prop:=∀j(e':Dx),Je j rest=η->H[j]?=δ e'->∃e,H1[j]?=δ e/\AIn e e'
theorem QN:Je N (n::d)=η↔N≠n/\Je N d=η:=by simp[Je];by_cases h:N=n;simp_all;grind[beq_false]
theorem kj(j:B.ok c)(h:uR c N B=ζ):∃b t l n a,B=.own N a t n/\c[N]?=δ (.buf b t l n a):=by unfold uR at h;split at h;rename_i k a t n;split at h;rename_i i;have e:=DH i;subst e;split at h;rename_i b o l m d g;have f:=DH h;subst f;have⟨rfl,rfl⟩:=(j.2 _ _ _ _ _ g).2 rfl;grind;cases h;cases h;cases h
theorem Ww{b:Bool}{l:Ψ t.D}(h:c[N]?=δ (.buf b t l n W)):TY c N W t n:=by refine⟨?_,λro g e f H d=>?_⟩;grind;grind
theorem oC{q H}{i}(hr:HR q H i):∀{p}{m}{a b j:Ψ DV}{f:Ψ Bw},lok q m→sA q i p m=δ a→uv H p (a++b)=δ (f,j)→
  j=b/\Dq (lvs m) (lvs f)/\lok H f
 |[],[],a,b,j,f,ok,h,k=>by grind[sA,Option.some.injEq,uv,Prod.mk.injEq,Dq.refl,AHN]
 |[],_::_,a,b,j,f,ok,h,k=>by simp[sA]at h
 |.d t::p,m,a,b,j,f,ok,h,k=>by simp[sA]at h;split at h;rename_i x R z;split at h;rename_i S u;cases h;obtain⟨Q,rfl,M⟩:=t.mk_spec _ _ _ z;simp[ET,uv]at k;split at k;rename_i E r v;obtain⟨rfl,rfl⟩:=k;have⟨q1,q2,q3⟩:=oC hr (Jd.1 ok).2 u v;refine⟨q1,?_,Jd.2 ⟨t.lvs_ok x,q3⟩⟩;rw[G5,G5,t.lvs_enc];exact M.append q2;cases k;cases h;cases h
 |.o id::p,c::m,a,b,j,f,ok,h,k=>by
  simp[sA]at h;split at h
  ·rename_i s;simp[BZ,Wa]at s;obtain⟨O,t,l,n,N,rfl,L⟩:=kj (ok c q!) s.1;simp[uv]at k;split at k
   ·rename_i P t2 l2 Z D B;split at k
    ·rename_i E r v;obtain⟨rfl,rfl⟩:=k;have⟨q1,q2,q3⟩:=oC hr (λx z=>ok x (by simp[z])) h v;have⟨e,C,w⟩:=hr id _ s.2 B;rw[L]at C;cases C;rcases w with g|⟨_,_,_,_,g,_⟩|⟨_,_,_,_,_,_,_,g,K⟩|⟨_,_,_,_,_,_,_,_,_,g,_⟩|⟨_,_,_,_,_,g,_⟩;cases g;cases g;rotate_left;cases g;cases g;injection g with T F U G V;injection K with W I X J Y;subst F G I J;refine⟨q1,?_,λy A=>?_⟩;rw[IC,IC];exact(Dq.refl _).append q2;rcases Av.1 A with rfl|A;exact Ww B;exact q3 y A
    cases k
   cases k
  cases h
structure IS(env1:Bi)(H1:As)(slots:List PD)(env:Bi)(H:As)(env2:Bi)(H2:As):Prop where
 get:∀t,Je t (WQ slots)=false->env2.get t=env.get t
 ok:OL env2 H2
 env:∀p∈env2,∃v,(p.1,v)∈env1/\Xc v.enc p.2.enc
 hr:HR H1 H2 []
 step:CL H H2
 len:H2.length=H.length
 same:∀j,Je j (Ls slots)=false->H2[j]?=H[j]?
def Zi{t:Nat}{v:TV}:∀{env:Bi},env.get t=v->v≠Vv->(t,v)∈env
 |[],h,hv=>O! h.symm hv
 |(k,u)::r,h,hv=>by simp only[Bi.get]at h;split at h;simp_all;exact Ca _ (Zi h hv)
def heap_set(b:CL c (c.set N I))(ok:∀x∈c,x.ok c)(a:I.ok (c.set N I)):∀x∈c.set N I,x.ok (c.set N I):=by intro x H;rcases Q5 H with h|rfl;exact b.ent (ok x h);exact a
theorem HR.set{a H}{id:Nat}{e d:Dx}(h:HR a H (id::k))(g:a[id]?=δ e)(hr:AIn e d):HR a (H.set id d) k:=by intro j x f c;rw[We]at c;split at c;grind;rename_i b;exact h j x (QN.2 ⟨λq=>b q.symm,f⟩) c
theorem LpS.set{H c}{id:Nat}{i:Dx}(h:LpS H c)(l:id<θ H)(p:∀ro F n env f a b s,c[id]?=δ (.lp ro F n env f a b s)->∃g o,i=.lp g F n env f a b o):LpS (H.set id i) c:=by intro j k ro F n env f a b s m;rw[WT]at k;by_cases d:j=id;grind;rw[Dc λe=>d e.symm];exact h j k _ _ _ _ _ _ _ _ m
variable {F:Ψ PD}
theorem sM(id:Nat){env2:Bi}{f:As}(a:L[id]?=δ I)(g:(I.ro||I.isLp)=η)(l:θ L≤θ c)(lp:LpS L c)
  (hr:HR c L (id::Ls F)) (ok:OL H L) (q0:OL H (L.set id .dead)->LpS (L.set id .dead) c->HR c (L.set id .dead) (Ls F)->IS j c F H (L.set id .dead) env2 f):IS j c (.x id::F) H L env2 f:=by
 have b:I.isLp=η:=k!
 have st:CL L (L.set id .dead):=CL.set a k! λ_ _ _ _ _ I=>by cases I
 have d:id<θ c:=k!
 have q:=q0 ⟨st.env ok.env,heap_set st ok.heap trivial⟩ (lp.set (HK a) λ_ _ _ _ _ _ _ _ i=>by have⟨k,m,q⟩:=lp id (HK a) _ _ _ _ _ _ _ _ i;rw[a]at q;injection q with q;rw[q]at b;cases b) (HR.set hr (Au d) (.inl rfl));refine⟨q.get,q.ok,q.env,q.hr,st.trans q.step,by simpa using q.len,λr h=>?_⟩;have:=QN.1 h;rw[q.same r this.2,Dc λI=>this.1 I.symm]
def Mx{env1}{J}(z:OL env1 J):∀{slots}{B:Ψ DV}{env}{H}{env2:Bi}{E:As},Y3 env1 J slots=δ B→Ws slots B env H=δ (env2,E)→OL env H→
  θ H<=θ J->(∀p∈env,∃v,(p.1,v)∈env1/\Xc v.enc p.2.enc)->HR J H (Ls slots)->LpS H J->IS env1 J slots env H env2 E
 |[],B,env,H,env2,E,h,k,ok,hl,he,hr,lp=>by simp only[Y3,Ar]at h;subst h;simp only[Ws,Ar,Ee]at k;obtain⟨rfl,rfl⟩:=k;exact⟨λ_ _=>rfl,ok,he,hr,CL.refl _,rfl,λ_ _=>rfl⟩
 |.t tmp ty::r,B,env,H,env2,E,h,k,ok,hl,he,hr,lp=>by
  simp[Y3]at h;split at h;rename_i x d I R;cases h;simp[Ws]at k;have f:OL ((tmp,ty.tv x)::env) H:=⟨λp o=>by rcases Av.1 o with rfl|o;exact ty.tv_ok x;exact ok.env p o,ok.heap⟩
  have q:=Mx z R k f hl (λp o=>by rcases Av.1 o with rfl|o;refine⟨env1.get tmp,Zi rfl λe=>?_,?_⟩;rw[e]at I;cases ty<;>cases I;simp[ty.tv_enc];exact M1 I;exact he p o) hr lp;refine⟨λt G=>?_,q.ok,q.env,q.hr,q.step,q.len,q.same⟩;have:=QN.1 G;rw[q.get t this.2];simp[Bi.get,beq_false λe=>this.1 e.symm];cases h
 |.g tmp id::r,B,env,H,env2,E,h,k,ok,hl,he,hr,lp=>by
  simp[Y3]at h;split at h
  ·rename_i x I;split at h
   ·rename_i D;simp[BZ,Wa]at D;have V:x.ok J:=lR z.env tmp x (by rw[I];simp[TV.refs]);obtain⟨b1,t,l,n,ad,rfl,C⟩:=kj V D.1;simp[Ws]at k;split at k
    ·rename_i b2 O l2 n2 N h2;have⟨e,L,T⟩:=hr id _ D.2 h2;rw[C]at L;cases L;rcases T with i|⟨_,_,_,_,i,_⟩|⟨_,_,_,_,_,_,_,i,h1⟩|⟨_,_,_,_,_,_,_,_,_,i,_⟩|⟨_,_,_,_,_,i,_⟩;cases i;cases i;rotate_left;cases i;cases i;injection i with e1 Z e3 e4 e5;injection h1 with f1 f2 f3 f4 f5;subst Z e4 f2 f4;have f:OL ((tmp,.c (.own id N O n2))::env) H:=⟨λp o=>by rcases Av.1 o with rfl|o;exact KB (Ww h2);exact ok.env p o,ok.heap⟩
     have q:=Mx z h k f hl (λp o=>by rcases Av.1 o with rfl|o;exact⟨_,Zi I (λe=>by cases e),Xc.refl _⟩;exact he p o) hr lp;refine⟨λt G=>?_,q.ok,q.env,q.hr,q.step,q.len,q.same⟩;have:=QN.1 G;rw[q.get t this.2];simp[Bi.get,beq_false λe=>this.1 e.symm]
    cases k
   cases h
  cases h
 |.p id Y::r,B,env,H,env2,E,h,k,ok,hl,he,hr,lp=>by
  simp[Y3]at h;split at h;rename_i b cs C;split at h;rename_i a b1 ha D;cases h;simp[Ws]at k;split at k;rename_i ap i;split at k;rename_i P Q hi;have ao:lok J cs:=by simpa only[Dx.ok]using z.heap _ (BP C)
  have⟨rfl,q2,q3⟩:=oC hr ao ha hi;have st:CL H (H.set id (.live η P)):=CL.set i rfl λ_ _ _ _ _ e=>by cases e
  have A:HR J (H.set id (.live η P)) (Ls r):=HR.set hr C (.inr (.inl ⟨_,_,_,_,rfl,rfl,q2⟩));have f:OL env (H.set id (.live η P)):=⟨st.env ok.env,heap_set st ok.heap (by simpa only[Dx.ok]using st.lok q3)⟩
  have q:=Mx z D k f (by simpa using hl) he A (lp.set (HK i) λ_ _ _ _ _ _ _ _ K=>by rw[C]at K;cases K);refine⟨q.get,q.ok,q.env,q.hr,st.trans q.step,by simpa using q.len,λj S=>?_⟩;have:=QN.1 S;rw[q.same j this.2,Dc λe=>this.1 e.symm];cases k;cases k;cases h;cases h
 |.u id ty::r,B,env,H,env2,E,h,k,ok,hl,he,hr,lp=>by
  simp[Y3]at h;split at h;rename_i b t l n ad C;split at h;rename_i Q D R;cases h;simp[Ws]at k;split at k;rename_i t' l0 n0 M i;split at k;rename_i G;have e:=Ty.beq_eq _ _ G;subst e;have hn:n=θ l:=by simpa only[Dx.ok]using z.heap _ (BP C)
  have st:CL H (H.set id (.buf η t' l (θ l) (M+1))):=CL.set i rfl λro O l2 n2 v2 e=>by cases e;exact⟨_,_,_,_,rfl,.inl o!⟩
  have A:HR J (H.set id (.buf η t' l (θ l) (M+1))) (Ls r):=HR.set hr C (.inr (.inr (.inl ⟨_,_,_,_,_,_,_,rfl,by rw[hn]⟩)));have f:OL env (H.set id (.buf η t' l (θ l) (M+1))):=⟨st.env ok.env,heap_set st ok.heap rfl⟩
  have q:=Mx z R k f (by simpa using hl) he A (lp.set (HK i) λ_ _ _ _ _ _ _ _ K=>by rw[C]at K;cases K);refine⟨q.get,q.ok,q.env,q.hr,st.trans q.step,by simpa using q.len,λj S=>?_⟩;have:=QN.1 S;rw[q.same j this.2,Dc λe=>this.1 e.symm];cases k;cases k;cases h;cases h
 |.x id::r,B,env,H,env2,E,h,k,ok,hl,he,hr,lp=>by
  simp[Y3]at h;cases B with
  |nil=>simp[Ws]at k;split at k;rename_i e i;split at k;rename_i U;exact sM id i U hl lp hr ok λf X A=>Mx z h k f (by simpa using hl) he A X;cases k;cases k
  |cons d B=>simp[Ws]at k;split at k;rename_i e i;split at k;rename_i U;exact sM id i U hl lp hr ok λf X A=>Mx z h k f (by simpa using hl) he A X;cases k;cases k
 |.k tmp w::r,B,env,H,env2,E,h,k,ok,hl,he,hr,lp=>by
  have k':Ws r B ((tmp,.c (.raw w))::env) H=δ (env2,E):=by cases B<;>simpa only[Ws]using k
  simp[Y3]at h;split at h;rename_i w' I;split at h;rename_i D;have e:=AHg D;subst e;have f:OL ((tmp,.c (.raw w))::env) H:=⟨λp o=>by rcases Av.1 o with rfl|o;exact KB trivial;exact ok.env p o,ok.heap⟩
  have hw:w≠.any:=by rintro rfl;cases D
  have q:=Mx z h k' f hl (λp o=>by rcases Av.1 o with rfl|o;refine⟨_,Zi I (λe=>?_),Xc.refl _⟩;injection e with e;injection e with e;exact hw e;exact he p o) hr lp;refine⟨λt G=>?_,q.ok,q.env,q.hr,q.step,q.len,q.same⟩;have:=QN.1 G;rw[q.get t this.2];simp[Bi.get,beq_false λe=>this.1 e.symm];cases h;cases h
 |.y id s::r,B,env,H,env2,E,h,k,ok,hl,he,hr,lp=>by
  simp[Y3]at h;split at h;rename_i ax F1 n1 e1 p1 a1 b1 s1 C;split at h;rename_i D;have e0:=LS.beq_eq D;subst e0;obtain⟨F,n,e,Y,a,b,s0,i,k'⟩:∃F n e Y a b s0,H[id]?=δ (.lp η F n e Y a b s0)/\Ws r B env (H.set id (.lp η F n e Y a b s))=δ (env2,E):=by cases B<;>simp[Ws]at k<;>split at k<;>first|exact⟨_,_,_,_,_,_,_,‹_›,k⟩|cases k
  have⟨a0,s2,q⟩:=lp id (HK i) _ _ _ _ _ _ _ _ C;rw[i]at q;injection q with q;injection q with _ q2 q3 q4 q5 q6 q7 _;subst q2 q3 q4 q5 q6 q7;have st:CL H (H.set id (.lp η F n e Y a b s)):=CL.set i rfl (λ_ _ _ _ _ e=>by cases e) λ_ _ _ _ _ _ _ _ e=>by cases e;exact⟨_,_,rfl⟩
  have A:HR J (H.set id (.lp η F n e Y a b s)) (Ls r):=HR.set hr C (.inr (.inr (.inr (.inl ⟨_,_,_,_,_,_,_,_,_,rfl,rfl⟩))));have f:OL env (H.set id (.lp η F n e Y a b s)):=⟨st.env ok.env,heap_set st ok.heap (by have:=ok.heap _ (BP i);simpa only[Dx.ok]using this)⟩
  have q:=Mx z h k' f (by simpa using hl) he A (lp.set (HK i) λ_ _ _ _ _ _ _ _ K=>by rw[C]at K;injection K with K;cases K;exact⟨_,_,rfl⟩);refine⟨q.get,q.ok,q.env,q.hr,st.trans q.step,by simpa using q.len,λj S=>?_⟩;have:=QN.1 S;rw[q.same j this.2,Dc λe=>this.1 e.symm];cases h;cases h
 |.m id kk ty::r,B,env,H,env2,E,h,k,ok,hl,he,hr,lp=>by
  simp[Y3]at h;split at h;rename_i b k1 t1 es C;split at h;rename_i Q D R;cases h;simp[Ws]at k;split at k;rename_i k2 O ar i;split at k;rename_i G;simp[BZ,K!]at G;have⟨rfl,G⟩:=G;have e:=Ty.beq_eq _ _ G;subst e;have st:CL H (H.set id (.mp η k2 O es)):=CL.set i rfl λ_ _ _ _ _ e=>by cases e
  have A:HR J (H.set id (.mp η k2 O es)) (Ls r):=HR.set hr C (.inr (.inr (.inr (.inr ⟨_,_,_,_,_,rfl,rfl⟩))));have f:OL env (H.set id (.mp η k2 O es)):=⟨st.env ok.env,heap_set st ok.heap trivial⟩
  have q:=Mx z R k f (by simpa using hl) he A (lp.set (HK i) λ_ _ _ _ _ _ _ _ K=>by rw[C]at K;cases K);refine⟨q.get,q.ok,q.env,q.hr,st.trans q.step,by simpa using q.len,λj S=>?_⟩;have:=QN.1 S;rw[q.same j this.2,Dc λe=>this.1 e.symm];cases k;cases k;cases h;cases h
 |.w tmp id::r,B,env,H,env2,E,h,k,ok,hl,he,hr,lp=>by
  simp[Y3]at h;split at h
  ·rename_i W al te n1 lo m I;split at h
   ·rename_i Q D R;cases h;simp[BZ,Wa]at D;have V:(Bw.own W al te n1).ok J:=lR z.env tmp _ (by rw[I];simp[TV.refs]);obtain⟨b1,t,l,n,ad,e0,C⟩:=kj V D.1;injection e0 with e1 Z e3 e4;subst e1 Z e3 e4;simp[Ws]at k;split at k
    ·rename_i b2 O l2 n2 N h2;have⟨e,L,T⟩:=hr W _ D.2 h2;rw[C]at L;cases L;rcases T with i|⟨_,_,_,_,i,_⟩|⟨_,_,_,_,_,_,_,i,h1⟩|⟨_,_,_,_,_,_,_,_,_,i,_⟩|⟨_,_,_,_,_,i,_⟩;cases i;cases i;rotate_left;cases i;cases i;injection i with e1 Z e3 e4 e5;injection h1 with f1 f2 f3 f4 f5;subst Z e4 f2 f4;have f:OL ((tmp,.vw W N O n2 lo m)::env) H:=⟨λp o=>by rcases Av.1 o with rfl|o;intro x I;simp only[TV.refs,A9]at I;subst I;exact Ww h2;exact ok.env p o,ok.heap⟩
     have q:=Mx z R k f hl (λp o=>by rcases Av.1 o with rfl|o;exact⟨_,Zi I (λe=>by cases e),Xc.refl _⟩;exact he p o) hr lp;refine⟨λt G=>?_,q.ok,q.env,q.hr,q.step,q.len,q.same⟩;have:=QN.1 G;rw[q.get t this.2];simp[Bi.get,beq_false λe=>this.1 e.symm]
    cases k
   cases h
  cases h
def be(n:Nat):Ψ Bw->Bool
 |[]=>ζ
 |.own id _ _ _::r=>Nat.blt id n&&be n r
 |.raw v::r=>v.idsAll (Nat.blt · n)&&be n r
 |_::r=>be n r
mutual
def wX(n:Nat):TV->Bool
 |.c x=>be n [x]
 |.g cs=>be n cs
 |.aptr id .. =>Nat.blt id n
 |.bptr id .. =>Nat.blt id n
 |.vw id .. =>Nat.blt id n
 |.vptr cs post=>be n cs&&Ad.idsAllL (Nat.blt · n) post
 |.tup vs=>xt n vs
def xt(n:Nat):Ψ TV->Bool
 |[]=>ζ
 |v::r=>wX n v&&xt n r
end
def vp(n:Nat):Bi->Bool
 |[]=>ζ
 |(_,v)::r=>wX n v&&vp n r
def mw(n:Nat):As->Bool
 |[]=>ζ
 |.live _ cs::r=>be n cs&&mw n r
 |.lp _ _ _ env _ _ _ _::r=>vp n env&&mw n r
 |_::r=>mw n r
def mM(h:Nat.blt N n=ζ):τ (N<n)=ζ:=t!
def lg(h:Pure u)(n:Nat):(u.idsAll λid=>decide (id<n))=ζ:=Rh (λ_ h=>by cases h) u h
def zy:∀{x:Bw},be n [x]=ζ->(∀v∈x.enc,(v.idsAll λid=>decide (id<n))=ζ)/\(x.one.idsAll λid=>decide (id<n))=ζ
 |.bl _,_=>⟨λv b=>by simp only[Bw.enc,A9]at b;subst b;rfl,rfl⟩
 |.it _ _,_=>⟨λv b=>by simp only[Bw.enc,A9]at b;subst b;rfl,rfl⟩
 |.st _,_=>⟨λv b=>by simp only[Bw.enc,A9]at b;subst b;rfl,rfl⟩
 |.ls t l,_=>⟨λv b=>by simp only[Bw.enc,A9]at b;subst b;exact lg ((Ty.list t).enc_pure l) n,lg ((Ty.list t).enc_pure l) n⟩
 |.ar m t a,_=>by have h:=lg ((Ty.arr m t).enc_pure a) n;refine⟨λv b=>?_,h⟩;exact((Dv _ _).1 h) v b
 |.own id ver t m,h=>by simp only[be,Rj]at h;have:=mM h;exact⟨λv b=>by simp only[Bw.enc,A9]at b;subst b;exact this,this⟩
 |.nil,_=>⟨λv b=>by simp only[Bw.enc,A9]at b;subst b;rfl,rfl⟩
 |.raw v,h=>by simp only[be,Rj]at h;have:=Rh (λ_ h=>mM h) v h;exact⟨λu c=>by simp only[Bw.enc,A9]at c;subst c;exact this,this⟩
def wW(h:be n (B::g)=ζ):be n [B]=ζ/\be n g=ζ:=by cases B<;>simp only[be,Rj,BZ]at h⊢ <;>first|exact h|exact⟨P!,h⟩
def mQ{n}:∀{b},be n b=ζ->Ad.idsAllL (λid=>decide (id<n)) (lvs b)=ζ
 |[],_=>rfl
 |x::r,h=>by obtain⟨c,d⟩:=wW h;rw[IC,Dv];intro v a;rcases Ak.1 a with a|a;exact(zy c).1 v a;exact((Dv _ _).1 (mQ d)) v a
mutual
theorem iB{n}:∀{v},wX n v=ζ->(v.enc.idsAll λid=>decide (id<n))=ζ
 |.c x,h=>(zy h).2
 |.g cs,h=>mQ h
 |.aptr ..,h=>mM h
 |.bptr ..,h=>mM h
 |.vw id ver t k lo m,h=>by have b:=mM h;show((vwE id k t.sz lo m).idsAll λid=>decide (id<n))=ζ;unfold vwE;split;split;exact b;rfl;exact b
 |.vptr cs post,h=>by simp only[wX,BZ]at h;simp only[TV.enc,Ad.idsAll];rw[Dv];intro v a;rcases Ak.1 a with a|a;exact((Dv _ _).1 (mQ h.1)) v a;exact((Dv _ _).1 (Ju (λ_ h=>mM h) post h.2)) v a
 |.tup vs,h=>by simp only[wX]at h;simp only[TV.enc,Ad.idsAll];exact rq h
theorem rq{n:Nat}:∀{a},xt n a=ζ->Ad.idsAllL (λid=>decide (id<n)) (TV.encL a)=ζ
 |[],_=>rfl
 |v::r,h=>by simp only[xt,BZ]at h;simp only[TV.encL,Ad.idsAllL,BZ];exact⟨iB h.1,rq h.2⟩
end
def mO{n:Nat}:∀{env},vp n env=ζ->∀p∈env,wX n p.2=ζ
 |[],_,p,a=>by cases a
 |(t,v)::r,h,p,a=>by simp only[vp,BZ]at h;rcases Av.1 a with rfl|a;exact h.1;exact mO h.2 p a
def mP{n}:∀{H},mw n H=ζ->∀e∈BL H,(e.idsAll λid=>decide (id<n))=ζ
 |x::r,h,e,c=>by
  have g:mw n r=ζ:=by cases x<;>simp only[mw,BZ]at h<;>first|exact h|exact h.2
  simp only[BL,B4,Av]at c;rcases c with rfl|c;cases x with
  |dead=>rfl
  |live b o=>simp only[mw,BZ]at h;exact mQ h.1
  |buf b t l m k=>simp only[Dx.enc,Ft.idsAll];rw[Dv];intro v d;obtain⟨u,j,d⟩:=G0.1 d;obtain⟨y,_,rfl⟩:=Bp.1 j;have h:=lg (t.E.pure y) n;cases q:t.E.f y<;>simp_all[Ad.idsAll,Dv,Ad.cells]
  |mp=>rfl
  |lp ro F m env w a b s=>simp only[mw,BZ]at h;simp only[Dx.enc,Ft.idsAll,B3,List.all_map,GK];exact λp i=>iB (mO h.1 p i)
  exact mP g e c
def FX.cut{N n0:Nat}{env:Env}{H:Aw}(hn:n0≤θ H)(d:∀t v,(t,v)∈env→(v.idsAll λid=>decide (id<n0))=ζ)
  (c:∀e∈H.take n0,(e.idsAll λid=>decide (id<n0))=ζ):FX N n0 env H env (H.take n0):=
 ⟨w!,λX g a w s=>⟨g,⟨s.sim.trunc hn c,λt v m=>⟨(s.env t v m).1,(s.env t v m).2.trunc hn (d t v m)⟩,s.size⟩,λ_ _=>⟨rfl,rfl,rfl⟩,λB b=>jE b⟩⟩
theorem wa{e:Ft}(h:(BL c)[N]?=δ e):∃x,c[N]?=δ x/\e=x.enc:=by grind[BL]
theorem HR.rel(A:θ L<=θ c)(hr:HR c L [])(x:Cx):Tk x x (BL c) (BL L++(BL c).drop (θ L)):=by
 refine⟨by simp[BL];omega,λj w z=>?_⟩;have same:∀{y:Dx},c[j]?=δ y->w=y.enc->w=.dead\/(∃g p o,(BL c)[j]?=δ (.live g p)/\w=.live g o/\θ o=θ p/\∀(i:Nat)(f:Ad),o[i]?=δ f->∃v,p[i]?=δ v/\Conv x x v f)\/((BL c)[j]?=δ w/\∀g p,w≠.live g p):=by
  intro y D q;have d:(BL c)[j]?=δ y.enc:=by grind[BL]
  subst q;cases y with
  |dead=>exact .inl rfl
  |live b p=>exact .inr (.inl ⟨_,_,_,d,rfl,rfl,λi f h=>⟨f,h,λ_ r=>r⟩⟩)
  |buf b t l m H=>exact .inr (.inl ⟨_,_,_,d,rfl,rfl,λi f h=>⟨f,h,λ_ r=>r⟩⟩)
  |lp=>exact .inr (.inr ⟨d,λ_ _ h=>by cases h⟩)
  |mp=>exact .inr (.inr ⟨d,λ_ _ h=>by cases h⟩)
 rcases Az j (θ L) with h|h;rw[CZ (by rw[Cd];exact h)]at z;obtain⟨y,D,rfl⟩:=wa z;obtain⟨e,q,B⟩:=hr j y rfl D;rcases B with rfl|⟨b,p,C,o,rfl,rfl,A⟩|⟨b,t,l,m,v,C,f,rfl,rfl⟩|⟨ro,G,F,n,env,J,a,b,s,rfl,rfl⟩|⟨b,C,k,t,I,rfl,rfl⟩;exact .inl rfl;refine .inr (.inl ⟨0,lvs p,lvs o,by simp only[BL,CT,q,Bu,Dx.enc],rfl,A.1,λi f E=>?_⟩);obtain⟨v,q1,q2⟩:=A.2 i f E;exact⟨v,q1,q2 x⟩;exact same q rfl;exact same q rfl;exact same q rfl;rw[Cn (by rw[Cd];exact h),KD]at z;rw[Cd]at z;grind[wa]
def IS.weak{N}{b}{env}{H}{env2}(s:IS j b F env H env2 c)(k:θ H≤θ b)(n:vp (θ H) env2=ζ)(o:mw (θ H) c=ζ):
  FX N (θ H) (B3 j) (BL b) (B3 env2) (BL c):=by
 have g:θ c<=θ b:=by rw[s.len];exact k
 have x:FX N (BL b).length (B3 j) (BL b) (B3 env2) (BL c++(BL b).drop (θ c)):=by refine Wz (by simp[BL];omega) λX h w _=>?_;have q:=(HR.rel g s.hr (cx X h (BL b) w)).onto;refine⟨q,λt z m=>?_⟩;obtain⟨p,A,e⟩:=Bp.1 m;injection e with d f;subst d f;obtain⟨v,u,i⟩:=s.env p A;exact⟨v.enc,Bp.2 ⟨_,u,rfl⟩,λa r=>(i _ a r).later q.later⟩
 have l:(BL c++(BL b).drop (θ c)).take (θ H)=BL c:=by rw[<-s.len,<-Cd c,Fe];rfl
 have y:FX N (θ H) (B3 env2) (BL c++(BL b).drop (θ c)) (B3 env2) (BL c):=by have:=FX.cut (N:=N) (n0:=θ H) (env:=B3 env2) (H:=BL c++(BL b).drop (θ c)) (by simp[BL,s.len]) (λt v m=>by obtain⟨p,A,e⟩:=Bp.1 m;injection e with d f;subst d f;exact iB (mO n p A)) (by rw[l];exact mP o);rwa [l]at this
 exact(x.of_le (by rw[Cd];exact k)).trans y
def wc:Exit->Exit->Bool
 |.normal,.normal=>ζ
 |.exit a,.exit b=>ξ a b
 |.ret,.ret=>ζ
 |_,_=>η
def uX{a b}(h:wc a b=ζ):a=b:=by cases a<;>cases b<;>simp only[wc]at h<;>first|rfl|cases h|exact E! _ (DH h)
structure Hint where
 kind:Nat
 key:Nat
 virt:List (Nat×Ty)
 virtC:List (Nat×Nat×Ty)
 kill:List Nat
 drop:List Nat
 slots:List PD
 exits:List (Exit×List PD)
def wF(n id:Nat):Nat:=match Nat.ble 100 id with|true=>id+n-150|false=>id
def Part.rel(n:Nat):Part->Part
 |.o id=>.o (wF n id)
 |p=>p
def PD.rel(n:Nat):PD->PD
 |.g tmp id=>.g tmp (wF n id)
 |.p id ps=>.p (wF n id) (ps.map (Part.rel n))
 |.u id ty=>.u (wF n id) ty
 |.x id=>.x (wF n id)
 |.y id st=>.y (wF n id) st
 |.m id kk ty=>.m (wF n id) kk ty
 |.w tmp id=>.w tmp (wF n id)
 |z=>z
def Hint.rel(n:Nat)(h:Hint):Hint:=⟨h.kind,h.key,h.virt,h.virtC.map λp=>(wF n p.1,p.2),h.kill.map (wF n),h.drop,h.slots.map (PD.rel n),h.exits.map λp=>(p.1,p.2.map (PD.rel n))⟩
def Hint.tmps(h:Hint):Ψ Nat:=h.drop++h.virt.map (·.1)++WQ h.slots++h.exits.flatMap λp=>WQ p.2
def xW(n:Nat):∀l:Ψ PD,WQ (l.map (PD.rel n))=WQ l
 |[]=>rfl
 |s::r=>by cases s<;>simp[WQ,PD.rel,xW n r]
def Tz(n:Nat)(h:Hint):(h.rel n).tmps=h.tmps:=by simp[Hint.tmps,Hint.rel,xW,List.flatMap_map]
def nN(kind key:Nat):Ψ Hint->Ω Hint
 |[]=>ε
 |h::r=>match ξ kind h.kind&&ξ key h.key with|true=>δ h|false=>nN kind key r
def zj:Code->Ω Nat
 |.region id _ _=>δ id
 |.seq a b=>match zj a with|some x=>δ x|none=>zj b
 |.cond _ a b=>match zj a with|some x=>δ x|none=>zj b
 |.block _ b=>zj b
 |.loop b=>zj b
 |_=>ε
def un:Code->Bool
 |.seq a _=>un a
 |.block _ b=>un b
 |.loop _=>ζ
 |_=>η
def AKF(b:Code)(r:Nat)(hs:Ψ Hint):Ω Hint:=
 match un b with
 |true=>(match nN 5 r hs with|some h=>δ h|none=>nN 0 r hs)
 |false=>nN 0 r hs
def hintOf(hs:Ψ Hint):Code->Ω Hint
 |.loop b=>match zj b with|some r=>(match nN 8 r hs with|some h=>δ h|none=>AKF b r hs)|none=>ε
 |.block id _=>nN 1 id hs
 |.cond _ a b=>match zj (.seq a b)with|some r=>nN 2 r hs|none=>ε
 |.region id _ _=>nN 6 id hs
 |_=>ε
def sK(hs:Ψ Hint)(c:Code):Ψ Nat:=
 match hintOf hs c with
 |some h=>h.tmps
 |none=>[]
def tS(hs:Ψ Hint):Code->Code->Ω Hint
 |.region id _ _,.cond _ _ _=>nN 4 id hs
 |_,_=>ε
def vX(hs:Ψ Hint)(a b:Code):Ψ Nat:=
 match tS hs a b with
 |some h=>h.tmps
 |none=>[]
def PN(hs:Ψ Hint):Code->Ψ Nat
 |.region id ops d=>pE ops.toList++sK hs (.region id ops d)
 |.seq a b=>(PN hs a++PN hs b)++vX hs a b
 |.cond c a b=>PN hs a++PN hs b++sK hs (.cond c a b)
 |.block id b=>PN hs b++sK hs (.block id b)
 |.loop b=>PN hs b++sK hs (.loop b)
 |_=>[]
def zH:TV->Bool
 |.c (.raw .any)=>ζ
 |_=>η
def AER(h:zH i=η):i≠Vv:=by rintro rfl;cases h
def yD(H:As)(id:Nat):Bool:=match H[id]? with|some (.buf η _ _ _ _)=>ζ|_=>η
def jT(A S:Ψ Nat)(H:As)(t:Nat)(v:TV):Bool:=
 match Je t A with
 |true=>η
 |false=>match zH v with
  |true=>η
  |false=>(Lq v.refs).all λid=>!(Je id S&&yD H id)
def RF(A S:Ψ Nat)(H:As):Bi->Bi
 |[]=>[]
 |(t,v)::r=>match jT A S H t v with|true=>(t,v)::RF A S H r|false=>RF A S H r
def rH:Bi->Bool
 |[]=>ζ
 |(t,_)::r=>!Je t (r.map (·.1))&&rH r
theorem Wt(h:N∉d):Je N d=η:=by
 cases a:Je N d with
 |false=>rfl
 |true=>induction d<;>grind[Je,Nat.eq_of_beq_eq_true]
def ae:∀{env},rH env=ζ->(env.map (·.1)).Nodup
 |[],_=>Q7
 |(t,v)::r,h=>by simp only[rH,BZ,Wa]at h;exact G1.2 ⟨Uu h.1,ae h.2⟩
theorem mK{A S}{H}:∀{env:Bi},(env.map (·.1)).Nodup->∀t,jT A S H t (env.get t)=ζ->(RF A S H env).get t=env.get t
 |[],_,t,_=>rfl
 |(u,v)::r,nd,t,h=>by have a:=G1.1 nd;simp only[Bi.get]at h⊢;by_cases b:u=t;grind[Nat.beq_refl,RF,Bi.get];rw[beq_false b]at h⊢;have c:=mK a.2 t h;grind[RF,Bi.get,beq_false]
theorem Ro{A S:Ψ Nat}{H:As}:∀{env:Bi},(env.map (·.1)).Nodup->∀p∈RF A S H env,env.get p.1=p.2/\jT A S H p.1 p.2=ζ/\p∈env
 |(u,v)::r,nd,p,h=>by
  have a:=G1.1 nd;have tail:p∈RF A S H r->Bi.get ((u,v)::r) p.1=p.2/\jT A S H p.1 p.2=ζ/\p∈(u,v)::r:=λh=>by obtain⟨q1,q2,q3⟩:=Ro a.2 p h;grind[Bi.get,beq_false]
  grind[RF,Bi.get,Nat.beq_refl]
theorem AHM(H:As):LpS (Kt d 0 H) H:=by intro id c ro F n env S a b s h;rw[Jc,h];split;grind;exact⟨_,_,rfl⟩
theorem AFC(H:As):LpS H (Kt d 0 H):=by
 intro id S ro F n env f a b s h;rw[Jc]at h;cases c:H[id]? with
 |none=>grind
 |some e=>
  rw[c]at h;simp at h;split at h;grind;cases e with
  |lp=>injection h with _ q2 q3 q4 q5 q6 q7 _;grind
  |_=>cases h
def oO{id a n}{t}:∀{b:Ψ Bw},Bw.own id a t n∈b->id∈Lq b
 |x::r,h=>by rcases Av.1 h with rfl|h;exact JV;have:=oO h;cases x<;>simp only[Lq]<;>first|exact this|exact Ca _ this
def zw(h:jT d k c N i=ζ)(m:i.ok c)(st:CL (Kt k 0 c) L):pZ L i:=by
 intro id o r n g;unfold jT at h;split at h;cases h;split at h;cases h;have b:=GK.1 h id (oO g);have H:id<θ c:=(m _ g).1;refine st.nb id (by rw[Io];exact H) λq l p t a=>?_;rw[Jc,DY]at a;cases A:c[id]? with
 |none=>rw[A]at a;cases a
 |some e=>rw[A]at a;simp only[Bu,Ar]at a;split at a;rename_i S;subst a;simp only[S,yD,A]at b;cases b;cases e<;>simp only[Dx.lock]at a<;>first|cases a|(injection a with j;cases j)
theorem AFA(g:Je N d=η)(t:zH i=η)(j:pZ c i):jT d k c N i=ζ:=by
 unfold jT;rw[g,t];refine GK.2 λid e=>?_;have:∃H f n,Bw.own id H f n∈i.refs:=by
  generalize i.refs=cs at e;induction cs with
  |nil=>cases e
  |cons x r m=>
   cases x with
   |own l H f n=>grind[Lq]
   |_=>obtain⟨a,b,A,h⟩:=m e;grind
 obtain⟨H,f,n,S⟩:=this;have:=j id H f n S;grind[yD]
def AJI:Ψ Part->Ψ Nat
 |[]=>[]
 |.o id::r=>id::AJI r
 |_::r=>AJI r
def nU(env:Bi)(H:As):Ψ PD->Ψ Nat
 |[]=>[]
 |.t tmp _::r=>Lq (env.get tmp).refs++nU env H r
 |.p id ps::r=>(match H[id]? with|some (.live _ cs)=>(Lq cs).filter λi=>!Je i (AJI ps)|_=>[])++nU env H r
 |_::r=>nU env H r
def zS(sl:Ψ PD)(env:Bi)(H:As):Ω (DL (fY sl)):=
 match Ir (nU env H sl) env H with
 |(e,h)=>match Y3 e h sl with|some ds=>ABT (fY sl) ds|none=>ε
def yR:Ψ (Exit×Ψ PD)->Type
 |[]=>Unit
 |[p]=>DL (fY p.2)
 |p::q::r=>DL (fY p.2)⊕yR (q::r)
def ABZ:(xs:Ψ (Exit×Ψ PD))->Exit->Bi->As->Ω (yR xs)
 |[],_,_,_=>ε
 |[p],x,env,H=>match wc p.1 x with|true=>zS p.2 env H|false=>ε
 |p::q::r,x,env,H=>
  match wc p.1 x with
  |true=>(match zS p.2 env H with|some s=>δ (.inl s)|none=>ε)
  |false=>(match ABZ (q::r) x env H with|some s=>δ (.inr s)|none=>ε)
def AJP{R:Type}:(xs:Ψ (Exit×Ψ PD))->yR xs->(Exit->Ψ PD->Ψ DV->Ω R)->Ω R
 |[],_,_=>ε
 |[p],s,k=>k p.1 p.2 (dvs (fY p.2) s)
 |p::q::r,o,k=>ν (λs=>k p.1 p.2 (dvs (fY p.2) s)) (AJP (q::r) · k) o
def yS:(xs:Ψ (Exit×Ψ PD))->yR xs->Exit×Ψ PD×Ψ DV
 |[],_=>(.normal,[],[])
 |[p],s=>(p.1,p.2,dvs (fY p.2) s)
 |p::q::r,.inl s=>(p.1,p.2,dvs (fY p.2) s)
 |p::q::r,.inr s=>yS (q::r) s
def xH{R:Type}:∀{xs}{o}{k}{r:R},AJP xs o k=δ r->k (yS xs o).1 (yS xs o).2.1 (yS xs o).2.2=δ r
 |[],_,_,_,h=>by cases h
 |[p],s,k,r,h=>h
 |p::q::t,.inl s,k,r,h=>h
 |p::q::t,.inr s,k,r,h=>xH (xs:=q::t) h
def AGM(sl:Ψ PD)(ds:Ψ DV)(env:Bi)(H:As):Prop:=Y3 (Ir (nU env H sl) env H).1 (Ir (nU env H sl) env H).2 sl=δ ds
theorem oB{s:DL (fY F)}(h:zS F j c=δ s):AGM F (dvs (fY F) s) j c:=by grind[zS,AGM,rG]
def xI:∀{xs}{x}{env}{H}{o:yR xs},ABZ xs x env H=δ o→
  (yS xs o).1=x/\AGM (yS xs o).2.1 (yS xs o).2.2 env H/\∃p∈xs,(yS xs o).2.1=p.2
 |[p],x,env,H,o,h=>by simp only[ABZ]at h;split at h;rename_i a;exact⟨uX a,oB h,p,q!,rfl⟩;cases h
 |p::q::r,x,env,H,o,h=>by simp only[ABZ]at h;split at h;rename_i a;split at h;rename_i s b;injection h with h;subst h;exact⟨uX a,oB b,p,q!,rfl⟩;cases h;split at h;rename_i s b;injection h with h;subst h;obtain⟨q1,q2,c,q3,q4⟩:=xI (xs:=q::r) b;exact⟨q1,q2,c,Ca _ q3,q4⟩;cases h
structure AAs(A S:List Nat)(env0:Bi)(H0:As)(e2:Bi)(h2:As):Prop where
 ok:OL e2 h2
 step:CL (Kt S 0 H0) h2
 len:h2.length=H0.length
 same:∀j,Je j S=false->h2[j]?=(Kt S 0 H0)[j]?
 get:∀p∈RF A S H0 env0,e2.get p.1=p.2
theorem ACC{A B S:List Nat}{env0:Bi}{a:As}{L:Bi}{s:As}(m:OL env0 a)(nd:(env0.map (·.1)).Nodup)(g:AAs A S env0 a L s)
  {env1:Bi} {d:As} (G:OL env1 d) (st:EG B L s env1 d) (U: ∀t,t∈B->t∈A) {o:List PD} {K:List DV} (W:AGM o K env1 d)
  {Hx:As} (J: ∀e∈Hx,e.ok Hx) (y:Hx.length=a.length) (F:LpS Hx (Kt S 0 a)) (rx: ∀id c t n,TY a id c t n->TY Hx id c t n) (E: ∀(j:Nat) (i:Dx),Je j (Ls o)=false->Hx[j]? =some i->i= .dead\/ ∃e,Je j S=false/\(Kt S 0 a)[j]? =some e/\e.ro=true/\AIn e i)
  {r:Bi} {f:As} (Y:Ws o K (RF A S a env0) Hx=some (r,f)) (ce:vp a.length r=true) (ch:mw a.length f=true) (N:Nat):
  FX N a.length (B3 env1) (BL d) (B3 r) (BL f)/\ ∃P V,IS P V o (RF A S a env0) Hx r f:=by
 obtain⟨I,z,wf⟩:=Rt (nU env1 d o) G;have u:a.length<=d.length:=by rw[<-g.len];exact st.step.len
 have b:=EG.trans g.ok.env st z;have H: ∀p∈RF A S a env0,p.2.ok Hx:=λp v x E=>by
  have:=m.env p (Ro nd p v).2.2 x E;cases x with
  |own id c t n=>exact rx _ _ _ _ this
  |_=>trivial
 have q:=Mx I W Y ⟨H,J⟩ (by rw[y];exact Cq u z.step.len) (λp v=>by
  obtain⟨b1,M,O⟩:=Ro nd p v;have hk:=zw M (m.env p O) g.step;have T:Je p.1 A=false:=by grind[jT]
  have k:zH p.2=false:=by grind[jT]
  have X:=g.get p v;have:=b.same p.1 (λh=>by rw[DT]at h;exact Uu T (U _ h)) k!;rw[X]at this;exact⟨p.2,Zi this (AER k),Xc.refl _⟩) (λj i Z C=>by
   have D:j<a.length:=k!
   rcases E j i Z C with rfl|⟨e,Q,s,f,R⟩;exact⟨_,Au (DM D (Cq u z.step.len)),.inl rfl⟩;exact⟨e,b.step.ro j e (by rw[g.same j Q];exact s) f,R⟩) (λid l _ _ _ _ _ _ _ _ hq=>by
  obtain⟨ad,s1,q1⟩:=(g.step.trans b.step).lp id (by rw[Io,<-y];exact l) _ _ _ _ _ _ _ _ hq;exact F id l _ _ _ _ _ _ _ _ q1)
 have w:=q.weak (N:=N) (by rw[y];exact Cq u z.step.len) k! k!;rw[y]at w;exact⟨((wf N).of_le (by rw[Cd];exact u)).trans w,_,_,q⟩
open Classical in
noncomputable def vO{α:Type}(g:Ψ α->Unit->Ω (Ψ α))(l:Ψ α):Ω (Ψ α):=if∀m,l.Perm m->g m ()=g l ()then g l ()else ε
theorem ABd{g:Ψ R->Unit->Ω (Ψ R)}{l s:Ψ R}(h:vO g l=δ s):∀m,l.Perm m->g m ()=δ s:=by grind[vO]
def yU:Ψ Oper->Ω (Nat×Nat×Nat×TypeId×TypeId)
 |[⟨δ a1,.load ty1 (.tmp c0),_,_,_,ε⟩,⟨δ a2,.range ty2 (.tmp b1),_,_,_,ε⟩]=>match ξ a1 b1 with|true=>δ (c0,a1,a2,ty1,ty2)|false=>ε
 |_=>ε
def vJ:Ψ Oper->Ω (Nat×Nat×Nat)
 |[⟨δ a3,.next (.tmp a2) η,_,_,_,ε⟩,⟨δ a4,.extract (.tmp b3) 0,_,_,_,ε⟩]=>match ξ a3 b3 with|true=>δ (a2,a3,a4)|false=>ε
 |_=>ε
def vK:Ψ Oper->Ω (Nat×Nat×Nat×Nat×TypeId×TypeId)
 |[⟨δ a5,.entry (.tmp a2),_,_,_,ε⟩,⟨δ a6,.extract (.tmp b5) 1,_,_,_,ε⟩,⟨δ a7,.alloc te1,_,_,_,ε⟩,⟨ε,.store te2 (.tmp b7) (.tmp b6),_,_,_,ε⟩]=>
  match ξ a5 b5&&(ξ a6 b6&&ξ a7 b7)with|true=>δ (a2,a5,a6,a7,te1,te2)|false=>ε
 |_=>ε
def vL:Ψ Oper->Ω (Nat×Nat×Nat×Nat×Nat×Nat×TypeId×TypeId×TypeId)
 |[⟨δ a8,.move (.tmp out),_,_,_,ε⟩,⟨δ a9,.load te3 (.tmp a7),_,_,_,ε⟩,⟨δ a10,.buildSlice ts1 1 ⟨[(0,.tmp b9)]⟩,_,_,_,ε⟩,
   ⟨δ a11,.call {callee:=.builtin .append,args:=⟨[.tmp b8,.tmp b10]⟩,argTypes:=⟨[ts2,ts3]⟩},_,_,_,ε⟩,⟨δ out2,.assign (.tmp b11),_,_,_,ε⟩]=>
  match ξ a8 b8&&(ξ a9 b9&&(ξ a10 b10&&(ξ a11 b11&&(ξ out out2&&ξ ts2 ts3))))with|true=>δ (out,a7,a8,a9,a10,a11,te3,ts1,ts2)|false=>ε
 |_=>ε
def yV:Ψ Oper->Ω (Nat×Nat×Nat×FuncId×FuncId)
 |[⟨δ a12,.move (.tmp out),_,_,_,ε⟩,⟨δ a13,.call {callee:=.value (.func F),args:=⟨[.tmp b12,.func G]⟩,.. },_,_,_,ε⟩]=>match ξ a12 b12 with|true=>δ (out,a12,a13,F,G)|false=>ε
 |_=>ε
def sR(h:yU v=δ (N,n,W,b,V)):
  ∃e c a f d l,v=[⟨δ n,.load b (.tmp N),e,c,a,ε⟩,⟨δ W,.range V (.tmp n),f,d,l,ε⟩]:=by
 unfold yU at h;split at h;split at h<;>simp_all;cases h
def sS(h:vJ v=δ (N,n,W)):
  ∃e c a f d b,v=[⟨δ n,.next (.tmp N) η,e,c,a,ε⟩,⟨δ W,.extract (.tmp n) 0,f,d,b,ε⟩]:=by
 unfold vJ at h;split at h;split at h<;>simp_all;cases h
def sT{a7:Nat}(h:vK v=δ (N,n,W,a7,b,V)):
  ∃j e a k f l m g c o i d,v=[⟨δ n,.entry (.tmp N),j,e,a,ε⟩,⟨δ W,.extract (.tmp n) 1,k,f,l,ε⟩,⟨δ a7,.alloc b,m,g,c,ε⟩,⟨ε,.store V (.tmp a7) (.tmp W),o,i,d,ε⟩]:=by
 unfold vK at h;split at h;split at h<;>simp_all;cases h
def sU{a9 a10 a11:Nat}(h:vL v=δ (N,n,W,a9,a10,a11,b,V,Q)):
  ∃m f a r g l o i c p j d q k e,v=[⟨δ W,.move (.tmp N),m,f,a,ε⟩,⟨δ a9,.load b (.tmp n),r,g,l,ε⟩,⟨δ a10,.buildSlice V 1 #[(0,.tmp a9)],o,i,c,ε⟩,⟨δ a11,.call {callee:=.builtin .append,args:= #[.tmp W,.tmp a10],argTypes:= #[Q,Q]},p,j,d,ε⟩,⟨δ N,.assign (.tmp a11),q,k,e,ε⟩]:=by
 unfold vL at h;split at h;split at h<;>simp_all;cases h
def sV{G:FuncId}(h:yV v=δ (N,n,W,S,G)):
  ∃f d b a g e c,v=[⟨δ n,.move (.tmp N),f,d,b,ε⟩,⟨δ W,.call {callee:=.value (.func S),args:= #[.tmp n,.func G],argTypes:=a},g,e,c,ε⟩]:=by
 unfold yV at h;split at h;split at h<;>simp_all;cases h
structure Yl where
 c0:Nat
 a1:Nat
 a2:Nat
 a3:Nat
 a4:Nat
 a5:Nat
 a6:Nat
 a7:Nat
 a8:Nat
 a9:Nat
 a10:Nat
 a11:Nat
 a12:Nat
 a13:Nat
 out:Nat
 ty1:TypeId
 ty2:TypeId
 te1:TypeId
 te2:TypeId
 te3:TypeId
 ts1:TypeId
 ts2:TypeId
 F:FuncId
 G:FuncId
def yO:Ψ Nat->Bool
 |[]=>ζ
 |t::r=>!Je t r&&yO r
def sP:∀{l},yO l=ζ->l.Nodup
 |[],_=>Q7
 |t::r,h=>by simp only[yO,BZ,Wa]at h;exact G1.2 ⟨Uu h.1,sP h.2⟩
def pA:Code->Code->Ω Yl
 |.seq (.region _ o1 η) (.block b1 (.loop (.seq (.region _ o2 η) (.seq (.cond (.tmp x4) .skip (.exit b2)) (.block _ (.seq (.region _ o3 η) (.region _ o4 η))))))),.region _ o5 η=>
  match yU o1.toList,vJ o2.toList,vK o3.toList,vL o4.toList,yV o5.toList with
  |some (c0,a1,a2,ty1,ty2),δ (x2,a3,a4),δ (y2,a5,a6,a7,te1,te2),δ (out,x7,a8,a9,a10,a11,te3,ts1,ts2),δ (out2,a12,a13,F,G)=>
   match (ξ b1 b2&&(ξ a4 x4&&(ξ a2 x2&&(ξ a2 y2&&(ξ a7 x7&&ξ out out2)))))&&yO [out,a1,a2,a3,a4,a5,a6,a7,a8,a9,a10,a11,a12,a13]with
   |true=>δ ⟨c0,a1,a2,a3,a4,a5,a6,a7,a8,a9,a10,a11,a12,a13,out,ty1,ty2,te1,te2,te3,ts1,ts2,F,G⟩
   |false=>ε
  |_,_,_,_,_=>ε
 |_,_=>ε
def Yl.tmps(p:Yl):Ψ Nat:=[p.out,p.a1,p.a2,p.a3,p.a4,p.a5,p.a6,p.a7,p.a8,p.a9,p.a10,p.a11,p.a12,p.a13]
def aV(A:Ψ Nat):Bi->Bi
 |[]=>[]
 |(t,v)::r=>match Je t A with|true=>aV A r|false=>(t,v)::aV A r
def Wl{A:Ψ Nat}:∀{env}{q:Nat×TV},q∈aV A env->q∈env/\q.1∉A
 |[],_,h=>by cases h
 |(t,v)::r,q,h=>by simp only[aV]at h;split at h;exact⟨Ca _ (Wl h).1,(Wl h).2⟩;rename_i a;rcases Av.1 h with rfl|h;exact⟨JV,Uu a⟩;exact⟨Ca _ (Wl h).1,(Wl h).2⟩
theorem qd{A:Ψ Nat}{u:Nat}(a:u∉A):∀env:Bi,(aV A env).get u=env.get u
 |[]=>rfl
 |(t,v)::r=>by
  simp only[aV,Bi.get];split;rename_i b;have:t≠u:=λe=>by grind[Wt]
  rw[beq_false this];exact qd a r;simp[Bi.get,qd a r]
noncomputable def AEg(P:Program)(N:Nat)(cs:Ψ Qd)(p:Yl)(env:Bi)(H:As){R:Type}(k:Bi->As->Ω R):Ω R:=
 match env.get p.c0,env.get p.out with
 |.c (.raw (.ptr c 0 0)),.c .nil=>
  match H[c]? with
  |some (.live _ [.raw (.mp id)])=>
   match H[id]?,wj cs p.F,Enters P p.F with
   |some (.mp _ kk ty es),δ (.c2 _ te [] [] [.fn (.func G) [] []] g),ζ=>
    if h:(Ty.list ty).beq (Ty.list te)=ζ then
     match tI P p.ty1,P.underlying p.ty2,tI P p.te2,tI P p.te3,Zk P p.te1,eI P p.ts1,eI P p.ts2 with
     |some (η,_),δ (.map kt _),δ (_,n2),δ (tr3,n3),δ z,δ (ε,e1,s1),δ (ε,e2,s2)=>
      match (ξ G p.G&&(te.isAgg&&(ξ n2 te.sz&&(tr3&&(ξ n3 te.sz&&(ξ (θ z) te.sz&&(ξ s1 te.sz&&(ξ s2 te.sz&&(Sq P e1&&(Sq P e2&&Nat.ble te.sz 4096))))))))))&&
        ((match P.underlying kt with|some (.int k2)=>decide (k2=kk)|_=>η)&&(vp (θ H) (aV p.tmps env)&&(mw (θ H) H&&p.tmps.all λt=>Nat.blt t N)))with
      |true=>cond (τ (((θ es:Nat):Int)≤16777216))
        ((vO g (Ty.cast h (es.map (·.2)))).bind λs=>cond (ξ (θ s) (θ es)) (k ((p.out,.c (.own (θ H) 0 te (θ s)))::aV p.tmps env) (H++[.buf η te s (θ s) 0,.dead])) ε) ε
      |false=>ε
     |_,_,_,_,_,_,_=>ε
    else ε
   |_,_,_=>ε
  |_=>ε
 |_,_=>ε
theorem FJ{d:Nat×Ad}{v:Ad}(h:d∈q)(a:d.1≠N):d∈q.put N v:=Ca _ (BR.2 ⟨h,k!⟩)
def yh:(N,u)∈q.put N u:=JV
def pW{v:Ad}:Env.get ((N,v)::q) N=v:=C! rfl
def zl{v:Ad}(h:N≠n):Env.get ((N,v)::q) n=q.get n:=D! h
def jW(vals:Ψ R)(seen:Ψ Nat):Ψ R:=seen.filterMap (vals[·]?)
theorem ABt{a:Ψ R}{x:R}(h:a[N]?=δ x):jW a (d++[N])=jW a d++[x]:=by grind[jW]
theorem AAT{b:Type}:∀a:Ψ b,(List.range (θ a)).filterMap (a[·]?)=a
 |[]=>rfl
 |x::r=>by
  rw[Bh,List.range_succ_eq_map,List.filterMap_cons];simp;have:((λi=>(x::r)[i]?)∘Nat.succ)=(r[·]?):=k!
  rw[this,AAT r]
def ABs{a:Ψ R}(hn:d.Nodup)(c:∀j∈d,j<θ a)(b:∀j,j<θ a->j∈d):a.Perm (jW a d):=by have:=((na List.nodup_range hn).2 λj=>⟨λh=>b j (IJ.1 h),λh=>IJ.2 (c j h)⟩).filterMap (a[·]?);rwa [AAT]at this
section
variable {P:Program}{N:Nat}{env:Env}{H:Aw}{Q:Env->Aw->Prop}{ops:Array Oper}
def Xd.nil(h:Q env H):Xd P N ops [] env H Q:=⟨_,_,FX.refl _ _ _,h⟩
def Xd.cons(b:o.guard=ε)(h:Jw P N o env H λc a=>Xd P N ops v (env.putO o.dst c) a Q):Xd P N ops (o::v) env H Q:=by refine⟨_,_,FX.refl _ _ _,?_⟩;rw[b];exact h
end
section
variable {P:Program}{N:Nat}
theorem xr(t:Ty)(l:Ψ t.D):∀v∈t.E.cl l,Pure v:=by intro v a;have⟨u,b,a⟩:=G0.1 a;obtain⟨y,_,rfl⟩:=Bp.1 b;exact Vj (t.enc_pure y) v a
theorem AFe(h:Pure u)(p:Nat->Bool):u.idsAll p=ζ:=Rh (λ_ h=>by cases h) u h
theorem AEu{p q:Nat->Bool}(h:∀id,p id=ζ->q id=ζ)(e:Ft)(k:e.idsAll p=ζ):e.idsAll q=ζ:=by cases e<;>grind[Ju,Ft.idsAll,List.all_eq_true,Rh]
theorem AI1(t:Ty)(g:Nat)(l:Ψ t.D)(p:Nat->Bool):(Ft.live g (t.E.cl l)).idsAll p=ζ:=by grind[Ft.idsAll,Dv,AFe,xr]
theorem flt{a:Type}(p q:a->Bool)(b:∀x,q x=ζ->p x=ζ)(e:a)(d:p e=ζ)(f:q e=η):∀l:Ψ a,e∈l->(l.filter q).length<(l.filter p).length
 |x::l,he=>by
  have c:∀l:Ψ a,(l.filter q).length<=(l.filter p).length:=by intro l;induction l<;>grind
  rcases Av.1 he with rfl|h;grind;have:=flt p q b e d f l h;grind
theorem AIO(h:d.Nodup){i j a b:Nat}(l:d[i]?=δ a)(e:d[j]?=δ b)(c:i≠j):a≠b:=by grind[List.getElem?_inj]
def ADE{te:Ty}{kk:IntKind}{es:Ψ (Int×te.D)}{Hb:Aw}{base:Env}{id a2 a3 a4 a5 a6 a7 a8 a9 a10 a11 out:Nat}{b1 b2:Nat}{i2 i3 i4:Nat}{o2 o3 o4:Array Oper}{te1 te2 te3 ts1 ts2:TypeId}{z:Ψ Ad}{e1 e2:TypeId}{bb:Bool}
  (h2:vJ o2.toList=δ (a2,a3,a4)) (h3:vK o3.toList=δ (a2,a5,a6,a7,te1,te2)) (h4:vL o4.toList=δ (out,a7,a8,a9,a10,a11,te3,ts1,ts2))
  (bG:[out,a2,a3,a4,a5,a6,a7,a8,a9,a10,a11].Nodup) (hN:∀t∈[out,a2,a3,a4,a5,a6,a7,a8,a9,a10,a11],t<N) (hb:∀q∈base,q.1∉ [out,a2,a3,a4,a5,a6,a7,a8,a9,a10,a11])
  (ax:∀q∈base,(q.2.idsAll λj=>decide (j<θ Hb))=ζ) (ap:∀e∈Hb,(e.idsAll λj=>decide (j<θ Hb))=ζ)
  (he:Hb[id]?=δ (.mp kk (es.map λp=>(p.1,te.enc p.2)))) (ar:te.isAgg=ζ) (hz:Zk P te1=δ z) (Z:θ z=te.sz) (b4:tI P te2=δ (bb,te.sz)) (b5:tI P te3=δ (ζ,te.sz))
  (bN:eI P ts1=δ (ε,e1,te.sz)) (b0:eI P ts2=δ (ε,e2,te.sz)) (bt:Sq P e1=ζ) (bz:Sq P e2=ζ) (b3:te.sz<=4096) (b6:θ es<=16777216):
  ∀(n:Nat)(seen:Ψ Nat),seen.Nodup->(∀j∈seen,j<θ es)->((List.range (θ es)).filter λj=>! τ (j∈seen)).length<=n->(jW (es.map (·.2)) seen).length+((List.range (θ es)).filter λj=>! τ (j∈seen)).length<=θ es->
   IH P N (.seq (.region i2 o2 η) (.seq (.cond (.tmp a4) .skip (.exit b1)) (.block b2 (.seq (.region i3 o3 η) (.region i4 o4 η)))))
    ((out,.sl (θ Hb) (jW (es.map (·.2)) seen).length te.sz 0 (jW (es.map (·.2)) seen).length)::(a2,.itp (θ Hb+1) id)::base)
    (Hb++[.live (jW (es.map (·.2)) seen).length (te.E.cl (jW (es.map (·.2)) seen)),.it (θ es) seen])
    λe E h=>e=.exit b1/\∃s,(es.map (·.2)).Perm s/\(∀q∈(out,Ad.sl (θ Hb) (θ s) te.sz 0 (θ s))::base,q∈E)/\θ h=θ Hb+2/\(∀j,j<θ Hb->h[j]?=Hb[j]?)/\h[θ Hb]?=δ (.live (θ s) (te.E.cl s)):=by
 obtain⟨t1,p1,x1,t2,p2,x2,l2⟩:=sS h2;obtain⟨t3,p3,x3,t4,p4,x4,t5,p5,x5,t6,p6,x6,l3⟩:=sT h3;obtain⟨t7,p7,x7,t8,p8,x8,t9,p9,x9,b9,b7,ca,b',b8,cb,l4⟩:=sU h4;have D:=λ(i j a b:Nat)=>AIO (i:=i) (j:=j) (a:=a) (b:=b) bG;simp only[Av,List.not_mem_nil,or_false,forall_eq_or_imp,forall_eq]at hN;have d2:PW N o2.toList=ζ:=by rw[l2];simp[PW,hN]
 have d3:PW N o3.toList=ζ:=by rw[l3];simp[PW,hN]
 have d4:PW N o4.toList=ζ:=by rw[l4];simp[PW,hN]
 have a0:id<θ Hb:=by rcases Az id (θ Hb) with h|h;exact h;rw[Ct h]at he;cases he
 have s0:∀(A B C:Ft),(Hb++[A,B]).set (θ Hb+1) C=Hb++[A,C]:=λA B C=>by rw[To _ _ o!,show θ Hb+1-θ Hb=1 by omega];rfl
 have s1:∀(A B C D:Ft),(Hb++[A,B,C]).set (θ Hb+2) D=Hb++[A,B,D]:=λA B C D=>by rw[To _ _ o!,show θ Hb+2-θ Hb=2 by omega];rfl
 have s2:∀(A B C D:Ft),(Hb++[A,B,C]).set (θ Hb) D=Hb++[D,B,C]:=λA B C D=>by rw[To _ _ (Al _),G2];rfl
 have g0:∀(A:Ft)(r:Ψ Ft),(Hb++A::r)[θ Hb]?=δ A:=λA r=>by rw[Cn (Al _),G2];rfl
 have g1:∀(A B:Ft)(r:Ψ Ft),(Hb++A::B::r)[θ Hb+1]?=δ B:=λA B r=>by rw[Cn o!,show θ Hb+1-θ Hb=1 by omega];rfl
 have g2:∀(A B C:Ft)(r:Ψ Ft),(Hb++A::B::C::r)[θ Hb+2]?=δ C:=λA B C r=>by rw[Cn o!,show θ Hb+2-θ Hb=2 by omega];rfl
 have gm:∀(r:Ψ Ft),(Hb++r)[id]?=δ (.mp kk (es.map λp=>(p.1,te.enc p.2))):=λr=>by rw[CZ a0];exact he
 have Y:(es.map (·.2)).length=θ es:=Ba _;have J:0<te.sz:=te.sz_pos;intro n;induction n using Nat.strongRecOn with
 |ind n ih=>
  intro seen hn hl hr hm;obtain⟨L,hL⟩:∃L,L=jW (es.map (·.2)) seen:=⟨_,rfl⟩
  rw[<-hL]at hm⊢;refine IH.unroll (J9.seq (Fx d2 ?_));rw[l2];apply Xd.cons rfl;have d:(es.map λp=>(p.1,te.enc p.2)).length=θ es:=Ba _;have ad:out≠a2:=D 0 1 _ _ rfl rfl g!;refine Jw.next (x:=.tmp a2) (id:=θ Hb+1) (m:=id) (k:=kk) (es:=es.map λp=>(p.1,te.enc p.2)) (seen:=seen) rfl ?_ ?_ (gm _) ?_ ?_
  show Env.get _ a2=_;rw[zl ad,pW];rw[d];exact g1 _ _ _;intro G;refine Xd.cons rfl (Du (v:=.bool η) ?_ (Xd.nil ?_));show Ci _ _ _ (.extract (.tmp a3) 0)=_;simp only[Ci,BS,Env.putO,GQ,if_true];rfl;refine J9.seq (J9.cond (b:=η) ?_ (λh=>by cases h) (λ_=>J9.exit ?_));simp only[BS,Env.putO,GQ,if_true];refine⟨rfl,L,?_,λq o=>?_,q!,λj hj=>CZ hj,g0 _ _⟩;rw[hL];exact ABs hn (by rw[Y];exact hl) (by rw[Y];rw[d]at G;exact G);have al:out≠a3:=D 0 2 _ _ rfl rfl g!;have ao:out≠a4:=D 0 3 _ _ rfl rfl g!;rcases Av.1 o with rfl|o;exact FJ (FJ JV al) ao;have:=hb q o;simp only[Av,not_or]at this;exact FJ (FJ (Ca _ (Ca _ o)) this.2.2.1) this.2.2.2.1;intro j p hj S;rw[CT]at hj;obtain⟨q,o,e⟩:=Tr.1 hj;subst e;rw[d,s0];refine Xd.cons rfl (Du (v:=.bool ζ) ?_ (Xd.nil ?_));show Ci _ _ _ (.extract (.tmp a3) 0)=_;simp only[Ci,BS,Env.putO,GQ,if_true];rfl;have k2:∀m v w,Env.get (Env.put (Env.put ((out,Ad.sl (θ Hb) m te.sz 0 m)::(a2,Ad.itp (θ Hb+1) id)::base) a3 v) a4 w) a2=.itp (θ Hb+1) id:=λm v w=>by rw[GQ,D! (D 1 3 _ _ rfl rfl g!),GQ,D! (D 1 2 _ _ rfl rfl g!),zl ad,pW]
  have ko:∀m v w,Env.get (Env.put (Env.put ((out,Ad.sl (θ Hb) m te.sz 0 m)::(a2,Ad.itp (θ Hb+1) id)::base) a3 v) a4 w) out=.sl (θ Hb) m te.sz 0 m:=λm v w=>by rw[GQ,D! (D 0 3 _ _ rfl rfl g!),GQ,D! (D 0 2 _ _ rfl rfl g!),pW]
  have kb:∀m v w,∀q∈base,q∈Env.put (Env.put ((out,Ad.sl (θ Hb) m te.sz 0 m)::(a2,Ad.itp (θ Hb+1) id)::base) a3 v) a4 w:=λm v w q o=>by have:=hb q o;simp only[Av,not_or]at this;exact FJ (FJ (Ca _ (Ca _ o)) this.2.2.1) this.2.2.2.1
  have ki:∀m v w,(a2,Ad.itp (θ Hb+1) id)∈Env.put (Env.put ((out,Ad.sl (θ Hb) m te.sz 0 m)::(a2,Ad.itp (θ Hb+1) id)::base) a3 v) a4 w:=λm v w=>FJ (FJ (Ca _ JV) (D 1 2 _ _ rfl rfl g!)) (D 1 3 _ _ rfl rfl g!);refine J9.seq (J9.cond (b:=ζ) ?_ (λ_=>J9.skip ?_) (λh=>by cases h));simp only[BS,Env.putO,GQ,if_true];dsimp only[fb];refine J9.block (J9.seq (Fx d3 ?_));rw[l3];generalize K:Env.putO (Env.putO ((out,Ad.sl (θ Hb) (θ L) te.sz 0 (θ L))::(a2,Ad.itp (θ Hb+1) id)::base) (δ a3) (.tup [.bool ζ,.int kk q.1,te.enc q.2])) (δ a4) (.bool ζ)=E;have k2:Env.get E a2=.itp (θ Hb+1) id:=by rw[<-K];exact k2 _ _ _
  have ko:Env.get E out=.sl (θ Hb) (θ L) te.sz 0 (θ L):=by rw[<-K];exact ko _ _ _
  have kb:∀q∈base,q∈E:=by rw[<-K];exact kb _ _ _
  have ki:(a2,Ad.itp (θ Hb+1) id)∈E:=by rw[<-K];exact ki _ _ _
  clear K;refine Xd.cons rfl (Jw.entry (x:=.tmp a2) (id:=θ Hb+1) (m:=id) (j:=j) (k:=kk) (es:=es.map λp=>(p.1,te.enc p.2)) (seen:=seen) (p:=(q.1,te.enc q.2)) rfl k2 ?_ (gm _) (by rw[CT,o];rfl) ?_);rw[d];exact g1 _ _ _;have f:te.enc q.2=.agg (te.enc q.2).cells:=Ty.agg_enc ar q.2;have l:(te.enc q.2).cells.length=te.sz:=te.enc_len q.2;have U:(te.enc q.2).solid=ζ:=by rw[f];rfl
  refine Xd.cons rfl (Du (v:=te.enc q.2) ?_ (Xd.cons rfl (Jw.alloc rfl hz ?_)));show Ci _ _ _ (.extract (.tmp a5) 1)=_;simp only[Ci,BS,Env.putO,GQ,if_true];rfl;have a1:(Hb++[Ft.live (θ L) (te.E.cl L),Ft.it (θ es) (seen++[j])]).length=θ Hb+2:=q!
  rw[a1,A2];show Xd P N o3 _ _ (Hb++[Ft.live (θ L) (te.E.cl L),Ft.it (θ es) (seen++[j]),Ft.live 0 z]) _;refine Xd.cons rfl (Jw.store (id:=θ Hb+2) (g:=0) (off:=0) (v:=te.enc q.2) (cs:=z) (b:=bb) rfl ?_ ?_ U (g2 _ _ _ _) (by rw[l];exact b4) (by rw[l,Z];omega) (Xd.nil ?_));simp only[BS,Env.putO,GQ,if_true];simp only[BS,Env.putO,GQ];rw[D! (D 5 6 _ _ rfl rfl g!),C! trivial];have T:XV z 0 (te.enc q.2).cells=(te.enc q.2).cells:=by unfold XV;rw[List.take_zero,B7,l,<-Z,DY,List.drop_length,DT]
  rw[T,s1];simp only[Env.putO];generalize F:Env.put (Env.put (Env.put E a5 (.tup [.int kk q.1,te.enc q.2])) a6 (te.enc q.2)) a7 (.ptr (θ Hb+2) 0 0)=E1;have j7:Env.get E1 a7=.ptr (θ Hb+2) 0 0:=by rw[<-F,GQ,C! rfl]
  have jo:Env.get E1 out=.sl (θ Hb) (θ L) te.sz 0 (θ L):=by rw[<-F,GQ,D! (D 0 6 _ _ rfl rfl g!),GQ,D! (D 0 5 _ _ rfl rfl g!),GQ,D! (D 0 4 _ _ rfl rfl g!),ko]
  have jb:∀q∈base,q∈E1:=λu I=>by have:=hb u I;simp only[Av,not_or]at this;rw[<-F];exact FJ (FJ (FJ (kb u I) this.2.2.2.2.1) this.2.2.2.2.2.1) this.2.2.2.2.2.2.1
  have ji:(a2,Ad.itp (θ Hb+1) id)∈E1:=by rw[<-F];exact FJ (FJ (FJ ki (D 1 4 _ _ rfl rfl g!)) (D 1 5 _ _ rfl rfl g!)) (D 1 6 _ _ rfl rfl g!)
  clear F;apply Fx d4;rw[l4];refine Xd.cons rfl (Du (v:=.sl (θ Hb) (θ L) te.sz 0 (θ L)) (E! δ jo) (Xd.cons rfl (Du (v:=te.enc q.2) ?_ (Xd.cons rfl (V6 (sz:=te.sz) (vs:=[te.enc q.2]) rfl ?_ (Xd.cons rfl ?_))))));show jU P te3 _ (BS _ (.tmp a7))=_;simp only[BS,Env.putO,GQ];rw[D! (D 6 7 _ _ rfl rfl g!),j7];simp only[jU,b5,Qb,g2];rw[C! ⟨P!,by rw[l];omega⟩,Wc,<-l,Hk];exact E! δ f.symm;simp only[Ta,bN];rw[C!];simp only[BS,Env.putO,GQ,if_true,B4,Hi];refine⟨J,bt,rfl,?_,g!,b3⟩;simp only[BS,Env.putO,GQ,if_true,B4,Hi,qJ,qK,U,l,decide_true,YZ];have R:j<θ es:=by rcases Az j (θ es) with h|h;exact h;rw[Ct h]at o;cases o
  have bm:((List.range (θ es)).filter λi=>! τ (i∈seen++[j])).length<((List.range (θ es)).filter λi=>! τ (i∈seen)).length:=flt (λi=>! τ (i∈seen)) (λi=>! τ (i∈seen++[j])) (λx f=>by simp at f⊢;exact f.1) j (by simpa using S) q! _ (IJ.2 R);have O:jW (es.map (·.2)) (seen++[j])=L++[q.2]:=by rw[hL];exact ABt (by rw[CT,o];rfl)
  refine Sk (sx:=.tmp a8) (xx:=.tmp a10) (t:=ts2) (e:=e2) (id:=θ Hb) (g:=θ L) (g':=θ L+1) (n:=θ L) (sz:=te.sz) (m:=1) (cs:=te.E.cl L) (news:=(te.enc q.2).cells) rfl b0 J bz ?_ (g0 _ _) (te.E.clen L) ?_ o! (.inl o!) ?_;show Env.get _ a8=_;simp only[Env.putO,GQ];rw[D! (D 7 9 _ _ rfl rfl g!),D! (D 7 8 _ _ rfl rfl g!),C! trivial];simp only[BS,Env.putO,GQ,if_true,Kg,Bh,Bj,Ih,qN,DT];rw[s2];refine Xd.cons rfl (Du (v:=.sl (θ Hb) (θ L+1) te.sz 0 (θ L+1)) ?_ (Xd.nil ?_));show δ (Env.get _ a11)=_;simp only[Env.putO,GQ,if_true];have Q:te.E.cl L++(te.enc q.2).cells=te.E.cl (L++[q.2]):=by simp[Su.cl];rfl
  rw[Q];have bl:(L++[q.2]).length=θ L+1:=q!
  show∃env2 H2,FX N _ _ _ env2 H2/\_;refine⟨_,_,?_,ih _ (DM bm hr) (seen++[j]) ?_ ?_ (Al _) (by rw[O];omega)⟩;rw[O,bl];generalize M:Env.putO _ (δ out) _=E3;have V:∀u∈(out,Ad.sl (θ Hb) (θ L+1) te.sz 0 (θ L+1))::(a2,Ad.itp (θ Hb+1) id)::base,u∈E3:=by intro u I;rw[<-M];simp only[Env.putO];rcases Av.1 I with rfl|I;exact yh;rcases Av.1 I with rfl|I;exact FJ (FJ (FJ (FJ (FJ ji (D 1 7 _ _ rfl rfl g!)) (D 1 8 _ _ rfl rfl g!)) (D 1 9 _ _ rfl rfl g!)) (D 1 10 _ _ rfl rfl g!)) (D 1 0 _ _ rfl rfl g!);have:=hb u I;simp only[Av,not_or]at this;exact FJ (FJ (FJ (FJ (FJ (jb u I) this.2.2.2.2.2.2.2.1) this.2.2.2.2.2.2.2.2.1) this.2.2.2.2.2.2.2.2.2.1) this.2.2.2.2.2.2.2.2.2.2.1) this.1
  clear M;have w1:=FX.subset (N:=N) (H:=Hb++[Ft.live (θ L+1) (te.E.cl (L++[q.2])),Ft.it (θ es) (seen++[j]),Ft.live 0 (te.enc q.2).cells]) V;have W:(Hb++[Ft.live (θ L+1) (te.E.cl (L++[q.2])),Ft.it (θ es) (seen++[j]),Ft.live 0 (te.enc q.2).cells]).take (θ Hb+2)=Hb++[Ft.live (θ L+1) (te.E.cl (L++[q.2])),Ft.it (θ es) (seen++[j])]:=by rw[fm,BN o!,show θ Hb+2-θ Hb=2 by omega];rfl
  have w2:=FX.cut (N:=N) (n0:=θ Hb+2) (env:=(out,Ad.sl (θ Hb) (θ L+1) te.sz 0 (θ L+1))::(a2,Ad.itp (θ Hb+1) id)::base) (H:=Hb++[Ft.live (θ L+1) (te.E.cl (L++[q.2])),Ft.it (θ es) (seen++[j]),Ft.live 0 (te.enc q.2).cells]) q! (λt v X=>by
   rcases Av.1 X with e|X;injection e with _ e;subst e;exact G! o!;rcases Av.1 X with e|X;injection e with _ e;subst e;simp only[Ad.idsAll,BZ,K!];omega;exact Rh (λi hi=>G! (by have:=N! hi;omega)) v (ax _ X)) (by
   rw[W];intro e c;rcases Ak.1 c with c|c;exact AEu (λi hi=>G! (by have:=N! hi;omega)) e (ap e c);rcases Av.1 c with rfl|c;exact AI1 te _ _ _;simp only[A9]at c;subst c;rfl)
  rw[W]at w2;have a':(Hb++[Ft.live (θ L) (te.E.cl L),Ft.it (θ es) seen]).length=θ Hb+2:=q!
  rw[a'];exact(w1.of_le q!).trans w2;refine Q6.2 ⟨hn,q!,λx f y hy=>?_⟩;simp only[A9]at hy;subst hy;rintro rfl;exact S f;intro x f;rcases Ak.1 f with f|f;exact hl x f;simp only[A9]at f;subst f;exact R
def pB{a}{p:Yl}(h:pA a m=δ p):∃x k i y l r z n A o B q,
  a=.seq (.region x k η) (.block i (.loop (.seq (.region y l η) (.seq (.cond (.tmp p.a4) .skip (.exit i)) (.block r (.seq (.region z n η) (.region A o η)))))))/\m=.region B q η/\
  yU k.toList=δ (p.c0,p.a1,p.a2,p.ty1,p.ty2)/\vJ l.toList=δ (p.a2,p.a3,p.a4)/\vK n.toList=δ (p.a2,p.a5,p.a6,p.a7,p.te1,p.te2)/\
  vL o.toList=δ (p.out,p.a7,p.a8,p.a9,p.a10,p.a11,p.te3,p.ts1,p.ts2)/\yV q.toList=δ (p.out,p.a12,p.a13,p.F,p.G)/\p.tmps.Nodup:=by
 unfold pA at h;split at h;split at h;rename_i s t u v w;split at h;rename_i j;simp only[BZ]at j;have⟨⟨b,c,d,e,f,g⟩,hn⟩:=j;have b:=DH b;have c:=DH c;have d:=DH d;have e:=DH e;have f:=DH f;have g:=DH g;subst b c d e f g;cases h;exact⟨_,_,_,_,_,_,_,_,_,_,_,_,rfl,rfl,s,t,u,v,w,sP hn⟩;cases h;cases h;cases h
def AEh{cs:Ψ Qd}(co:∀c∈cs,c.Ok P){a m}{p:Yl}(hp:pA a m=δ p){env}{H}{R:Type}{k:Bi→As→Ω R}{r:R}(ok:OL env H)(o:AEg P N cs p env H k=δ r):
  ∃A H',J9 P N a (B3 env) (BL H) (fb (λE h=>J9 P N m E h (VM .normal (B3 A) (BL H'))) (λ_ _ _=>False))/\k A H'=δ r/\OL A H'/\EG p.tmps env H A H':=by
 obtain⟨i1,o1,T,i2,o2,J,i3,o3,i4,o4,i5,o5,rfl,rfl,p1,p2,p3,p4,p5,b3⟩:=pB hp;unfold AEg at o;split at o;rename_i c ci b4;split at o;rename_i ro id hc;split at o;rename_i c2 kk n I F te G g a1 hF hE;split at o;rename_i cB;split at o;rename_i y1 kt et b9 n2 c3 n3 z e1 s1 e2 s2 t1 t2 t3 t4 t5 t6 t7;split at o;rename_i hb;have cG:n=te:=by have:=Ty.beq_eq _ _ cB;injection this
 subst cG;simp only[BZ]at hb;obtain⟨⟨bG,b8,V,cd,W,bz,Y,Z,cb,cc,ad⟩,U,b',ca,bN⟩:=hb;have bG:=DH bG;have V:=DH V;have W:=DH W;have bz:=DH bz;have Y:=DH Y;have Z:=DH Z;have ad:=PL ad;subst V W Y Z cd;have c1:P.underlying kt=δ (.int kk):=by split at U;rename_i k2 e;rw[e,N! U];cases U
 cases ao:τ (((θ I:Nat):Int)<=16777216)with
 |false=>rw[ao]at o;cases o
 |true=>
  have bm:θ I<=16777216:=by have:=N! ao;omega
  rw[ao]at o;obtain⟨s,hs,o⟩:=Do.1 (show σ _ _=δ r from o);have hs:=ABd hs;cases L:ξ (θ s) (θ I) with
  |false=>rw[L]at o;cases o
  |true=>
   rw[L]at o;have o:k ((p.out,.c (.own (θ H) 0 n (θ s)))::aV p.tmps env) (H++[.buf η n s (θ s) 0,.dead])=δ r:=o;have L:=DH L;obtain⟨c4,q1,x1,c5,q2,x2,l1⟩:=sR p1;obtain⟨c6,q3,x3,cS,c8,q4,x4,l5⟩:=sV p5;have D:=λ(i j a b:Nat)=>AIO (i:=i) (j:=j) (a:=a) (b:=b) b3;have hN:∀t∈p.tmps,t<N:=λt ht=>PL (GK.1 bN t ht);have d1:PW N o1.toList=ζ:=by rw[l1];simp[PW,qJ,qK,Rj,BZ,K!];exact⟨hN _ (by simp[Yl.tmps]),hN _ (by simp[Yl.tmps])⟩
   have d5:PW N o5.toList=ζ:=by rw[l5];simp[PW,qJ,qK,Rj,BZ,K!];exact⟨hN _ (by simp[Yl.tmps]),hN _ (by simp[Yl.tmps])⟩
   have M:(B3 env).get p.out=.nils:=by rw[VJ,b4];rfl
   have al:(B3 env).get p.c0=.ptr c 0 0:=by rw[VJ,ci];rfl
   have cn:p.c0≠p.out:=λe=>by rw[e,M]at al;cases al
   have cm:c<θ H:=HK hc;have a':id<θ H:=HK a1;have d:(BL H).length=θ H:=Cd H;have ce:(BL H)[c]?=δ (.live 0 [.mp id]):=by rw[EK,hc];rfl
   have O:(BL H)[id]?=δ (.mp kk (I.map λp=>(p.1,n.enc p.2))):=by rw[EK,a1];rfl
   have x:∀q∈B3 (aV p.tmps env),q∈B3 env/\q.1∉p.tmps:=λq y=>by obtain⟨u,hu,rfl⟩:=Bp.1 y;exact⟨Bp.2 ⟨u,(Wl hu).1,rfl⟩,(Wl hu).2⟩
   have ch:∀q∈B3 (aV p.tmps env),(q.2.idsAll λj=>decide (j<(BL H).length))=ζ:=λq y=>by obtain⟨u,hu,rfl⟩:=Bp.1 y;rw[d];exact iB (mO b' u hu)
   have cf:∀e∈BL H,(e.idsAll λj=>decide (j<(BL H).length))=ζ:=by rw[d];exact mP ca
   have step:CL H (H++[.buf η n s (θ s) 0,.dead]):=by have:=(CL.push H (.buf η n s (θ s) 0)).trans (CL.push _ .dead);rwa [A2]at this
   have b5:(Bw.own (θ H) 0 n (θ s)).ok (H++[.buf η n s (θ s) 0,.dead]):=by apply Ww (b:=η) (l:=s);rw[Cn (Al _),G2];rfl
   refine⟨(p.out,.c (.own (θ H) 0 n (θ s)))::aV p.tmps env,H++[.buf η n s (θ s) 0,.dead],?_,o,⟨λq y=>?_,?_⟩,step,λu hu _=>?_⟩;refine J9.weak (FX.virt (t:=p.out) (sz:=n.sz) M) (J9.seq (Fx d1 ?_));rw[l1];have cA:Ci P ((B3 env).put p.out (.sl (BL H).length 0 n.sz 0 0)) (BL H++[.live 0 []]) (.load p.ty1 (.tmp p.c0))=δ (.mp id):=by simp[Ci,BS,GQ];rw[D! cn,al];simp[jU,t1,Qb];rw[CZ (by rw[d];exact cm),ce];rfl
   have bl:(BL H++[Ft.live 0 []])[id]?=δ (.mp kk (I.map λp=>(p.1,n.enc p.2))):=by rw[CZ (by rw[d];exact a'),O]
   refine Xd.cons rfl (Du cA (Xd.cons rfl (Jw.range (id:=id) (k:=kk) (es:=I.map λp=>(p.1,n.enc p.2)) rfl ?_ t2 bl (Xd.nil ?_))));simp[BS,Env.putO,GQ,if_true];rw[Ba,AZ,A2];dsimp[fb,Env.putO];refine J9.block (J9.of_loopW ?_);have ax:[p.out,p.a2,p.a3,p.a4,p.a5,p.a6,p.a7,p.a8,p.a9,p.a10,p.a11].Sublist p.tmps:=.cons₂ _ (.cons _ (.cons₂ _ (.cons₂ _ (.cons₂ _ (.cons₂ _ (.cons₂ _ (.cons₂ _ (.cons₂ _ (.cons₂ _ (.cons₂ _ (.cons₂ _ (.cons _ (.cons _ .slnil)))))))))))));have b7:=ADE (P:=P) (N:=N) (te:=n) (kk:=kk) (es:=I) (Hb:=BL H) (base:=B3 (aV p.tmps env)) (id:=id) (out:=p.out) (a2:=p.a2) (a3:=p.a3) (a4:=p.a4) (a5:=p.a5) (a6:=p.a6) (a7:=p.a7) (a8:=p.a8) (a9:=p.a9) (a10:=p.a10) (a11:=p.a11)
    (b1:=T) (b2:=J) (i2:=i2) (i3:=i3) (i4:=i4) (bb:=b9) p2 p3 p4 ?_ ?_ ?_ ch cf O b8 t5 bz t3 t4 t6 t7 cb cc ad bm (θ I) [] Q7 (λj B=>by cases B) (by simpa using List.length_filter_le _ (List.range (θ I))) (by have:=EH (λj=>! τ (j∈([]:Ψ Nat))) (List.range (θ I));simpa[jW]using this)
   refine IH.mono (IH.weak ?_ b7) ?_;refine FX.subset (N:=N) (H:=BL H++[Ft.live 0 [],Ft.it (θ I) []]) λq y=>?_;rcases Av.1 y with rfl|y;exact FJ (FJ yh (D 0 1 _ _ rfl rfl g!)) (D 0 2 _ _ rfl rfl g!);rcases Av.1 y with rfl|y;exact yh;obtain⟨T,J⟩:=x q y;simp[Yl.tmps,Av,not_or]at J;exact FJ (FJ (FJ T J.1) J.2.1) J.2.2.1;rintro e E h ⟨rfl,C,K,b6,Q,ar,ap⟩;show qS T _ (.exit T) E h;simp[qS,if_true,fb];refine J9.weak (FX.subset b6) (J9.after (Fx d5 ?_));rw[l5];obtain⟨b0,hf⟩:=ub hF;have a0:θ s=θ C:=by rw[L,<-K.length_eq,Ba]
   have hA:=co _ b0 C () s (hs C K) a0 h (BL H).length ap;simp[Qd.f]at hf;rw[hf]at hA;refine Xd.cons rfl (Du (v:=.sl (BL H).length (θ C) n.sz 0 (θ C)) (E! δ pW) (Xd.cons rfl (Jw.mono (lZ (F:=p.F) (vs:=[.sl (BL H).length (θ C) n.sz 0 (θ C),.fn (.func G) [] []]) ?_ hE hA) ?_)));show δ (Sum.inl (p.F,[]++[Env.get _ p.a12,Ad.fn (.func p.G) [] []]++[]))=_;simp only[Env.putO,GQ,if_true,bG];rfl;rintro _ _ ⟨rfl,rfl⟩;refine Xd.nil ⟨_,_,?_,rfl,rfl,rfl⟩;have cv:(h.set (BL H).length (.live (θ C) (n.E.cl s))).length=θ h:=q!
   rw[<-cv];refine Wz (by simp[BL];rw[Q,d]) λX g' w _=>?_;have hr:Tk (cx X g' (h.set (BL H).length (.live (θ C) (n.E.cl s))) w) (cx X g' (h.set (BL H).length (.live (θ C) (n.E.cl s))) w) (h.set (BL H).length (.live (θ C) (n.E.cl s))) (BL (H++[.buf η n s (θ s) 0,.dead])):=by
    refine⟨by simp[BL];rw[Q,d],λj e' B=>?_⟩;have same:(h.set (BL H).length (.live (θ C) (n.E.cl s)))[j]?=δ e'->e'=.dead\/_:=λhh=>(Tk.refl (cx X g' (h.set (BL H).length (.live (θ C) (n.E.cl s))) w) (h.set (BL H).length (.live (θ C) (n.E.cl s)))).2 j e' hh;have ct:BL (H++[.buf η n s (θ s) 0,.dead])=BL H++[Ft.live (θ s) (n.E.cl s),Ft.dead]:=by simp[BL,Dx.enc]
    rw[ct]at B;rcases Q9 j (BL H).length with bt|rfl|cW;rw[CZ bt]at B;exact same (by rw[Dc o!,ar j bt];exact B);rw[Cn (Al _),G2]at B;exact same (by rw[HB o!,<-a0];exact B);rw[Cn o!]at B;rcases Q9 (j-(BL H).length) 1 with q|q|q;omega;rw[q]at B;injection B with B;exact .inl B.symm;rw[Ct w!]at B;cases B
   refine⟨hr.onto,λt v' S=>⟨v',?_,λc r=>r.later hr.later⟩⟩;simp[Env.putO];have S:(t,v')∈(p.out,Ad.sl (BL H).length (θ s) n.sz 0 (θ s))::B3 (aV p.tmps env):=by rw[d];exact S
   rcases Av.1 S with e|S;cases e;rw[a0];exact FJ (FJ JV (D 0 12 _ _ rfl rfl g!)) (D 0 13 _ _ rfl rfl g!);obtain⟨T,J⟩:=x _ S;simp only[Yl.tmps,Av,not_or]at J;exact FJ (FJ (Ca _ S) J.2.2.2.2.2.2.2.2.2.2.2.2.1) J.2.2.2.2.2.2.2.2.2.2.2.2.2.1;exact b3.sublist ax;exact λt ht=>hN t (ax.subset ht);exact λq y S=>(x q y).2 (ax.subset S);rcases Av.1 y with rfl|y;exact KB b5;exact step.tv (ok.env q (Wl y).1);intro e he;rcases Ak.1 he with he|he;exact step.ent (ok.heap e he);simp[Av,List.not_mem_nil,or_false]at he;rcases he with rfl|rfl;rfl;trivial;show Bi.get _ u=_;have:p.out≠u:=λe=>hu (by rw[<-e];simp[Yl.tmps]);simp[Bi.get,beq_false this];exact qd hu env
 cases o;cases o;cases o;cases o;cases o;cases o
end
abbrev Sem:=∀{R:Type},Bi->As->(Exit->Bi->As->Ω R)->Ω R
def px:Ψ (Nat×Ty)->Bi->As->Ω (Bi×As)
 |[],env,H=>δ (env,H)
 |(t,ty)::r,env,H=>
  match env.get t with
  |.c .nil=>px r (env.put t (.c (.own (θ H) 0 ty 0))) (H++[.buf η ty [] 0 0])
  |_=>ε
def uS:Nat->Ψ Bw->Ω (Ψ Bw×Ψ Bw)
 |0,.nil::r=>δ ([],r)
 |n+1,x::r=>match uS n r with|some (a,b)=>δ (x::a,b)|none=>ε
 |_,_=>ε
def lu:Ψ (Nat×Nat×Ty)->As->Ω As
 |[],H=>δ H
 |(b,i,ty)::r,H=>
  match H[b]? with
  |some (.live η cs)=>
   match uS i cs with
   |some (x,y)=>lu r (H.set b (.live η (x++ .own (θ H) 0 ty 0::y))++[.buf η ty [] 0 0])
   |none=>ε
  |_=>ε
def AHc(h:Hint)(env:Bi)(H:As):Ω (Bi×As):=
 match px h.virt env H with
 |some (e,H1)=>match lu h.virtC H1 with|some H2=>δ (e,H2)|none=>ε
 |none=>ε
def AHQ(h:Hint)(n:Nat)(eb:Bi)(H0:As)(S:Ψ Nat)(k:Exit->Bi->As->Ω R)(o:yR h.exits):Ω R:=
 AJP h.exits o λx sl ds=>
  match Ws sl ds eb H0 with
  |some (e,hh)=>match vp n e&&(mw n hh&&S.all λj=>Je j (Ls sl))with|true=>k x e hh|false=>ε
  |none=>ε
def AE8(h:Hint)(A:Ψ Nat)(run:Sem):Sem:=λenv H k=>
 match AHc h env H with
 |none=>ε
 |some (env0,H0)=>
  match rH env0 with
  |false=>ε
  |true=>(run env0 (Kt (Ls h.slots) 0 H0) λx e1 h1=>ABZ h.exits x e1 h1).bind λo=>AHQ h (θ H0) (RF A (Ls h.slots) H0 env0) H0 (Ls h.slots) k o
def ACX(h:Hint)(x:Exit)(env:Bi)(H:As):Ω (Step (DL (fY h.slots)) (yR h.exits)):=
 match wc .normal x with
 |true=>match zS h.slots env H with|some s=>δ (.next s)|none=>ε
 |false=>match ABZ h.exits x env H with|some o=>δ (.done o)|none=>ε
noncomputable def w7(h:Hint)(A:Ψ Nat)(run:Sem):Sem:=λenv H k=>
 match AHc h env H with
 |none=>ε
 |some (env1,H1)=>
  match Ir (h.kill++nU env1 H1 h.slots) env1 H1 with
  |(env0,H0)=>
   match rH env0,Y3 env0 H0 h.slots with
   |true,δ ds=>
    match ABT (fY h.slots) ds with
    |some s0=>(Ag (λs=>
      match Ws h.slots (dvs (fY h.slots) s) (RF A (Ls h.slots) H0 env0) (Kt (Ls h.slots) 0 H0)with
      |some (e,hh)=>match vp (θ H0) e&&mw (θ H0) hh with|true=>run e hh λx e1 h1=>ACX h x e1 h1|false=>ε
      |none=>ε) s0).bind λo=>AHQ h (θ H0) (RF A (Ls h.slots) H0 env0) H0 (Ls h.slots) k o
    |none=>ε
   |_,_=>ε
def ACM(c:Operand)(ra rb:Sem):Sem:=λenv H k=>
 match Jx env c with
 |.c (.bl v)=>cond v (ra env H k) (rb env H k)
 |_=>ε
def AA4(id:Nat)(r:Sem):Sem:=λenv H k=>r env H λe env' H'=>
 match e with
 |.exit id'=>match ξ id' id with|true=>k .normal env' H'|false=>k (.exit id') env' H'
 |e=>k e env' H'
def ww(o:Ω Hint)(A:Ψ Nat)(run:Sem):Sem:=
 match o with
 |some h=>λenv H k=>AE8 (h.rel (θ H)) A run env H k
 |none=>run
section
variable {R:Type}
def mv1(t n:Nat)(env:Bi)(H:As)(k:Bi->As->Ω R):Ω R:=
 match env.get t with
 |.c (.own m ver te _)=>
  match ξ m n with
  |true=>k env H
  |false=>
   match H[n]?,H[m]? with
   |some (.buf η t1 _ n1 v1),δ (.buf η t2 l2 n2 v2)=>
    match ξ ver v2,(Ty.list t1).beq (Ty.list t2)&&(Ty.list te).beq (Ty.list t2)with
    |true,ζ=>bif τ (n1<n2)then k (env.put t (.c (.own n (v1+1) t2 n2))) ((H.set n (.buf η t2 l2 n2 (v1+1))).set m .dead)else ε
    |_,_=>ε
   |_,_=>k env H
 |_=>k env H
def mvs:Ψ PD->Bi->As->(Bi->As->Ω R)->Ω R
 |[],e,h,k=>k e h
 |.g t n::r,e,h,k=>mv1 t n e h λe h=>mvs r e h k
 |_::r,e,h,k=>mvs r e h k
end
def AFM(ss:Ψ PD)(run:Sem):Sem:=λenv H k=>run env H λx e1 h1=>
 match wc .normal x with
 |true=>mvs ss e1 h1 λe2 h2=>k x e2 h2
 |false=>k x e1 h1
structure AEI where
 main:Sem
 pre:Sem
 suf:Sem
def QE:Sem:=λ_ _ _=>ε
def AFu(a b:Sem):Sem:=λenv H k=>a env H λe env' H'=>match e with|.normal=>b env' H' k|e=>k e env' H'
noncomputable def ACe(h:Hint)(A:Ψ Nat)(s:AEI):Sem:=λenv H k=>s.pre env H λx e1 h1=>match x with|.normal=>w7 h A (AFu s.suf s.pre) e1 h1 k|x=>k x e1 h1
noncomputable def vA(o:Ω Hint)(A:Ψ Nat)(s:AEI):Sem:=
 match o with
 |some h=>λenv H k=>match ξ h.kind 8 with|true=>ACe (h.rel (θ H)) A s env H k|false=>w7 (h.rel (θ H)) A (AFM (h.rel (θ H)).slots s.main) env H k
 |none=>QE
def jD:Bi->Bi
 |[]=>[]
 |(t,v)::r=>match Lq v.refs with|[]=>(t,v)::jD r|_=>jD r
def ABh(P:Program)(call:Ss)(N:Nat)(me:FuncId)(f:Operand)(ps:Array Tmp)(a b:Code):Sem:=λenv H k=>
 match Jx env f with
 |.c (.raw (.fn (.func G) first caps))=>
  match Enters P G with
  |true=>call (.fn G) (first.map tvA++[.c (.raw (.yf (θ H)))]++caps.map tvA) (H++[.lp η me N (jD env) ps a b .ready]) λ_ H'=>
   match H'[θ H]? with
   |some (.lp η _ _ _ _ _ _ .ready)=>k .normal env (H'.set (θ H) .dead)
   |some (.lp η _ _ _ _ _ _ .ret)=>k .ret env (H'.set (θ H) .dead)
   |some (.lp η _ _ _ _ _ _ (.exit x))=>k (.exit x) env (H'.set (θ H) .dead)
   |_=>ε
  |false=>ε
 |_=>ε
noncomputable def fX(P:Program)(cs:Ψ Qd)(call:Ss)(N:Nat)(me:FuncId)(hs:Ψ Hint):Code->AEI
 |.skip=>⟨λenv H k=>k .normal env H,QE,QE⟩
 |.ret=>⟨λenv H k=>k .ret env H,QE,QE⟩
 |.exit id=>⟨λenv H k=>k (.exit id) env H,QE,QE⟩
 |.seq a (.seq m r)=>⟨λenv H k=>
  match pA a m with
  |some p=>AEg P N cs p env H λenv' H'=>(fX P cs call N me hs r).main env' H' k
  |none=>AFu (fX P cs call N me hs a).main (fX P cs call N me hs (.seq m r)).main env H k,
  AFu (fX P cs call N me hs a).main (fX P cs call N me hs (.seq m r)).pre,(fX P cs call N me hs (.seq m r)).suf⟩
 |.seq a b=>⟨ww (tS hs a b) (PN hs (.seq a b)) (AFu (fX P cs call N me hs a).main (fX P cs call N me hs b).main),(fX P cs call N me hs a).main,(fX P cs call N me hs b).main⟩
 |.cond c a b=>⟨ww (hintOf hs (.cond c a b)) (PN hs (.cond c a b)) (ACM c (fX P cs call N me hs a).main (fX P cs call N me hs b).main),QE,QE⟩
 |.block id b=>⟨ww (hintOf hs (.block id b)) (PN hs (.block id b)) (AA4 id (fX P cs call N me hs b).main),QE,QE⟩
 |.loop b=>⟨vA (hintOf hs (.loop b)) (PN hs (.loop b)) (fX P cs call N me hs b),QE,QE⟩
 |.region id ops η=>⟨ww (hintOf hs (.region id ops η)) (PN hs (.region id ops η)) λenv H k=>
  match PW N ops.toList with
  |true=>AAX P cs call ops (guards ops) η ops.toList 0 env H λenv' H'=>k .normal env' H'
  |false=>ε,QE,QE⟩
 |.region id ops ζ=>⟨λenv H k=>
  match P.follows .mixedOrders&&ACm ops N (ABe ops)&&Wy P ops&&rH env with
  |true=>ABr P cs call ops (Iq ops.toList []) (guards ops) (match nN 3 id hs with|some _=>ζ|none=>η) (ABe ops) [] env H λenv' H'=>k .normal env' H'
  |false=>ε,QE,QE⟩
 |.rangeFunc f ps a b=>⟨ABh P call N me f ps a b,QE,QE⟩
 |_=>⟨QE,QE,QE⟩
noncomputable def tF(P:Program)(cs:Ψ Qd)(call:Ss)(N:Nat)(me:FuncId)(hs:Ψ Hint)(c:Code):Sem:=(fX P cs call N me hs c).main
def AHq{f}{b:Code}(j:∀g r,b≠.seq g r)(env:Bi)(H:As)(k:Exit→Bi→As→Ω R):
  tF P E l N S f (.seq m b) env H k=ww (tS f m b) (PN f (.seq m b)) (λenv H k=>tF P E l N S f m env H λe d i=>match e with|.normal=>tF P E l N S f b d i k|e=>k e d i) env H k:=by
 cases b<;>first|rfl|exact O! rfl (j _ _)
def KC(P:Program)(N:Nat)(A:Ψ Nat)(c:Code)(run:Sem):Prop:=∀{R:Type}env H k(r:R),OL env H->run env H k=δ r->
 ∃e env' H',tW P N c (B3 env) (BL H) (VM e (B3 env') (BL H'))/\k e env' H'=δ r/\OL env' H'/\EG A env H env' H'
theorem ACu:∀{l}{env}{H}{a:Bi}{b:As},OL env H→px l env H=δ (a,b)→
  OL a b/\EG (l.map (·.1)) env H a b/\∀N,FX N (θ H) (B3 env) (BL H) (B3 a) (BL b)
 |[],env,H,a,b,ok,h=>by grind[px,EG.refl,FX.refl,Cd]
 |(t,ty)::r,env,H,a,b,ok,h=>by
  simp only[px]at h;split at h;rename_i m;have st:CL H (H++[.buf η ty [] 0 0]):=CL.push H _;have g:(H++[Dx.buf η ty [] 0 0])[θ H]?=δ (.buf η ty [] 0 0):=q!
  have i:OL (env.put t (.c (.own (θ H) 0 ty 0))) (H++[.buf η ty [] 0 0]):=by refine⟨cg (d:=δ t) (st.env ok.env) (KB (Ww g)),λe f=>?_⟩;rcases Ak.1 f with f|f;exact st.ent (ok.heap e f);rw[A9.1 f];rfl
  obtain⟨q1,q2,q3⟩:=ACu i h;refine⟨q1,?_,λN=>?_⟩;have o:EG [t] env H (env.put t (.c (.own (θ H) 0 ty 0))) (H++[.buf η ty [] 0 0]):=⟨st,λu n _=>pu λe=>n (by simp[e])⟩
  exact EG.trans ok.env o q2;have w:=FX.virt (N:=N) (env:=B3 env) (H:=BL H) (t:=t) (sz:=ty.sz) (by rw[VJ,m];rfl);have j:=(q3 N).of_le (n0:=θ H) q!;rw[kv]at j;have k:BL (H++[.buf η ty [] 0 0])=BL H++[.live 0 []]:=by simp[BL,Dx.enc,Su.cl]
  rw[k]at j;rw[Cd]at w;exact w.trans j;cases h
def sB:∀{n}{e x y:Ψ Bw},uS n e=δ (x,y)->e=x++ .nil::y
 |0,[],_,_,h=>by cases h
 |0,z::r,x,y,h=>by
  cases z<;>simp only[uS]at h<;>try (cases h;done)
  injection h with h;injection h with c d;subst c d;rfl
 |n+1,[],_,_,h=>by cases h
 |n+1,z::r,x,y,h=>by simp only[uS]at h;split at h;rename_i a b hr;injection h with h;injection h with c d;subst c d;rw[sB hr];rfl;cases h
theorem AAi{env}:∀{l}{H c:As},OL env H→lu l H=δ c→
  OL env c/\CL H c/\∀N,FX N (θ H) (B3 env) (BL H) (B3 env) (BL c)
 |[],H,c,ok,h=>by grind[lu,Option.some.injEq,CL.refl,FX.refl,B3,BL,Cd]
 |(b,i,ty)::r,H,c,ok,h=>by
  simp only[lu]at h;split at h;rename_i E v;split at h;rename_i x y B;have m:=sB B;subst m;have D:b<θ H:=k!
  have f:CL H (H++[Dx.buf η ty [] 0 0]):=CL.push H _;have a:H.set b (Dx.live η (x++Bw.own (θ H) 0 ty 0::y))++[Dx.buf η ty [] 0 0]=(H++[Dx.buf η ty [] 0 0]).set b (Dx.live η (x++Bw.own (θ H) 0 ty 0::y)):=k!
  have j:(H++[Dx.buf η ty [] 0 0])[b]?=δ (Dx.live η (x++Bw.nil::y)):=k!
  have g:CL (H++[Dx.buf η ty [] 0 0]) ((H++[Dx.buf η ty [] 0 0]).set b (Dx.live η (x++Bw.own (θ H) 0 ty 0::y))):=CL.set j rfl λ_ _ _ _ _ e=>by cases e
  have n:(H++[Dx.buf η ty [] 0 0])[θ H]?=δ (.buf η ty [] 0 0):=q!
  have t:lok H (x++Bw.nil::y):=ok.heap _ (BP v);have s:∀e∈H++[Dx.buf η ty [] 0 0],e.ok (H++[Dx.buf η ty [] 0 0]):=λe d=>by rcases Ak.1 d with d|d;exact f.ent (ok.heap e d);rw[A9.1 d];rfl
  have u:lok (H++[Dx.buf η ty [] 0 0]) (x++Bw.own (θ H) 0 ty 0::y):=by have q:=Jd.1 (f.lok t);refine Jd.2 ⟨q.1,λz o=>?_⟩;rcases Av.1 o with rfl|o;exact Ww n;exact q.2 z (Ca _ o)
  rw[a]at h;have p:OL env ((H++[Dx.buf η ty [] 0 0]).set b (Dx.live η (x++Bw.own (θ H) 0 ty 0::y))):=⟨g.env (f.env ok.env),heap_set g s (g.lok u)⟩
  obtain⟨q1,q2,q3⟩:=AAi p h;refine⟨q1,(f.trans g).trans q2,λN=>?_⟩;have k:(BL H)[b]?=δ (.live 0 (lvs (x++Bw.nil::y))):=by rw[EK,v];rfl
  have C:(lvs (x++Bw.nil::y))[(lvs x).length]?=δ .nils:=by grind[G5,IC,Bw.enc]
  have w:=FX.virtC (N:=N) (env:=B3 env) (sz:=ty.sz) k C;have A:BL ((H++[Dx.buf η ty [] 0 0]).set b (Dx.live η (x++Bw.own (θ H) 0 ty 0::y)))=(BL H).set b (.live 0 ((lvs (x++Bw.nil::y)).set (lvs x).length (.sl (BL H).length 0 ty.sz 0 0)))++[.live 0 []]:=by
   rw[<-a];have:(lvs (x++Bw.nil::y)).set (lvs x).length (.sl (BL H).length 0 ty.sz 0 0)=lvs (x++Bw.own (θ H) 0 ty 0::y):=by grind[G5,IC,Cd,Bw.enc]
   grind[BL,Dx.enc,Su.cl,List.map_set]
  rw[<-A,Cd]at w;exact w.trans ((q3 N).of_le q!);cases h;cases h
variable {J:Sem}{O:Hint}
theorem ACi(ok:OL j c)(b:AHc O j c=δ (H,L)):
  OL H L/\EG (O.virt.map (·.1)) j c H L/\∀N,FX N (θ c) (B3 j) (BL c) (B3 H) (BL L):=by
 unfold AHc at b;split at b;rename_i e d n;obtain⟨a1,a2,a3⟩:=ACu ok n;split at b;rename_i f m;injection b with b;injection b with k l;subst k l;obtain⟨g,i,h⟩:=AAi a1 m;have o:EG [] e d e f:=⟨i,λ_ _ _=>rfl⟩
 exact⟨g,(EG.trans ok.env a2 o).mono λt p=>k!,λN=>(a3 N).trans ((h N).of_le a2.step.len)⟩;cases b;cases b
theorem wS{A S}{H}:∀{env:Bi},(env.map (·.1)).Nodup->∀t,env.get t=Vv->(RF A S H env).get t=Vv
 |[],_,_,_=>rfl
 |(u,v)::r,nd,t,h=>by have a:=G1.1 nd;simp only[Bi.get]at h;by_cases b:u=t;subst b;have hn:∀p∈RF A S H r,p.1≠u:=λp c e=>a.1 (Bp.2 ⟨p,(Ro a.2 p c).2.2,e⟩);grind[RF,Bi.get,nQ];rw[beq_false b]at h;have d:=wS (A:=A) (S:=S) (H:=H) a.2 t h;grind[RF,Bi.get,beq_false]
theorem ACS{h:Hint}{A B:Ψ Nat}{env0:Bi}{e:As}{D:Bi}{E:As}(m:OL env0 e)(nd:(env0.map (·.1)).Nodup)(M:AAs A (Ls h.slots) env0 e D E)
  {env1:Bi}{u:As} (C:OL env1 u) (st:EG B D E env1 u) (K:∀t,t∈B->t∈A) (J:∀t,t∈h.tmps->t∈A) {x:Exit}{o:yR h.exits} (Q:ABZ h.exits x env1 u=δ o)
  {R:Type}{k:Exit->Bi->As->Ω R}{r:R} (f:AHQ h (θ e) (RF A (Ls h.slots) e env0) e (Ls h.slots) k o=δ r) (N:Nat):
  ∃g i,FX N (θ e) (B3 env1) (BL u) (B3 g) (BL i)/\k x g i=δ r/\OL g i/\EG A env0 e g i:=by
 obtain⟨rfl,L,p,S,y⟩:=xI Q;have f:=xH f;split at f;rename_i g i O;split at f;rename_i v;simp at v;have sub:∀j,Je j (Ls (yS h.exits o).2.1)=η->Je j (Ls h.slots)=η:=λj d=>Wt λG=>k!
 obtain⟨w,W,Y,z⟩:=ACC m nd M C st K L m.heap rfl (AFC e) (λ_ _ _ _ q=>q) (λj H d c=>by
  cases H with
  |dead=>grind
  |live b V=>exact .inr ⟨_,sub j d,by rw[Jc,c,DY,sub j d];rfl,rfl,.inr (.inl ⟨_,_,_,_,rfl,rfl,Dq.refl _⟩)⟩
  |buf b t l n U=>exact .inr ⟨_,sub j d,by rw[Jc,c,DY,sub j d];rfl,rfl,.inr (.inr (.inl ⟨_,_,_,_,_,_,_,rfl,rfl⟩))⟩
  |mp b k t X=>exact .inr ⟨_,sub j d,by rw[Jc,c,DY,sub j d];rfl,rfl,.inr (.inr (.inr (.inr ⟨_,_,_,_,_,rfl,rfl⟩)))⟩
  |lp ro F n env Z a b s=>exact .inr ⟨_,sub j d,by rw[Jc,c,DY,sub j d];rfl,rfl,.inr (.inr (.inr (.inl ⟨_,_,_,_,_,_,_,_,_,rfl,rfl⟩)))⟩) O v.1 v.2.1 N
 refine⟨g,i,w,f,z.ok,z.step,λt T P=>?_⟩;have I:=Wt λG=>T (J t (by refine Ak.2 (.inr (G0.2 ⟨p,S,?_⟩));rw[<-y];exact G));rw[z.get t I];grind[zH,Vv,wS,mK,AFA,Wt];cases f;cases f
def nP:Code->Code
 |.seq _ (.seq m r)=>nP (.seq m r)
 |.seq _ b=>b
 |c=>c
section
variable {P:Program}{N:Nat}{env:Env}{H:Aw}{Q:Exit->Env->Aw->Prop}{X:Nat->Prop}{h:Gh}{a:Act}{w:World}
def am(P:Program)(N:Nat):Code->Env->Aw->(Exit->Env->Aw->Prop)->Prop
 |.seq a (.seq m r),env,H,Q=>J9 P N a env H (fb (λe h=>am P N (.seq m r) e h Q) Q)
 |.seq a _,env,H,Q=>J9 P N a env H Q
 |_,_,_,_=>False
def am.mono(l:∀e d g,Q e d g->Z e d g):∀{c}{env}{H},am P N c env H Q->am P N c env H Z:=by
 intro c;induction c with
 |seq a b _ f=>
  intro env H h;by_cases j:∃m r,b=.seq m r;obtain⟨m,r,rfl⟩:=j;refine J9.mono (show J9 P N a env H _ from h) λe E h k=>?_;cases e with
  |normal=>exact f k
  |_=>exact l _ _ _ k
  have e:∀Q,am P N (.seq a b) env H Q=J9 P N a env H Q:=λQ=>by cases b<;>first|rfl|exact O! ⟨_,_,rfl⟩ j
  rw[e]at h⊢;exact J9.mono h l
 |_=>intro env H h;exact h.elim
def am.run:∀{c}{env}{H}{h}{a}{w},am P N c env H Q→St X h N env H a w→aM T w→
  (∀e g d i b f,Q e b f->St X i N b f g d->HM h H w i f d->WS a w g d->Exit.then (λa w=>(nP c).wpIn (FR T) 0 P z a w) z e g d)->c.wpIn (FR T) 0 P z a w:=by
 intro c;induction c with
 |seq x y _ u=>
  intro env H h a w p s k o;by_cases t:∃m T,y=.seq m T;obtain⟨m,y,rfl⟩:=t;refine wpIn_seq (wpIn_mono ((show J9 P N x env H _ from p) T X h a w s k) ?_);rintro e g d ⟨i,b,f,q,l,j,n⟩;cases e with
  |normal=>exact u q l (k.later j) λe a2 F D env2 r q2 E v A=>o e a2 F D env2 r q2 E (j.trans v) (n.trans l.sim j v A)
  |_=>exact o _ g d i b f q l j n
  have B:am P N (.seq x y) env H Q=J9 P N x env H Q:=by cases y<;>first|rfl|exact O! ⟨_,_,rfl⟩ t
  have C:nP (.seq x y)=y:=by cases y<;>first|rfl|exact O! ⟨_,_,rfl⟩ t
  rw[B]at p;rw[C]at o;refine wpIn_seq (wpIn_mono (p T X h a w s k) ?_);rintro e g d ⟨i,b,f,q,l,j,n⟩;exact o e g d i b f q l j n
 |_=>intro env H h a w p;exact p.elim
def kE(P:Program)(N:Nat)(c:Code)(env:Env)(H:Aw)(Q:Exit->Env->Aw->Prop):Prop:=
 ∀r X h a w(K:Exit->Act->World->Prop),St X h N env H a w->aM r w->
  (∀e a' w' h' env' H',Q e env' H'->St X h' N env' H' a' w'->HM h H w h' H' w'->WS a w a' w'->K e a' w')->
  (nP c).wpIn (FR r) 0 P (Exit.then (λa w=>lX (FR r) 0 P c K a w) K) a w
def am.loop(hn:θ H=n)(p:am P N m env H (fb (λenv2 l=>∃d r,FX N n env2 l d r∧kE P N m d r Q) Q))(s:St X h N env H a w)(k:aM T w)
  (v:∀e i f j b g,Q e b g->St X j N b g i f->HM h H w j g f->WS a w i f->z e i f):lX (FR T) 0 P m z a w:=by
 refine cY (am.run p s k λe a2 c u env2 l q y C t=>?_);cases e with
 |normal=>obtain⟨d,r,x,G⟩:=q;obtain⟨E,A,F,I⟩:=x.2 X u a2 c y;have o:=FX.ext hn x.1 F I C;exact G T X E a2 c z A (k.later o) λe i f j b g J L B D=>v e i f j b g J L (o.trans B) (t.trans A.sim o B D)
 |_=>exact v _ a2 c u env2 l q y C t
def eM(p:am P N m env H (fb (λenv2 i=>∃b f,FX N (θ H) env2 i b f/\kE P N m b f Q) Q)):IH P N m env H Q:=λr X g a w s k=>am.loop rfl p s k λe o t l d h q c n j=>⟨l,d,h,q,c,n,j⟩
def kE.unroll(p:J9 P N (nP m) env H (fb (λenv1 j=>am P N m env1 j (fb (λenv2 l=>∃b c,FX N (θ H) env2 l b c/\kE P N m b c Q) Q)) Q)):kE P N m env H Q:=by
 intro r X g a w K s k n;apply wpIn_mono (p r X g a w s k);rintro e a1 V ⟨J,env1,j,q,o,i,v⟩;cases e with
 |normal=>
  refine cY (am.run q o (k.later i) λe a2 t x env2 l q z C G=>?_);have h:=i.trans C;have d:=v.trans o.sim i C G;cases e with
  |normal=>obtain⟨b,c,y,O⟩:=q;obtain⟨L,A,M,R⟩:=y.2 X x a2 t z;have u:=FX.ext rfl y.1 M R h;exact O r X L a2 t K A (k.later u) λe E U I f D S T B F=>n e E U I f D S T (u.trans B) (d.trans A.sim u B F)
  |_=>exact n _ a2 t x env2 l q z h d
 |_=>exact n _ a1 V J env1 j q o i v
def kE.after(p:kE P N m env H (λe b f=>∃env2 d,FX N (θ H) b f env2 d/\Q e env2 d)):kE P N m env H Q:=by intro r X g a w K s k o;refine p r X g a w K s k λe h j c b f ⟨env2,d,i,q⟩ v y l=>?_;obtain⟨n,x,t,u⟩:=i.2 X c h j v;exact o e h j n env2 d q x (FX.ext rfl i.1 t u y) l
end
variable {P:Program}{N:Nat}
theorem zu{h:Hint}(hr:KC P N k m J)(n:∀t,t∈k->t∈d)(A:∀t,t∈h.tmps->t∈d):KC P N d m (AE8 h d J):=by
 intro R env H c r ok a;unfold AE8 at a;dsimp only at a;split at a;cases a;rename_i env0 f v;split at a;cases a;rename_i hn;obtain⟨o,s,a⟩:=bnd a;obtain⟨b,x,y⟩:=ACi ok v;have nd:=ae hn;obtain⟨e,env1,z,a1,k1,g,i⟩:=hr env0 (Kt (Ls h.slots) 0 f) _ o (lW b) s;have q:AAs d (Ls h.slots) env0 f env0 (Kt (Ls h.slots) 0 f):=⟨lW b,CL.refl _,Io _ _,λ_ _=>rfl,λp u=>(Ro nd p u).1⟩
 obtain⟨j,l,w,q1,q2,q3⟩:=ACS b nd q g i n A k1 a N;refine⟨e,j,l,?_,q1,q2,?_⟩;rw[rA]at a1;refine tW.weak (by rw[Cd];exact y N) (tW.after (a1.mono ?_));rintro _ _ _ ⟨rfl,rfl,rfl⟩;exact⟨_,_,by rw[Cd];exact w,rfl,rfl,rfl⟩;exact(EG.trans ok.env x q3).mono λt C=>by grind[Hint.tmps]
def AH9(L0:Env->Aw->(Exit->Env->Aw->Prop)->Prop)(A:Ψ Nat)(run:Sem):Prop:=∀{R:Type}env H k(r:R),OL env H->run env H k=δ r->
 ∃e env' H',L0 (B3 env) (BL H) (VM e (B3 env') (BL H'))/\k e env' H'=δ r/\OL env' H'/\EG A env H env' H'
theorem AAB{L0 L:Env→Aw→(Exit→Env→Aw→Prop)→Prop}(V:∀{env}{H}{Q Q':Exit→Env→Aw→Prop},(∀e f U,Q e f U→Q' e f U)→L0 env H Q→L0 env H Q')
  (hu:∀{env}{H}{Q},L0 env H (fb (λf U=>∃env2 J,FX N (θ H) f U env2 J/\L env2 J Q) Q)->L env H Q)
  (ha:∀{env:Env}{H}{Q:Exit->Env->Aw->Prop},L env H (λe f U=>∃env2 J,FX N (θ H) f U env2 J/\Q e env2 J)->L env H Q)
  {A B:Ψ Nat}{h:Hint}{run:Sem} (hr:AH9 L0 B run) (hB:∀t,t∈B->t∈A) (hA:∀t,t∈h.tmps->t∈A) {R:Type} (env:Bi) (H:As) (k:Exit->Bi->As->Ω R) (r:R) (ok:OL env H) (m:w7 h A run env H k=δ r):
  ∃i g x u v,FX N (θ H) (B3 env) (BL H) (B3 i) (BL g)/\L (B3 i) (BL g) (VM x (B3 u) (BL v))/\k x u v=δ r/\OL u v/\EG A env H u v:=by
 unfold w7 at m;dsimp only at m;split at m;cases m
 ·rename_i G Hv hv;obtain⟨bb,sv,wv⟩:=ACi ok hv;obtain⟨y,sf,wf⟩:=Rt (h.kill++nU G Hv h.slots) bb;generalize Ir (h.kill++nU G Hv h.slots) G Hv=fz at m y sf wf;obtain⟨env0,d⟩:=fz;simp only at m y sf wf;split at m
  ·rename_i ds hn hc;split at m
   ·rename_i s0 a7;obtain⟨o,ho,m⟩:=bnd m;have nd:=ae hn;have z:∀e∈Kt (Ls h.slots) 0 d,e.ok (Kt (Ls h.slots) 0 d):=(lW y).heap;have hC:=ABP (C:=λs o=>∀r,AHQ h (θ d) (RF A (Ls h.slots) d env0) d (Ls h.slots) k o=δ r->
     ∃i g,Ws h.slots (dvs (fY h.slots) s) (RF A (Ls h.slots) d env0) (Kt (Ls h.slots) 0 d)=δ (i,g)/\vp (θ d) i=ζ/\mw (θ d) g=ζ/\(AAs A (Ls h.slots) env0 d i g->∃x u v,L (B3 i) (BL g) (VM x (B3 u) (BL v))/\k x u v=δ r/\OL u v/\EG A env0 d u v)) (λs q Y=>by
     split at Y
     ·rename_i i g hi;split at Y
      ·rename_i I;simp only[BZ]at I;have body:∀D:AAs A (Ls h.slots) env0 d i g,∃e env1 K,L0 (B3 i) (BL g) (VM e (B3 env1) (BL K))/\ACX h e env1 K=δ q/\OL env1 K/\EG B i g env1 K:=λD=>hr i g _ q D.ok Y;cases q with
       |next s'=>
        intro o ih r m;obtain⟨ad,ap,i1,i2,i3,i4⟩:=ih r m;refine⟨i,g,hi,I.1,I.2,λD=>?_⟩;obtain⟨e,env1,K,a1,k1,S,T⟩:=body D;unfold ACX at k1;split at k1;rename_i hx;have:=uX hx;subst this;split at k1;rename_i s1 a8;injection k1 with k1;injection k1 with k1;subst k1;have a2:=oB a8;obtain⟨w,ea,ha,E⟩:=ACC (Hx:=Kt (Ls h.slots) 0 d) y nd D S T hB a2 z (Io _ _) (.refl _) (λ_ _ _ _ q=>oL q) (λj e' O c=>by
         cases hH:d[j]? with
         |none=>grind[Jc]
         |some Z=>
          have hl:=c;rw[Jc,hH,DY,O]at c;simp only[Bu,Ar]at c;subst c;cases Z with
          |dead=>exact .inl rfl
          |live b cs=>exact .inr ⟨_,O,hl,rfl,.inr (.inl ⟨_,_,_,_,rfl,rfl,Dq.refl _⟩)⟩
          |buf b t l n bl=>exact .inr ⟨_,O,hl,rfl,.inr (.inr (.inl ⟨_,_,_,_,_,_,_,rfl,rfl⟩))⟩
          |mp b k t es=>exact .inr ⟨_,O,hl,rfl,.inr (.inr (.inr (.inr ⟨_,_,_,_,_,rfl,rfl⟩)))⟩
          |lp ro F n env ps a b s=>exact .inr ⟨_,O,hl,rfl,.inr (.inr (.inr (.inl ⟨_,_,_,_,_,_,_,_,_,rfl,rfl⟩)))⟩) i1 i2 i3 N
        have a3:AAs A (Ls h.slots) env0 d ad ap:=⟨E.ok,E.step,by rw[E.len,Io],E.same,λp P=>by
         obtain⟨X,b2,b3⟩:=Ro nd p P;have M:Je p.1 A=η:=by grind[jT,Je]
         rw[E.get p.1 (Wt λV=>Uu M (hA _ (by unfold Hint.tmps;simp only[List.mem_append];exact .inl (.inr V))))];rw[mK nd p.1 (by rw[X];exact b2)];exact X⟩
        obtain⟨x,u,v,l1,l2,l3,l4⟩:=i4 a3;refine⟨x,u,v,hu (V ?_ a1),l2,l3,l4⟩;rintro _ _ _ ⟨rfl,rfl,rfl⟩;exact⟨_,_,by rw[Cd,D.len];exact w,l1⟩;cases k1;split at k1<;>grind
       |done o=>
        intro r m;refine⟨i,g,hi,I.1,I.2,λD=>?_⟩;obtain⟨e,env1,K,a1,k1,S,T⟩:=body D;unfold ACX at k1;split at k1;split at k1<;>grind;rename_i hx;split at k1;rename_i o1 a6;injection k1 with k1;injection k1 with k1;subst k1;obtain⟨u,v,w,q1,q2,q3⟩:=ACS y nd D S T hB hA a6 m N;have a5:e≠.normal:=by rintro rfl;cases hx
        refine⟨e,u,v,ha (hu (V ?_ a1)),q1,q2,q3⟩;intro e1 al bm a9;obtain⟨ar,ax,a0⟩:=a9;subst ar ax a0;have ao:∃env2 J,FX N (BL g).length (B3 env1) (BL K) env2 J/\VM e1 (B3 u) (BL v) e1 env2 J:=⟨_,_,by rw[Cd,D.len];exact w,rfl,rfl,rfl⟩
        cases e1 with
        |normal=>exact(a5 rfl).elim
        |_=>exact ao
        cases k1
      cases Y
     cases Y) ho
    obtain⟨i,g,i1,i2,i3,i4⟩:=hC r m;have a4:=rG a7;rw[a4]at i1;have a':OL (RF A (Ls h.slots) d env0) (Kt (Ls h.slots) 0 d):=⟨λp P=>(lW y).env p (Ro nd p P).2.2,z⟩
    have E:=Mx y hc i1 a' (by rw[Io];exact Al _) (λp P=>⟨p.2,(Ro nd p P).2.2,Xc.refl _⟩) (λj e' O c=>by
     rw[Jc]at c;cases hH:d[j]? with
     |none=>rw[hH]at c;cases c
     |some Z=>
      rw[hH,DY,O]at c;simp only[Bu,Ar]at c;subst c;refine⟨Z,rfl,?_⟩;cases Z with
      |dead=>exact .inl rfl
      |live b cs=>exact .inr (.inl ⟨_,_,_,_,rfl,rfl,Dq.refl _⟩)
      |buf b t l n bl=>exact .inr (.inr (.inl ⟨_,_,_,_,_,_,_,rfl,rfl⟩))
      |mp b k t es=>exact .inr (.inr (.inr (.inr ⟨_,_,_,_,_,rfl,rfl⟩)))
      |lp ro F n env ps a b s=>exact .inr (.inr (.inr (.inl ⟨_,_,_,_,_,_,_,_,_,rfl,rfl⟩)))) (AHM d)
    have w:=E.weak (N:=N) (by rw[Io];exact Al _) (by rw[Io];exact i2) (by rw[Io];exact i3);rw[Io]at w;have D:AAs A (Ls h.slots) env0 d i g:=⟨E.ok,E.step,by rw[E.len,Io],E.same,λp P=>by
     obtain⟨X,b2,b3⟩:=Ro nd p P;have M:Je p.1 A=η:=by grind[jT,Je]
     rw[E.get p.1 (Wt λV=>Uu M (hA _ (by unfold Hint.tmps;simp only[List.mem_append];exact .inl (.inr V))))];rw[mK nd p.1 (by rw[X];exact b2)];exact X⟩
    obtain⟨x,u,v,l1,l2,l3,l4⟩:=i4 D;have w3:FX N (θ H) (B3 env) (BL H) (B3 i) (BL g):=((wv N).trans ((wf N).of_le (by rw[Cd];exact sv.step.len))).trans (w.of_le (Cq sv.step.len sf.step.len));refine⟨_,_,x,u,v,w3,l1,l2,l3,?_⟩;exact(EG.trans ok.env (EG.trans ok.env sv sf) l4).mono λt W=>by rcases Ak.1 W with W|W;rw[DT]at W;exact hA t (by unfold Hint.tmps;simp only[List.mem_append];exact .inl (.inl (.inr W)));exact W
   cases m
  cases m
def AFD(hr:KC P N k m J)(A:∀t,t∈k->t∈d)(l:∀t,t∈O.tmps->t∈d):KC P N d (.loop m) (w7 O d J):=by
 intro R env H c r ok f;obtain⟨s,u,x,i,j,w,l1,l2,o,p⟩:=AAB (N:=N) (L0:=λenv H Q=>J9 P N m env H Q) (L:=λenv H Q=>IH P N m env H Q) (λn a=>a.mono n) (IH.unroll ·) (IH.after ·)
  (λenv H c r ok f=>by obtain⟨e,b,g,a,q⟩:=hr env H c r ok f;exact⟨e,b,g,a.awp,q⟩) A l env H c r ok f
 exact⟨x,i,j,tW.weak (by rw[Cd];exact w) l1,l2,o,p⟩
def AB8(P:Program)(N:Nat)(A:Ψ Nat)(c:Code)(run:Sem):Prop:=AH9 (am P N c) A run
def AFF{s:AEI}(n:AB8 P N k m s.pre)(y:KC P N k (nP m) s.suf)(i:∀t,t∈k->t∈d)(v:∀t,t∈O.tmps->t∈d):KC P N d (.loop m) (ACe O d s):=by
 intro R env H A r ok g;unfold ACe at g;obtain⟨e,env1,f,a1,k1,b,c⟩:=n env H _ r ok g;cases e with
 |normal=>
  obtain⟨B,I,x,q,u,w,l1,l2,D,F⟩:=AAB (N:=N) (L0:=λenv H Q=>J9 P N (nP m) env H (fb (λe O=>am P N m e O Q) Q)) (L:=λenv H Q=>kE P N m env H Q)
   (λo a=>a.mono λe E O z=>by
    cases e with
    |normal=>exact am.mono o z
    |_=>exact o _ _ _ z) (λ{env H Q} a=>kE.unroll (a.mono λe E O z=>by
    cases e<;>exact z)) (kE.after ·)
   (B:=k) (run:=AFu s.suf s.pre) (λenv H A r ok g=>by
    obtain⟨e,env1,f,a1,k1,b,c⟩:=y env H _ r ok g;cases e with
    |normal=>obtain⟨B,env2,p,a2,C,l,G⟩:=n env1 f A r b k1;refine⟨B,env2,p,a1.awp.mono ?_,C,l,(EG.trans ok.env c G).mono λt j=>(Ak.1 j).elim id id⟩;rintro _ _ _ ⟨rfl,rfl,rfl⟩;exact a2
    |_=>refine⟨_,env1,f,a1.awp.mono ?_,k1,b,c⟩;rintro _ _ _ ⟨rfl,rfl,rfl⟩;exact⟨rfl,rfl,rfl⟩) i v env1 f A r b k1
  refine⟨x,q,u,eM (am.mono ?_ a1),l2,D,(EG.trans ok.env c F).mono λt j=>(Ak.1 j).elim (i t) id⟩;rintro _ _ _ ⟨rfl,rfl,rfl⟩;exact⟨_,_,w.of_le (by rw[Cd];exact c.step.len),l1⟩
 |_=>refine⟨_,env1,f,eM (am.mono ?_ a1),k1,b,c.mono i⟩;rintro _ _ _ ⟨rfl,rfl,rfl⟩;exact⟨rfl,rfl,rfl⟩
def AEj{b}{A B}{j}(l:KC P N A m J)(a:KC P N B b j):KC P N (A++B) (.cond e m b) (ACM e J j):=by
 intro R env H k r ok f;unfold ACM at f;dsimp only at f;split at f;rename_i v n;have i:BS (B3 env) e=.bool v:=by have:=Lx env e;rw[n]at this;exact this
 cases v with
 |true=>obtain⟨c,d,g,a1,q1,q2,q3⟩:=l env H k r ok f;exact⟨c,d,g,EE (λ_ c=>by cases c) (J9.cond i (λ_=>a1.awp) (λc=>by cases c)),q1,q2,q3.mono λt h=>Ak.2 (.inl h)⟩
 |false=>obtain⟨c,d,g,a1,q1,q2,q3⟩:=a env H k r ok f;exact⟨c,d,g,EE (λ_ c=>by cases c) (J9.cond i (λc=>by cases c) (λ_=>a1.awp)),q1,q2,q3.mono λt h=>Ak.2 (.inr h)⟩
 cases f
def AC8{A}(hr:KC P N A m J):KC P N A (.block n m) (AA4 n J):=by
 intro R env H k r ok i;obtain⟨e,a,f,a1,q1,q2,q3⟩:=hr env H _ r ok i;cases e with
 |exit c=>
  simp only at q1;split at q1;rename_i h;have:=DH h;refine⟨.normal,a,f,EE (λ_ e=>by cases e) (J9.block (a1.awp.mono ?_)),q1,q2,q3⟩;rintro _ _ _ ⟨rfl,rfl,rfl⟩;simp only[qS,C! this];exact⟨rfl,rfl,rfl⟩;rename_i h;have g:c≠n:=λe=>t!
  refine⟨.exit c,a,f,EE (λ_ e=>by cases e) (J9.block (a1.awp.mono ?_)),q1,q2,q3⟩;rintro _ _ _ ⟨rfl,rfl,rfl⟩;simp only[qS,D! g];exact⟨rfl,rfl,rfl⟩
 |_=>refine⟨_,a,f,EE (λ_ e=>by cases e) (J9.block (a1.awp.mono ?_)),q1,q2,q3⟩;rintro _ _ _ ⟨rfl,rfl,rfl⟩;exact⟨rfl,rfl,rfl⟩
end Go.Ab
namespace Go.Ab
variable {N n W:Nat}{c L:As}{d k:Ψ Nat}{j H:Bi}{m:Code}{q:Env}{F:Ψ PD}{J:Sem}
section
variable {P:Program}{N:Nat}{env:Env}{H:Aw}{Q:Exit->Env->Aw->Prop}{X:Nat->Prop}{h:Gh}{w:World}
def Gst(N:Nat)(env:Env)(H:Aw)(env2:Env)(H2:Aw):Prop:=
 ∀X h a w,St X h N env H a w->∃h2,St X h2 N env2 H2 a w/\HM h H w h2 H2 w
def J9.afterG(h:J9 P N m env H (λe b f=>∃env2 d,Gst N b f env2 d/\Q e env2 d)):J9 P N m env H Q:=by intro r X g a w s k;apply wpIn_mono (h r X g a w s k);rintro e i t ⟨l,b,f,⟨env2,d,n,q⟩,o,u,j⟩;obtain⟨c,p,v⟩:=n X l i t o;exact⟨c,env2,d,q,p,u.trans v,j⟩
def IH.afterG(h:IH P N m env H (λe b f=>∃env2 d,Gst N b f env2 d/\Q e env2 d)):IH P N m env H Q:=by intro r X g a w s k;apply XQ (h r X g a w s k);rintro e i t ⟨l,b,f,⟨env2,d,n,q⟩,o,u,j⟩;obtain⟨c,p,v⟩:=n X l i t o;exact⟨c,env2,d,q,p,u.trans v,j⟩
def tW.afterG(h:tW P N m env H (λe a d=>∃env2 b,Gst N a d env2 b/\Q e env2 b)):tW P N m env H Q:=by
 cases m with
 |loop x=>exact IH.afterG h
 |_=>exact J9.afterG h
def mvH(H:Aw)(n m:Nat)(e:Ft):Aw:=(H.set n e).set m .dead
def jC{e f:Ft}(g:n≠N)(hn:n<θ H)(a:(mvH H n N f)[W]?=δ e)(d:e≠.dead):(W=n/\e=f)\/(W≠n/\W≠N/\H[W]?=δ e):=by unfold mvH at a;by_cases b:W=N;subst b;rw[We]at a;rw[C! rfl]at a;split at a;injection a with a;exact O! a.symm d;cases a;rw[Dc (b ·.symm)]at a;by_cases c:W=n;subst c;rw[HB hn]at a;injection a with a;exact .inl ⟨rfl,a.symm⟩;rw[Dc (c ·.symm)]at a;exact .inr ⟨c,b,a⟩
def HM.mv{n m gn b:Nat}{cn d:Ψ Ad}(s:JT X h H w)(hn:H[n]?=δ (.live gn cn))(j:H[m]?=δ (.live b d))(f:n≠m)(v:gn<b):HM h H w (h.at_ n (h.io m) (h.gen m) (h.cap m)) (mvH H n m (.live b d)) w:=by have i:h.gen n=gn:=(s.live n gn cn hn).1;have g:h.gen m=b:=(s.live m b d j).1;have p:n<θ H:=(Ei.1 hn).1;refine⟨rfl,rfl,rfl,Al _,λ_ _ _=>rfl,by simp[mvH],λid _=>?_,λid _ e=>?_,λB t=>?_,λ_ r hr=>⟨r,hr⟩⟩;simp only[Gh.at_];split;rename_i q;rw[q,i,g];omega;exact Al _;simp only[Gh.at_]at e⊢;split at e;rename_i q;rw[q,i,g]at e;omega;rename_i q;simp[q];obtain⟨id,e,o,c,a⟩:=t;rcases jC f p o c with⟨rfl,rfl⟩|⟨k,u,l⟩;simp only[Gh.at_,if_true]at a;exact .inl ⟨m,_,j,q!,a⟩;simp only[Gh.at_,D! k]at a;exact .inl ⟨id,e,l,c,a⟩
def JT.mv{n m gn Q:Nat}{cn Y:List Ad}(s:JT X h H w)(hn:H[n]? =some (.live gn cn))(O:H[m]? =some (.live Q Y))(d:n≠m)(hg:gn<Q):JT X (h.at_ n (h.io m) (h.gen m) (h.cap m)) (mvH H n m (.live Q Y)) w:=by
 have hx:=HM.mv s hn O d hg;have E:=hx.later X;have F:n<H.length:=(Ei.1 hn).1;refine⟨λB U=>⟨(s.out B U).1,λho=>?_⟩,λid g Z A=>?_,λid L A=>?_,λid M e e' B A K D i o c=>?_,λid e A V=>?_⟩;rcases hx.fresh B ho with q|q;exact(s.out B U).2 q;have:=(s.out B U).1;omega;rcases jC d F A q! with⟨rfl,q⟩|⟨l,N,y⟩;injection q with q1 q2;subst q1 q2;obtain⟨a,b⟩:=s.live m g Z O;refine⟨by simp[cx,Gh.at_];exact a,?_⟩;rcases b with⟨p,u⟩|⟨B,z,T,P,f,p,u,G,I,J,x⟩;exact .inl ⟨by simp only[cx,Gh.at_,if_true];exact p,u⟩;exact .inr ⟨B,z,T,P,f,by simp only[cx,Gh.at_,if_true];exact p,u,by simp only[cx,Gh.at_,if_true];exact G,I,J,λj v C=>⟨(x j v C).1,(x j v C).2.1,(x j v C).2.2.later E⟩⟩;obtain⟨a,b⟩:=s.live id g Z y;refine⟨by simp only[cx,Gh.at_,if_neg l];exact a,?_⟩;rcases b with⟨p,u⟩|⟨B,z,T,P,f,p,u,G,I,J,x⟩;exact .inl ⟨by simp only[cx,Gh.at_,if_neg l];exact p,u⟩;exact .inr ⟨B,z,T,P,f,by simp only[cx,Gh.at_,if_neg l];exact p,u,by simp only[cx,Gh.at_,if_neg l];exact G,I,J,λj v C=>⟨(x j v C).1,(x j v C).2.1,(x j v C).2.2.later E⟩⟩;rcases jC d F A q! with⟨rfl,q⟩|⟨l,N,y⟩;cases q;obtain⟨a,B,r,p,u,G,I,J,x,b7,b8,W⟩:=s.lp id L y;exact⟨by simp only[cx,Gh.at_,if_neg l];exact a,B,r,by simp only[cx,Gh.at_,if_neg l];exact p,u,G,I,J,x,b7,b8,λt v hv=>⟨(W t v hv).1,(W t v hv).2.later E⟩⟩;rcases jC d F A D with⟨q1,q2⟩|⟨l,N,y⟩;rcases jC d F K i with⟨q3,q4⟩|⟨R,h5,S⟩;rw[q1,q3];subst q1;simp only[Gh.at_,if_true]at o;simp only[Gh.at_,if_neg R]at c;exact absurd (s.inj m M _ _ B O S q! i o c).symm h5;rcases jC d F K i with⟨q3,q4⟩|⟨R,h5,S⟩;subst q3;simp only[Gh.at_,if_true]at c;simp only[Gh.at_,if_neg l]at o;exact absurd (s.inj id m _ _ B y O D q! o c) N;simp only[Gh.at_,if_neg l]at o;simp only[Gh.at_,if_neg R]at c;exact s.inj id M e e' B y S D i o c;rcases jC d F A (by rintro rfl;cases V)with⟨rfl,q⟩|⟨l,N,y⟩;subst q;cases V;have b:=s.bld id e y V;cases e with
 |mp k es=>simpa only[BAt,Gh.at_,if_neg l]using b
 |it k sn=>simpa only[BAt,Gh.at_,if_neg l]using b
 |_=>trivial
def Gst.mv{n m gn b:Nat}{cn f:Ψ Ad}(hn:H[n]?=δ (.live gn cn))(i:H[m]?=δ (.live b f))(e:n≠m)(l:gn<b)
  (A:∀t v,(t,v)∈q->(t,v)∈env\/∃sz d len,v=.sl n b sz d len/\(t,Ad.sl m b sz d len)∈env):Gst N env H q (mvH H n m (.live b f)):=by
 intro X h a w s;have o:=HM.mv s.sim hn i e l;have j:h.gen m=b:=(s.sim.live m b f i).1;have y:n<θ H:=(Ei.1 hn).1;refine⟨_,⟨s.sim.mv hn i e l,λt v z=>?_,s.size⟩,o⟩;rcases A t v z with C|⟨sz,d,len,rfl,C⟩;exact⟨(s.env t v C).1,(s.env t v C).2.later (o.later X)⟩;obtain⟨p,k⟩:=s.env t _ C;refine⟨p,?_⟩;generalize a.tmps.getD t undef=c at k;cases k with
 |sl x u g r=>refine .sl (by simp[cx,mvH];exact y) (by simp only[cx,Gh.at_,if_true];rw[j];exact Al _) g λ_=>?_;rcases r j with C|⟨B,cap,q1,q2,q3,q4⟩;exact .inl ⟨by simp only[cx,Gh.at_,if_true];exact C.1,C.2⟩;exact .inr ⟨B,cap,by simp only[cx,Gh.at_,if_true];exact q1,q2,by simp only[cx,Gh.at_,if_true];exact q3,q4⟩
end
section
variable {R:Type}{P:Program}{N:Nat}
def Gst.refl(N:Nat)(env:Env)(H:Aw):Gst N env H env H:=λ_ h _ w s=>⟨h,s,HM.refl h H w⟩
def Gst.trans{N}{f g i}{c d e}(a:Gst N f c g d)(b:Gst N g d i e):Gst N f c i e:=λX h x w s=>by obtain⟨j,l,n⟩:=a X h x w s;obtain⟨k,m,o⟩:=b X j x w l;exact⟨k,m,n.trans o⟩
def AJG{k:Bi->As->Ω R}{r:R}(ok:OL j c)(h:mv1 W n j c k=δ r):∃a g,Gst N (B3 j) (BL c) (B3 a) (BL g)/\k a g=δ r/\OL a g/\EG [W] j c a g:=by
 have same:k j c=δ r->∃a g,Gst N (B3 j) (BL c) (B3 a) (BL g)/\k a g=δ r/\OL a g/\EG [W] j c a g:=λq=>⟨j,c,.refl _ _ _,q,ok,⟨.refl c,λ_ _ _=>rfl⟩⟩
 unfold mv1 at h;split at h;rename_i m H e J I;split at h;exact same h;rename_i b;have b:m≠n:=λq=>by rw[q,Hl]at b;cases b
 split at h;rename_i U l1 F l V l2 t E hn w;split at h;rename_i D z;have D:=DH D;subst D;simp only[BZ]at z;have x:=Ty.beq_eq _ _ z.1;have y:=Ty.beq_eq _ _ z.2;injection x with x;injection y with y;subst x y;cases f:τ (F<t)with
 |false=>rw[f]at h;cases h
 |true=>
  rw[f,B!]at h;have f:F<t:=N! f;have hr:TY c m H e J:=by have:=lR ok.env W;rw[I]at this;exact this (.own m H e J) (by simp[TV.refs])
  obtain⟨_,A⟩:=hr.2 _ _ _ _ _ w;obtain⟨_,A⟩:=A rfl;subst A;have K:CL c (c.set n (.buf η e l2 t (l+1))):=CL.set hn rfl λ_ _ _ _ _ q=>by cases q;exact⟨_,_,_,_,rfl,.inl (ni _)⟩
  have B:(c.set n (.buf η e l2 t (l+1)))[m]?=δ (.buf η e l2 t H):=by rw[Dc (b ·.symm)];exact w
  have L:CL (c.set n (.buf η e l2 t (l+1))) ((c.set n (.buf η e l2 t (l+1))).set m .dead):=CL.set B rfl λ_ _ _ _ _ q=>by cases q
  have st:=K.trans L;have C:t=θ l2:=ok.heap _ (BP w);have i:n<θ c:=(Ei.1 hn).1;have o:=R0 K ok.heap (show Dx.ok _ (.buf η e l2 t (l+1))from C);refine⟨_,_,?_,h,⟨cg (d:=δ W) (st.env ok.env) ?_,R0 L o trivial⟩,⟨st,λu p _=>?_⟩⟩;have O:BL ((c.set n (.buf η e l2 t (l+1))).set m .dead)=mvH (BL c) n m (.live t (e.E.cl l2)):=by rw[LY,LY];rfl
  rw[O];refine Gst.mv (gn:=F) (cn:=e.E.cl l1) (by rw[EK,hn];rfl) (by rw[EK,w];rfl) (b ·.symm) f (λu v p=>?_);rw[kv]at p;unfold Env.put at p;rcases Av.1 p with q|q;injection q with q1 q2;subst q1 q2;refine .inr ⟨e.sz,0,t,rfl,?_⟩;exact Bp.2 ⟨_,Zi I (λq=>by cases q),rfl⟩;exact .inl (BR.1 q).1;refine KB ⟨by simpa using i,λP T Q S M G=>?_⟩;rw[Dc b,HB i]at G;cases G;exact⟨Al _,λ_=>⟨rfl,rfl⟩⟩;have s:u≠W:=λq=>p (by simp[q]);unfold Bi.put;simp only[Bi.get];rw[beq_false (s ·.symm)];exact tK s j
 cases h;exact same h;exact same h
def ABV:∀{j}{env}{H}{k}{r:R},OL env H->mvs j env H k=δ r->∃f i,Gst N (B3 env) (BL H) (B3 f) (BL i)/\k f i=δ r/\OL f i/\EG (WQ j) env H f i
 |[],env,H,k,r,ok,h=>⟨env,H,.refl _ _ _,h,ok,⟨.refl H,λ_ _ _=>rfl⟩⟩
 |s::j,env,H,k,r,ok,h=>by
  have l:mvs j env H k=δ r->(∀t,t∈WQ j->t∈WQ (s::j))->∃f i,Gst N (B3 env) (BL H) (B3 f) (BL i)/\k f i=δ r/\OL f i/\EG (WQ (s::j)) env H f i:=λq A=>by obtain⟨e,i,a,b,c,d⟩:=ABV ok q;exact⟨e,i,a,b,c,d.mono A⟩
  cases s with
  |g t n=>simp only[mvs]at h;obtain⟨E,D,a1,o,v,x⟩:=AJG (N:=N) ok h;obtain⟨z,m,a2,p,w,y⟩:=ABV v o;exact⟨z,m,a1.trans a2,p,w,(x.trans ok.env y).mono λu C=>by simpa[WQ]using C⟩
  |_=>exact l h λt B=>by simp[WQ,B]
def AFN(hr:KC P N k m J)(i:∀t,t∈k->t∈d)(o:∀t,t∈WQ F->t∈d):KC P N d m (AFM F J):=by intro R env H j r ok p;obtain⟨e,env1,l,a1,k1,a,A⟩:=hr env H _ r ok p;split at k1;obtain⟨n,B,g,s,f,h⟩:=ABV (N:=N) a k1;refine⟨e,n,B,tW.afterG (a1.mono ?_),s,f,(A.trans ok.env h).mono λt q=>(Ak.1 q).elim (i t) (o t)⟩;rintro x u v ⟨rfl,rfl,rfl⟩;exact⟨_,_,g,rfl,rfl,rfl⟩;exact⟨e,env1,l,a1,k1,a,A.mono i⟩
end
end Go.Ab
