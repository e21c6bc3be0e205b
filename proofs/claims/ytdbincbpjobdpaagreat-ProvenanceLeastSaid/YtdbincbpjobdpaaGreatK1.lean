/- Texts of wip, joined and shortened by wip/tools/pack.py; nothing is assumed. -/
import Derived.Calls
import Derived.Below
import Derived.RangeFuncRecord
import Derived.OrdersIn
import Derived.Lib.FrozenHead
import Derived.Orders
import Derived.Laws.Cells
import Derived.Laws.Entries
import Derived.Laws.StructEq
import Derived.ChangeKeysEq
import Derived.Laws.BytesString
import Derived.Laws.Tables
import Derived.Great.FillDense
import Derived.Great.BuildSlice
namespace Go
theorem n!{A B:Prop}(h:¬A:=by decide):A->B:=λa=>absurd a h
theorem o!{P:Prop}(h:P:=by omega):P:=h
theorem d!{P:Prop}(h:P:=by dsimp only;omega):P:=h
theorem g!{P:Prop}(h:P:=by decide):P:=h
theorem k!{P:Prop}(h:P:=by simp):P:=h
theorem q!{P:Prop}(h:P:=by grind):P:=h
theorem w!{P:Prop}(h:P:=by simp;omega):P:=h
theorem v!{P:Prop}(h:P:=by assumption):P:=h
theorem u!{P:Prop}(h:P:=by dsimp only;decide):P:=h
theorem t!{P:Prop}(h:P:=by simp_all):P:=h
end Go
noncomputable section
set_option linter.all false
open Option renaming some->δ,none->ε,bind->σ
open Bool renaming true->ζ,false->η
open List renaming length->θ,replicate->ς
open Go.IntKind renaming wrap->ι
open BitVec renaming ofInt->κ,toNat->π
open Sum renaming elim->ν
open Nat renaming beq->ξ
open Int renaming toNat->ο
open Decidable renaming decide->τ
namespace Go
def A!:=@cond_false
def B!:=@cond_true
def C!:=@if_pos
def D!:=@if_neg
def E!:=@congrArg
def F!:=@decide_eq_false
def G!:=@decide_eq_true
def H!:=@bne_self_eq_false
def I!:=@beq_eq_false_iff_ne
def J!:=@beq_iff_eq
def K!:=@decide_eq_true_eq
def L!:=@beq_self_eq_true
def M!:=@of_decide_eq_true
theorem N!{a b:Prop}(h:a)(k: ¬a):b:=absurd h k
theorem O!:True:=trivial
def sX:=@Array.eq_empty_of_size_eq_zero
def na:=@Array.extract_size
def QZ:=@Array.getD_eq_getD_getElem?
def X6:=@Array.getElem?_append_left
def sg:=@Array.getElem?_append_right
def Nr:=@Array.getElem?_eq_getElem
def sh:=@Array.getElem?_eq_none
def xy:=@Array.getElem?_eq_none_iff
def bc:=@Array.getElem?_eq_some_iff
def be:=@Array.getElem?_map
def bT:=@Array.getElem?_modify
def TT:=@Array.getElem?_push
def vG:=@Array.getElem?_setIfInBounds_ne
def Pf:=@Array.getElem?_toList
def Dx:=@Array.length_toList
def vH:=@Array.mem_of_getElem?
def o0:=@Array.size_setIfInBounds
def o6:=@BitVec.eq_of_getLsbD_eq
def bU:=@BitVec.ofInt_natCast
def bV:=@BitVec.toNat_ofNat
def kj:=@BitVec.xor_assoc
def bW:=@BitVec.xor_self
def km:=@BitVec.zero_xor
def BW:=@Bool.and_eq_true
def Xk:=@Bool.and_self
def Q3:=@Bool.and_true
def o7:=@Bool.false_and
def Pg:=@Bool.false_eq_true
def Vp:=@Bool.not_eq_true'
def CM:=@Bool.not_true
def TU:=@Bool.or_eq_true
def kp:=@Bool.true_and
def TW:=@Decidable.byContradiction
def EE:=@Int.eq_ofNat_of_zero_le
def kq:=@Int.fdiv_eq_ediv_of_nonneg
def Af:=@Int.le_refl
def bX:=@Int.le_trans
def ku:=@Int.lt_or_le
def o8:=@Int.mul_ediv_add_emod
def o9:=@Int.tmod_lt_of_pos
def pA:=@Int.tmod_nonneg
def Cz:=@Int.toNat_natCast
def I5:=@Int.toNat_of_nonneg
def pB:=@List.Pairwise.imp_of_mem
def pC:=@List.Perm.eq_of_pairwise
def kv:=@List.Perm.refl
def pD:=@List.all_cons
def GA:=@List.all_eq_true
def pE:=@List.all_nil
def pF:=@List.any_eq_true
def A5:=@List.append_assoc
def pG:=@List.append_eq_append_iff
def EY:=@List.append_inj
def DN:=@List.append_nil
def EO:=@List.cons_append
def Xl:=@List.drop_append
def pH:=@List.drop_append_of_le_length
def Nq:=@List.drop_drop
def TX:=@List.drop_eq_getElem_cons
def kw:=@List.drop_eq_nil_of_le
def Q4:=@List.drop_left
def pI:=@List.drop_left'
def Vq:=@List.drop_of_length_le
def bY:=@List.drop_zero
def EZ:=@List.eq_nil_of_length_eq_zero
def I6:=@List.ext_getElem?
def vI:=@List.extract_eq_take_drop
def vJ:=@List.filterMap_append
def HY:=@List.filter_append
def Q5:=@List.filter_cons
def vK:=@List.filter_cons_of_neg
def vL:=@List.filter_cons_of_pos
def kz:=@List.filter_nil
def bZ:=@List.flatMap_append
def I7:=@List.flatMap_cons
def pJ:=@List.flatMap_nil
def pK:=@List.flatten_cons
def Xm:=@List.foldl_append
def Xn:=@List.foldl_cons
def Ns:=@List.getD_eq_getElem?_getD
def CT:=@List.getElem?_append_left
def Ci:=@List.getElem?_append_right
def k9:=@List.getElem?_cons_succ
def ba:=@List.getElem?_cons_zero
def Km:=@List.getElem?_drop
def Ar:=@List.getElem?_eq_getElem
def Cn:=@List.getElem?_eq_none
def EP:=@List.getElem?_eq_some_iff
def pL:=@List.getElem?_inj
def CL:=@List.getElem?_map
def DU:=@List.getElem?_of_mem
def Q6:=@List.getElem?_range
def TY:=@List.getElem?_set
def DW:=@List.getElem?_set_ne
def Gy:=@List.getElem?_set_self
def bd:=@List.getElem?_take
def Jk:=@List.getElem?_take_of_lt
def lC:=@List.getElem?_toArray
def vM:=@List.getElem?_zip_eq_some
def Jl:=@List.getElem_mem
def AY:=@List.length_append
def Ba:=@List.length_cons
def C5:=@List.length_drop
def sY:=@List.length_eq_zero_iff
def FF:=@List.length_filter_le
def BT:=@List.length_map
def Bb:=@List.length_nil
def HP:=@List.length_replicate
def Xz:=@List.length_set
def X0:=@List.length_singleton
def BR:=@List.length_take
def eE:=@List.length_take_le
def J7:=@List.map_append
def Mt:=@List.map_congr_left
def Bf:=@List.map_cons
def eF:=@List.map_drop
def eG:=@List.map_id
def Og:=@List.map_map
def HQ:=@List.map_nil
def mZ:=@List.map_take
def QT:=@List.map_toArray
def Ak:=@List.mem_append
def HS:=@List.mem_append_left
def Oh:=@List.mem_append_right
def Aw:=@List.mem_cons
def Ce:=@List.mem_cons_of_mem
def I3:=@List.mem_cons_self
def BU:=@List.mem_filter
def Oi:=@List.mem_filterMap
def Gl:=@List.mem_flatMap
def Vl:=@List.mem_iff_getElem
def FG:=@List.mem_iff_getElem?
def Bs:=@List.mem_map
def Vm:=@List.mem_map_of_mem
def BN:=@List.mem_of_getElem?
def QU:=@List.mem_of_mem_drop
def GH:=@List.mem_of_mem_take
def QV:=@List.mem_or_eq_of_mem_set
def Hw:=@List.mem_range
def BA:=@List.mem_singleton
def sZ:=@List.mem_zipIdx_iff_getElem?
def B4:=@List.nil_append
def Oj:=@List.nodup_append
def GI:=@List.nodup_cons
def I4:=@List.nodup_iff_pairwise_ne
def QW:=@List.nodup_nil
def Gm:=@List.pairwise_iff_getElem
def S5:=@List.pairwise_map
def ma:=@List.perm_ext_iff_of_nodup
def mb:=@List.replicate_succ
def S6:=@List.set_append_right
def X1:=@List.set_set
def se:=@List.singleton_append
def eJ:=@List.size_toArray
def Vn:=@List.sum_cons
def Co:=@List.take_add_one
def eK:=@List.take_append
def Dr:=@List.take_append_drop
def eL:=@List.take_append_of_le_length
def X2:=@List.take_left
def Gn:=@List.take_left'
def HT:=@List.take_length
def BP:=@List.take_of_length_le
def Kt:=@List.take_take
def eM:=@List.zip_append
def eN:=@Nat.add_assoc
def X3:=@Nat.add_comm
def EI:=@Nat.add_mul
def mc:=@Nat.add_sub_cancel
def S7:=@Nat.add_sub_cancel_left
def Ol:=@Nat.add_zero
def Hy:=@Nat.beq_refl
def DA:=@Nat.eq_of_beq_eq_true
def Vo:=@Nat.eq_zero_or_pos
def Om:=@Nat.le_of_ble_eq_true
def An:=@Nat.le_refl
def Ct:=@Nat.le_trans
def DB:=@Nat.lt_of_lt_of_le
def Ax:=@Nat.lt_or_ge
def QX:=@Nat.lt_trichotomy
def QY:=@Nat.min_eq_left
def S8:=@Nat.mod_eq_of_lt
def X4:=@Nat.mod_lt
def mf:=@Nat.mul_le_mul
def Mu:=@Nat.mul_le_mul_right
def Bl:=@Nat.ne_of_lt
def eO:=@Nat.pow_le_pow_right
def Gp:=@Nat.sub_self
def eP:=@Nat.sub_zero
def DT:=@Nat.zero_add
def Bc:=@Nat.zero_le
def X5:=@Nat.zero_mul
def On:=@Ne.symm
def Dj:=@Option.bind_eq_some_iff
def AD:=@Option.bind_some
def mg:=@Option.getD_some
def eQ:=@Option.isSome_iff_exists
def S9:=@Option.map_eq_some_iff
def mh:=@Option.map_none
def Bt:=@Option.map_some
def Bg:=@Option.some.inj
def Ao:=@Option.some.injEq
def mi:=@Option.toList_some
def Ck:=@Prod.ext
def EX:=@Prod.mk.injEq
def mj:=@Sum.elim_inr
def eR:=@UInt8.toNat_ofNat'
end Go
namespace Go.Ab
inductive Ac where
 |bool (b:Bool)
 |int (k:IntKind) (n:Int)
 |str (s:List UInt8)
 |nilp
 |ptr (id g off:Nat)
 |vptr (cs:List Ac)
 |nils
 |vs (sz:Nat) (rows:List Ac)
 |sl (id g sz off len:Nat)
 |fn (f:Fn) (first caps:List Ac)
 |yf (id:Nat)
 |mp (id:Nat)
 |itp (id m:Nat)
 |nilf
 |agg (cs:List Ac)
 |tup (vs:List Ac)
 |any
 deriving Inhabited
def Ac.cells:Ac->List Ac
 |.agg cs=>cs
 |v=>[v]
structure Cx where
 w:World
 n:Nat
 io:Nat->Option Nat
 gen:Nat->Nat
 cap:Nat->Nat
 O:Nat->Prop
inductive Bx(x:Cx):Ac->Value->Prop where
 |bool (b:Bool):Bx x (.bool b) (.bool b)
 |int (k:IntKind) (n:Int):Bx x (.int k n) (.int k n)
 |str {s:List UInt8} (t:ByteArray) (h:t.data.toList=s):Bx x (.str s) (.string t)
 |nilp:Bx x .nilp (.pointer ε)
 |ptr {id g off:Nat}{c:Value} (hid:id<x.n) (hg:g≤x.gen id) (h1:c.oneCell'=ζ)
   (hc:x.gen id=g->∃B,x.io id=δ B/\c=.pointer (δ ⟨B,off,ε⟩)):Bx x (.ptr id g off) c
 |vptr {cs:List Ac}{B off:Nat} (f:Nat→Value) (hO:¬x.O B) (hB:B<x.w.heap.size)
   (hc:∀(j:Nat)(v:Ac),cs[j]?=δ v->x.w.cell? ⟨B,off+j,ε⟩=δ (f j)/\(f j).oneCell'=ζ)
   (hv:∀(j:Nat)(v:Ac),cs[j]?=δ v->Bx x v (f j)):Bx x (.vptr cs) (.pointer (δ ⟨B,off,ε⟩))
 |nils:Bx x .nils (.slice ε 0 0)
 |vs {sz:Nat}{rows:List Ac}{a:Option Addr}{cap:Nat} (f:Nat→Nat→Value) (hcap:θ rows≤cap) (hsz:0<sz)
   (hrow:∀(j:Nat)(e:Ac),rows[j]?=δ e->θ e.cells=sz)
   (ha:rows≠ []->∃B off,a=δ ⟨B,off,ε⟩/\¬x.O B/\B<x.w.heap.size/\
    ∀(j:Nat)(e:Ac)(i:Nat)(v:Ac),rows[j]?=δ e->e.cells[i]?=δ v->x.w.cell? ⟨B,off+(j*sz+i),ε⟩=δ (f j i)/\(f j i).oneCell'=ζ)
   (hv:∀(j:Nat)(e:Ac)(i:Nat)(v:Ac),rows[j]?=δ e->e.cells[i]?=δ v->Bx x v (f j i)):Bx x (.vs sz rows) (.slice a (θ rows) cap)
 |sl {id g sz off len:Nat}{c:Value} (hid:id<x.n) (hg:g≤x.gen id) (h1:∃a cap,c=.slice a len cap)
   (hc:x.gen id=g->(x.io id=ε/\len=0/\off=0/\c=.slice ε 0 0)\/
    ∃B cap,x.io id=δ B/\len<=cap/\off+cap*sz<=x.cap id/\c=.slice (δ ⟨B,off,ε⟩) len cap):Bx x (.sl id g sz off len) c
 |fn {f:Fn}{first caps:List Ac}{first' caps':Array Value} (h1:first'.size=θ first) (h2:caps'.size=θ caps)
   (hv1:∀(j:Nat)(v:Ac)(c:Value),first[j]?=δ v->first'[j]?=δ c->Bx x v c) (hv2:∀(j:Nat)(v:Ac)(c:Value),caps[j]?=δ v->caps'[j]?=δ c->Bx x v c):
   Bx x (.fn f first caps) (.func f first' caps')
 |yf {id:Nat}{c:Value} (hid:id<x.n) (h1:c.oneCell'=ζ) (hc:x.gen id=0->∃B,x.io id=δ B/\c=.func (.yield B) #[] #[]):Bx x (.yf id) c
 |mp {id:Nat}{c:Value} (hid:id<x.n) (h1:c.oneCell'=ζ) (hc:x.gen id=0->∃B,x.io id=δ B/\c=.map (δ B)):Bx x (.mp id) c
 |itp {id m:Nat}{c:Value} (hid:id<x.n) (hm:m<x.n) (h1:c.oneCell'=ζ) (hc:x.gen id=0->∃B,x.io id=δ B/\c=.pointer (δ ⟨B,0,ε⟩)/\(x.gen m=0->x.io m=δ (x.cap id))):Bx x (.itp id m) c
 |nilf:Bx x .nilf .nilFunc
 |agg {cs:List Ac}{cs':Array Value} (h:cs'.size=θ cs) (h1:∀(j:Nat)(c:Value),cs'[j]?=δ c→c.oneCell'=ζ)
   (hv:∀(j:Nat)(v:Ac)(c:Value),cs[j]?=δ v->cs'[j]?=δ c->Bx x v c):Bx x (.agg cs) (.agg cs')
 |tup {vs:List Ac}{vs':Array Value} (h:vs'.size=θ vs)
   (hv:∀(j:Nat)(v:Ac)(c:Value),vs[j]?=δ v->vs'[j]?=δ c->Bx x v c):Bx x (.tup vs) (.tuple vs')
 |any (c:Value):Bx x .any c
structure Cx.Later(x y:Cx):Prop where
 size:x.w.heap.size<=y.w.heap.size
 keep:∀B,B<x.w.heap.size->¬x.O B->∀off,y.w.cell? ⟨B,off,ε⟩=x.w.cell? ⟨B,off,ε⟩
 own:∀B,B<x.w.heap.size->y.O B->x.O B
 n:x.n<=y.n
 gen:∀id,id<x.n->x.gen id<=y.gen id
 same:∀id,id<x.n->y.gen id=x.gen id->y.io id=x.io id/\y.cap id=x.cap id
variable {N t:Nat}{a J:TypeId}{w A:World}{b B:Value}{P:Program}{c:Nat→Prop}{d:List Ac}{e p G:Ac}{f:Cx}{i:Array Value}{j:Act}{k L:Operand}{l:Option (List Deferred)}{o:Oper}{n:Code}{X:Nat->Prop}{q:TypeInfo}{r:List Nat}{s:Bool}{v:Option Nat}{x:List Value}{y:Nat×Nat}{z:Nat->Nat}{D:IntKind}{E:FuncId}{F:BinOp}{I:Func}{M:Obj}
theorem mL(h:A.heap[N]?=w.heap[N]?)(a:Nat):A.cell? ⟨N,a,ε⟩=w.cell? ⟨N,a,ε⟩:=by grind[World.cell?]
theorem Bx.later{x y:Cx}(h:x.Later y)(r:Bx x e b):Bx y e b:=by
 induction r with
 |bool c=>exact .bool c
 |int k n=>exact .int k n
 |str t J=>exact .str t J
 |nilp=>exact .nilp
 |ptr a w d m=>refine .ptr (DB a h.n) (Ct w (h.gen _ a)) d λv=>?_;have d:=h.gen _ a;have l:=h.same _ a o!;grind
 |vptr f q g m K p=>refine .vptr f (λo=>q (h.own _ g o)) (DB g h.size) (λj e H=>?_) p;rw[h.keep _ g q];grind
 |nils=>exact .nils
 |vs f s C u G K p=>refine .vs f s C u (λA=>?_) p;obtain⟨B,F,v,q,g,m⟩:=G A;refine⟨B,F,v,(λo=>q (h.own _ g o)),DB g h.size,λj v i e H N=>?_⟩;rw[h.keep _ g q];grind
 |sl a w d m=>refine .sl (DB a h.n) (Ct w (h.gen _ a)) d λv=>?_;have d:=h.gen _ a;have l:=h.same _ a o!;grind
 |fn d l _ _ D E=>exact .fn d l D E
 |yf a d m=>refine .yf (DB a h.n) d λv=>?_;have d:=h.gen _ a;have l:=h.same _ a o!;grind
 |mp a d m=>refine .mp (DB a h.n) d λv=>?_;have d:=h.gen _ a;have l:=h.same _ a o!;grind
 |itp a z d m=>refine .itp (DB a h.n) (DB z h.n) d λv=>?_;have d:=h.gen _ a;have l:=h.same _ a o!;obtain⟨B,g,I,O⟩:=m o!;refine⟨B,l.1.trans g,I,λv=>?_⟩;have L:=h.gen _ z;have M:=h.same _ z o!;grind
 |nilf=>exact .nilf
 |agg h d _ p=>exact .agg h d p
 |tup h _ p=>exact .tup h p
 |any b=>exact .any b
abbrev Env:=List (Nat×Ac)
structure mH where
 n:Nat
 env:Env
 params:Array Tmp
 assign:Code
 body:Code
 state:LoopState
 pending:Option Code
inductive Fk where
 |dead
 |live (g:Nat) (cells:List Ac)
 |lp (L:mH)
 |mp (k:IntKind) (es:List (Int×Ac))
 |it (n:Nat) (seen:List Nat)
 deriving Inhabited
def Fk.isB:Fk->Bool
 |.mp _ _=>ζ
 |.it _ _=>ζ
 |_=>η
abbrev Au:=List Fk
structure Gh where
 io:Nat->Option Nat
 gen:Nat->Nat
 cap:Nat->Nat
def owned(h:Gh)(H:Au)(B:Nat):Prop:=∃id e,H[id]?=δ e/\e≠Fk.dead/\h.io id=δ B
def cx(X:Nat->Prop)(h:Gh)(H:Au)(w:World):Cx:=⟨w,θ H,h.io,h.gen,h.cap,λB=>X B\/owned h H B⟩
def AA2(x:Cx)(id g:Nat)(cs:List Ac):Prop:=
 x.gen id=g/\((x.io id=ε/\cs=[])\/∃(B:Nat)(arr:Array Value)(T:TypeId)(fz:Nat×Nat)(f:Nat->Value),x.io id=δ B/\x.w.heap[B]?=δ (.cells arr T fz)/\arr.size=x.cap id/\
  θ cs<=arr.size/\(∀i,i<arr.size->(τ (fz.1<=i)&&τ (i<fz.2))=η)/\
  ∀(j:Nat)(v:Ac),cs[j]?=δ v->arr[j]?=δ (f j)/\(f j).oneCell'=ζ/\Bx x v (f j))
def wY(x:Cx)(id:Nat)(L:mH):Prop:=
 x.gen id=0/\∃(B:Nat)(r:Loop),x.io id=δ B/\x.w.heap[B]?=δ (.loop r)/\r.state=L.state/\r.pending=L.pending/\r.params=L.params/\r.assign=L.assign/\r.body=L.body/\r.tmps.size=L.n/\
  ∀t v,(t,v)∈L.env->t<L.n/\Bx x v (r.tmps.getD t undef)
def BAt(h:Gh)(w:World)(id:Nat):Fk->Prop
 |.mp k es=>∃(B:Nat)(arr:Array MapEntry),h.io id=δ B∧h.gen id=0∧w.heap[B]?=δ (.map arr arr.size)∧arr.size=θ es∧
   ∀(j:Nat)(p:Int×Ac),es[j]?=δ p->∃e:MapEntry,arr[j]?=δ e/\e.born=j/\e.key=.int k p.1/\∀x,Bx x p.2 e.val
 |.it n seen=>∃B,h.io id=δ B/\h.gen id=0/\w.heap[B]?=δ (.mapIter (δ (h.cap id)) n seen.toArray n)
 |_=>True
structure I1(X:Nat->Prop)(h:Gh)(H:Au)(w:World):Prop where
 out:∀B,X B->B<w.heap.size/\¬owned h H B
 live:∀(id g:Nat)(cs:List Ac),H[id]?=δ (Fk.live g cs)->AA2 (cx X h H w) id g cs
 lp:∀(id:Nat)(L:mH),H[id]?=δ (Fk.lp L)->wY (cx X h H w) id L
 inj:∀(id id':Nat)(e e':Fk)(B:Nat),H[id]?=δ e->H[id']?=δ e'->e≠.dead->e'≠.dead->h.io id=δ B->h.io id'=δ B->id=id'
 bld:∀(id:Nat)(e:Fk),H[id]?=δ e->e.isB=ζ->BAt h w id e
variable {H R:Au}{h O:Gh}{g:Env}{m:Fk}{K:Ac->Au->Prop}{u:Ac→Au→Prop}
def I1.bldKeep(s:I1 c h H w)
  (key:∀(id:Nat)(e:Fk),R[id]?=some e->e.isB=true->H[id]?=some e/\O.io id=h.io id/\O.gen id=h.gen id/\O.cap id=h.cap id/\∀B (o:Obj),h.io id=some B->w.heap[B]?=some o->(∀z,o≠.deferred z)->A.heap[B]?=w.heap[B]?):
  ∀(id:Nat)(e:Fk),R[id]?=some e->e.isB=true->BAt O A id e:=by
 intro id e v q;obtain⟨m,g,a,f,r⟩:=key id e v q;have b:=s.bld id e m q;cases e with
 |mp k x=>obtain⟨B,j,X,l,d,u⟩:=b;exact⟨B,j,g.trans X,a.trans l,(r B _ X d (λz=>k!)).trans d,u⟩
 |it n seen=>obtain⟨B,X,l,d⟩:=b;exact⟨B,g.trans X,a.trans l,by rw[f];exact(r B _ X d (λz=>k!)).trans d⟩
 |_=>trivial
def OZ(x:Cx)(env:Env)(a:Act):Prop:=∀t v,(t,v)∈env->t<a.tmps.size/\Bx x v (a.tmps.getD t undef)
structure St(X:Nat->Prop)(h:Gh)(N:Nat)(env:Env)(H:Au)(a:Act)(w:World):Prop where
 sim:I1 X h H w
 env:OZ (cx X h H w) env a
 size:a.tmps.size=N
structure G8(h:Gh)(H:Au)(w:World)(h':Gh)(H':Au)(w':World):Prop where
 os:w'.os=w.os
 tape:w'.tape=w.tape
 output:w'.output=w.output
 size:w.heap.size<=w'.heap.size
 keep:∀B,B<w.heap.size->¬owned h H B->w'.heap[B]?=w.heap[B]?
 n:θ H<=θ H'
 gen:∀id,id<θ H->h.gen id<=h'.gen id
 same:∀id,id<θ H->h'.gen id=h.gen id->h'.io id=h.io id/\h'.cap id=h.cap id
 fresh:∀B,owned h' H' B->owned h H B\/w.heap.size<=B
 loops:∀(B:Nat)(r:Loop),w.heap[B]?=δ (.loop r)->∃r':Loop,w'.heap[B]?=δ (.loop r')
def G8.refl(h:Gh)(H:Au)(w:World):G8 h H w h H w:=⟨rfl,rfl,rfl,An _,λ_ _ _=>rfl,An _,λ_ _=>An _,λ_ _ _=>⟨rfl,rfl⟩,λ_ h=>.inl h,λ_ r h=>⟨r,h⟩⟩
theorem G8.trans{c j k:Gh}{f g i:Au}{l m o:World}(a:G8 c f l j g m)(b:G8 j g m k i o):G8 c f l k i o where
 os:=b.os.trans a.os
 tape:=b.tape.trans a.tape
 output:=b.output.trans a.output
 size:=Ct a.size b.size
 keep B hB hn:=(b.keep B (DB hB a.size) λd=>by rcases a.fresh B d with h|h;grind;omega).trans (a.keep B hB hn)
 n:=Ct a.n b.n
 gen id hid:=Ct (a.gen id hid) (b.gen id (DB hid a.n))
 same id hid e:=by have q:=a.gen id hid;have s:=b.gen id (DB hid a.n);have u:=a.same id hid o!;have v:=b.same id (DB hid a.n) o!;grind
 fresh B d:=by rcases b.fresh B d with h|h;exact a.fresh B h;exact .inr (Ct a.size h)
 loops B r h:=by obtain⟨p,c⟩:=a.loops B r h;exact b.loops B p c
def G8.later{h c:Gh}{H b:Au}{w d:World}(e:G8 h H w c b d)(X:Nat->Prop):(cx X h H w).Later (cx X c b d)where
 size:=e.size
 keep B hB hO off:=mL (e.keep B hB λa=>hO (.inr a)) off
 own B hB a:=by rcases a with a|a;exact .inl a;rcases e.fresh B a with h|h;exact .inr h;simp only[cx]at hB;omega
 n:=e.n
 gen:=e.gen
 same:=e.same
def OZ.later{x y:Cx}(l:x.Later y)(h:OZ x g j):OZ y g j:=λt v m=>⟨(h t v m).1,(h t v m).2.later l⟩
def Ea(P:Program)(F:FuncId)(args:List Ac)(H:Au)(Q:Ac->Au->Prop):Prop:=
 ∀(X:Nat->Prop)(h:Gh)(w:World)(cargs:Array Value),I1 X h H w->cargs.size=θ args->
  (∀(j:Nat)(v:Ac)(c:Value),args[j]?=δ v->cargs[j]?=δ c->Bx (cx X h H w) v c)->
  Calls P F cargs w λe w'=>∃c v h' H',e=.returned c/\Q v H'/\I1 X h' H' w'/\Bx (cx X h' H' w') v c/\G8 h H w h' H' w'
def FR(r:Option Nat):Fence:={Fence.wide with round:=r}
def Vj(a:Act)(w:World)(a':Act)(w':World):Prop:=
 ∃ds,a'.defers=ds++a.defers/\ds.Nodup/\∀d∈ds,∃D,d={target:=.collected D,args:= #[]}/\w.heap.size<=D/\w'.heap[D]?=δ (.deferred (δ []))
def ZY(r:Option Nat)(w:World):Prop:=∀l,r=δ l->∃x:Loop,w.heap[l]?=δ (.loop x)
def Vj.same{b:Act}{w c:World}(h:b.defers=j.defers):Vj j w b c:=⟨[],by simp[h],.nil,λ_ h=>by cases h⟩
def I1.deferred(s:I1 X h H w)(j:w.heap[N]?=δ (.deferred l)):¬owned h H N:=by
 rintro⟨id,e,D,o,b⟩;cases e with
 |dead=>exact o rfl
 |live g p=>rcases(s.live id g p D).2 with⟨hn,_⟩|⟨B,m,T,t,f,a,i,_⟩;rw[show(cx X h H w).io id=h.io id from rfl,b]at hn;cases hn;rw[show(cx X h H w).io id=h.io id from rfl,b]at a;injection a with e;subst e;rw[show(cx X h H w).w.heap=w.heap from rfl,j]at i;cases i
 |lp L=>obtain⟨_,B,r,a,i,_⟩:=s.lp id L D;rw[show(cx X h H w).io id=h.io id from rfl,b]at a;injection a with e;subst e;rw[show(cx X h H w).w.heap=w.heap from rfl,j]at i;cases i
 |mp k q=>obtain⟨B,m,c,_,d,_⟩:=s.bld id _ D rfl;rw[b]at c;injection c with e;subst e;rw[j]at d;cases d
 |it n seen=>obtain⟨B,c,_,d⟩:=s.bld id _ D rfl;rw[b]at c;injection c with e;subst e;rw[j]at d;cases d
theorem rq(h:w.heap[N]?=δ M):N<w.heap.size:=q!
def G8.defs(x:G8 h H w O R A)(s:I1 X h H w)(a:w.heap[N]?=δ (.deferred l)):A.heap[N]?=δ (.deferred l):=(x.keep N (rq a) (s.deferred a)).trans a
theorem Vj.trans{X:Nat->Prop}{h j b:Gh}{H f n:Au}{a a1 a2:Act}{w e m:World}(o:Vj a w a1 e)(s:I1 X j f e)(z:G8 h H w j f e)(x:G8 j f e b n m)(p:Vj a1 e a2 m):Vj a w a2 m:=by obtain⟨g,B,t,v⟩:=o;obtain⟨i,C,u,y⟩:=p;refine⟨i++g,q!,Oj.2 ⟨u,t,λd r A q E=>?_⟩,λd c=>?_⟩;grind;rcases Ak.1 c with c|c;obtain⟨D,k,b,l⟩:=y d c;exact⟨D,k,Ct z.size b,l⟩;obtain⟨D,k,b,l⟩:=v d c;exact⟨D,k,b,x.defs s l⟩
def ZY.later{h c:Gh}{H b:Au}{w a:World}(k:ZY v w)(x:G8 h H w c b a):ZY v a:=λl e=>by obtain⟨y,d⟩:=k l e;exact x.loops l y d
def Jg(P:Program)(N:Nat)(c:Code)(env:Env)(H:Au)(Q:Exit->Env->Au->Prop):Prop:=
 ∀(r:Option Nat)(X:Nat->Prop)(h:Gh)(a:Act)(w:World),St X h N env H a w->ZY r w->
  c.wpIn (FR r) 0 P (λe a' w'=>∃h' env' H',Q e env' H'/\St X h' N env' H' a' w'/\G8 h H w h' H' w'/\Vj a w a' w') a w
def Ea.mono{P:Program}{F:FuncId}{H:Au}{Q:Ac->Au->Prop}(h:Ea P F d H K)(i:∀v b,K v b->Q v b):Ea P F d H Q:=λX g w a s j hr=>(h X g w a s j hr).mono λ_ _ ⟨c,v,f,b,e,q,r⟩=>⟨c,v,f,b,e,i _ _ q,r⟩
def Jg.mono{P:Program}{N:Nat}{H:Au}{Q f:Exit->Env->Au->Prop}(h:Jg P N n g H Q)(j:∀e b d,Q e b d->f e b d):Jg P N n g H f:=λr X c a w s k=>wpIn_mono (h r X c a w s k) λ_ _ _ ⟨i,b,d,q,r⟩=>⟨i,b,d,j _ _ _ q,r⟩
def dy(K:Env->Au->Prop)(Q:Exit->Env->Au->Prop):Exit->Env->Au->Prop
 |.normal,env,H=>K env H
 |e,env,H=>Q e env H
def pO(id:Nat)(Q:Exit->Env->Au->Prop):Exit->Env->Au->Prop
 |.exit id',env,H=>if id'=id then Q .normal env H else Q (.exit id') env H
 |e,env,H=>Q e env H
section rules
variable {P:Program}{N:Nat}{env:Env}{H:Au}{Q:Exit->Env->Au->Prop}
def Jg.skip(h:Q .normal env H):Jg P N .skip env H Q:=λ_ _ _ _ _ s _=>wpIn_skip ⟨_,_,_,h,s,G8.refl _ _ _,.same rfl⟩
def Jg.ret(h:Q .ret env H):Jg P N .ret env H Q:=λ_ _ _ _ _ s _=>wpIn_ret ⟨_,_,_,h,s,G8.refl _ _ _,.same rfl⟩
def Jg.exit(h:Q (.exit t) env H):Jg P N (.exit t) env H Q:=λ_ _ _ _ _ s _=>wpIn_exit ⟨_,_,_,h,s,G8.refl _ _ _,.same rfl⟩
def Jg.seq{x y:Code}(h:Jg P N x env H (dy (λb d=>Jg P N y b d Q) Q)):Jg P N (.seq x y) env H Q:=by
 intro r X g a w s k;refine wpIn_seq (wpIn_mono (h r X g a w s k) ?_);rintro e n u ⟨j,b,d,q,f,c,i⟩;cases e with
 |normal=>apply wpIn_mono (q r X j n u f (k.later c));rintro e a2 v ⟨p,env2,m,q2,t,l,o⟩;exact⟨p,env2,m,q2,t,c.trans l,i.trans f.sim c l o⟩
 |_=>exact⟨j,b,d,q,f,c,i⟩
theorem Jg.block{id:Nat}(h:Jg P N n env H (pO id Q)):Jg P N (.block id n) env H Q:=by intro r X g a w s k;refine wpIn_block (wpIn_mono (h r X g a w s k) ?_);rintro e f j ⟨i,b,d,q,r⟩;cases e<;>grind[pO,Exit.inBlock]
def FU(N n0:Nat)(env:Env)(H:Au)(env2:Env)(H2:Au):Prop:=
 n0<=θ H2/\∀(X:Nat->Prop)(h:Gh)(a:Act)(w:World),St X h N env H a w->
  ∃h2,St X h2 N env2 H2 a w/\(∀id,id<n0->h2.gen id=h.gen id/\h2.io id=h.io id/\h2.cap id=h.cap id)/\∀B,owned h2 H2 B->owned h H B
def FU.ext{d:Gh}{f:Au}(hn:θ f=N)(o:N≤θ R)
  (k:∀id,id<N->d.gen id=h.gen id/\d.io id=h.io id/\d.cap id=h.cap id) (m:∀B,owned d R B->owned h H B) (x:G8 O f A h H w):G8 O f A d R w where
 os:=x.os
 tape:=x.tape
 output:=x.output
 size:=x.size
 keep:=x.keep
 n:=o!
 gen id hid:=by rw[(k id o!).1];exact x.gen id hid
 same id hid e:=by obtain⟨a,b,c⟩:=k id o!;rw[a]at e;rw[b,c];exact x.same id hid e
 fresh B hB:=x.fresh B (m B hB)
 loops:=x.loops
theorem FU.refl(N:Nat)(env:Env)(H:Au):FU N (θ H) env H env H:=⟨An _,λ_ h _ _ s=>⟨h,s,λ_ _=>⟨rfl,rfl,rfl⟩,λ_ h=>h⟩⟩
def Jg.weak(f:FU N (θ H) env H g R)(h:Jg P N n g R Q):Jg P N n env H Q:=by intro r X d a w s k;obtain⟨m,t,c,o⟩:=f.2 X d a w s;apply wpIn_mono (h r X m a w t k);rintro e v x ⟨l,b,i,q,p,u,j⟩;exact⟨l,b,i,q,p,(FU.ext rfl f.1 c o (G8.refl d H w)).trans u,j⟩
end rules
def Env.get:Env->Nat->Ac
 |[],_=>.any
 |(k,v)::r,t=>if k=t then v else Env.get r t
def Env.put(env:Env)(t:Nat)(v:Ac):Env:=(t,v)::env.filter λp=>decide (p.1≠t)
def Env.putO(env:Env):Option Nat->Ac->Env
 |some t,v=>env.put t v
 |none,_=>env
theorem Nv{env:Env}{t:Nat}:Env.get env t=.any\/(t,Env.get env t)∈env:=by induction env<;>grind[Env.get]
def qh:Value->Ac
 |.bool b=>.bool b
 |.int k n=>.int k n
 |.string s=>.str s.data.toList
 |.pointer ε=>.nilp
 |.slice ε 0 0=>.nils
 |.nilFunc=>.nilf
 |_=>.any
def ACK:Value->Ac
 |.agg cs=>if cs.toList.all (·.oneCell')then .agg (cs.toList.map qh)else .any
 |v=>qh v
theorem pX(x:Cx)(v:Value):Bx x (qh v) v:=by unfold qh;split;exact .bool _;exact .int _ _;exact .str _ rfl;exact .nilp;exact .nils;exact .nilf;exact .any _
theorem yO(x:Cx)(v:Value):Bx x (ACK v) v:=by unfold ACK;split;rename_i b;split;rename_i h;refine .agg k! (λj c a=>?_) λj v c a d=>?_;grind;grind[pX];exact .any _;exact pX x _
def BO(env:Env):Operand->Ac
 |.tmp t=>env.get t
 |.const v=>ACK v
 |.global _=>.any
 |.func f=>.fn (.func f) [] []
def Dk(h:OZ f g j)(o:Operand):Bx f (BO g o) (j.eval o):=by
 cases o with
 |tmp t=>rcases Nv (env:=g) (t:=t)with e|m;simp only[BO,e];exact .any _;exact(h _ _ m).2
 |const v=>exact yO f v
 |global x=>exact .any _
 |func a=>exact .fn rfl rfl (λ_ _ _ h=>by simp at h) (λ_ _ _ h=>by simp at h)
theorem OZ.put(h:OZ f g j){d:Nat}{v:Ac}(i:d<j.tmps.size)(k:Bx f v b):OZ f (g.put d v) (j.put (δ d) b):=by
 intro t u m;simp only[Act.put];rcases Aw.1 m with e|m;simp_all;rw[BU]at m;obtain⟨m,a⟩:=m;have a:t≠d:=q!
 obtain⟨c,x⟩:=h t u m;have:(j.tmps.setIfInBounds d b).getD t undef=j.tmps.getD t undef:=by rw[QZ,QZ,vG (λe=>a e.symm)]
 grind
def OZ.putO(h:OZ f g j){d:Option Nat}{v:Ac}(b:∀t,d=δ t->t<j.tmps.size)(e:Bx f v B):OZ f (g.putO d v) (j.put d B):=by
 cases d with
 |none=>exact h
 |some d=>exact h.put (b d rfl) e
def dt(a:Act)(d:Option Nat)(c:Value):(a.put d c).tmps.size=a.tmps.size:=by cases d<;>simp[Act.put]
def JV(P:Program)(N:Nat)(o:Oper)(env:Env)(H:Au)(K:Ac->Au->Prop):Prop:=
 ∀(r:Option Nat)(X:Nat->Prop)(h:Gh)(a:Act)(w:World),St X h N env H a w->∀Q:Exit->Act->World->Prop,
  Oper.wpIn (FR r) 0 P o a w (λa' w'=>∃c v h' H',a'=a.put o.dst c/\K v H'/\Bx (cx X h' H' w') v c/\I1 X h' H' w'/\G8 h H w h' H' w') Q
def JV.mono{P:Program}{N:Nat}{H:Au}{d:Ac->Au->Prop}(h:JV P N o g H K)(i:∀v b,K v b->d v b):JV P N o g H d:=λr X j a w s Q=>Oper.wpIn_mono (λ_ _ ⟨c,v,f,b,e,k,r⟩=>⟨c,v,f,b,e,i _ _ k,r⟩) (h r X j a w s Q)
def Op.plain:Op->Bool
 |.defer _=>η
 |_=>ζ
def C3(n:Op.plain o.op=ζ)(h:∀(X:Nat→Prop)(h:Gh)(a:Act)(w:World),St X h N g H a w→ ∀Q:Exit→Act→World→Prop,
  Oper.wp P o a w (λp b=>∃c v i e,p=a.put o.dst c/\u v e/\Bx (cx X i e b) v c/\I1 X i e b/\G8 h H w i e b) Q):JV P N o g H u:=by
 intro r X K a w s Q;have d:=h X K a w s Q;refine⟨λ_ _=>O!,?_⟩;rw[Oper.semAt_eq _ _ _ (λc j=>by rw[j]at n;cases n)];unfold Oper.wp at d;generalize (execOp a.eval o).run P w=res at d;have j:∀{f:FuncId}{args:Array Value}{b:World}{R:Ending->World->Prop},Calls P f args b R->CallsIn (FR r) (0-1) P f args b R:=by
  intro f args b R t;have m:CallsIn Fence.wide (0-1) P f args b R:=callsIn_wide.2 t;cases r with
  |none=>exact m
  |some l=>exact m
 cases res with
 |ok v b=>
  cases v with
  |enter f args=>exact⟨(λh=>by cases h),j d⟩
  |row row args=>refine⟨(λh=>by cases h),λc q _=>?_⟩;obtain⟨v,k,z,y⟩:=d c q;exact⟨v,k,z,stepsIn_wide.2 y⟩
  |round l f tmps assign body=>exact d.elim
  |_=>exact d
 |halt x b=>cases x<;>exact d
def WU(ops:Array Oper)(env:Env)(j:Nat):Ac:=
 match (ops[j]?).bind (·.dst)with
 |some d=>env.get d
 |none=>.any
def Xw(ops:Array Oper)(g:Option (Nat×Bool))(env:Env)(A B:Prop):Prop:=
 match g with
 |none=>A
 |some (j,want)=>
  match WU ops env j with
  |.bool b=>(b=want->A)/\(b=(!want)->B)
  |.tup []=>B
  |_=>False
def Oz(n:Nat)(ops:List Oper):Bool:=ops.all λo=>match o.dst with|some d=>decide (d<n)|none=>ζ
theorem ya{a:Array Oper}(r:OZ f g j){A B:Prop}(h:Xw a o.guard g A B):
  (Region.wanted o (yielded a j.tmps)=ζ/\A)\/(Region.wanted o (yielded a j.tmps)=η/\B):=by
 unfold Xw at h;unfold Region.wanted;cases u:o.guard with
 |none=>grind
 |some p=>
  obtain⟨w,want⟩:=p;rw[u]at h;simp only at h⊢;cases x:WU a g w with
  |bool b=>
   rw[x]at h;simp only at h;have q:yielded a j.tmps w=δ b:=by
    unfold WU at x;unfold yielded;cases l:(a[w]?).bind (·.dst)with
    |none=>grind
    |some d=>
     rw[l]at x;simp only at x;simp only[AD];rcases Nv (env:=g) (t:=d)with e|m;grind;rw[x]at m;obtain⟨n,hr⟩:=r _ _ m;have:j.tmps[d]?=δ (.bool b):=by
      have i:j.tmps.getD d undef=.bool b:=by generalize j.tmps.getD d undef=c at hr;cases hr;rfl
      rw[QZ]at i;grind[Array.getElem?_eq_getElem]
     rw[this]
   rw[q];by_cases s:b=want;grind;refine .inr ⟨by simp[s],h.2 ?_⟩;cases b<;>cases want<;>simp_all
  |tup v=>
   cases v with
   |cons _ _=>grind
   |nil=>
    rw[x]at h;simp only at h;refine .inr ⟨?_,h⟩;have q:yielded a j.tmps w=ε:=by
     unfold WU at x;unfold yielded;cases l:(a[w]?).bind (·.dst)with
     |none=>rfl
     |some d=>
      rw[l]at x;simp only at x;simp only[AD];rcases Nv (env:=g) (t:=d)with e|m;grind;rw[x]at m;obtain⟨n,hr⟩:=r _ _ m;have i:∃k,j.tmps.getD d undef=.tuple k:=by generalize j.tmps.getD d undef=c at hr;cases hr;exact⟨_,rfl⟩
      obtain⟨k,i⟩:=i;have:j.tmps[d]?=δ (.tuple k):=t!
      rw[this]
    rw[q];rfl
  |_=>grind
section
variable {P:Program}{N:Nat}{env:Env}{H:Au}{Q:Exit->Env->Au->Prop}
def Jg.cond{y:Code}{b:Bool}(d:BO env k=.bool b)(h:b=ζ->Jg P N n env H Q)(f:b=η->Jg P N y env H Q):Jg P N (.cond k n y) env H Q:=by
 intro r X g a w s c;have hr:=Dk s.env k;rw[d]at hr;have e:a.eval k=.bool b:=by generalize a.eval k=v at hr;cases hr;rfl
 apply wpIn_cond e;cases b;exact f rfl r X g a w s c;exact h rfl r X g a w s c
end
mutual
def Ac.idsAll(p:Nat->Bool):Ac->Bool
 |.ptr id _ _=>p id
 |.sl id _ _ _ _=>p id
 |.yf id=>p id
 |.mp id=>p id
 |.itp id m=>p id&&p m
 |.vptr cs=>Ac.idsAllL p cs
 |.vs _ rows=>Ac.idsAllL p rows
 |.fn _ a b=>Ac.idsAllL p a&&Ac.idsAllL p b
 |.agg cs=>Ac.idsAllL p cs
 |.tup cs=>Ac.idsAllL p cs
 |.bool _|.int _ _|.str _|.nilp|.nils|.nilf|.any=>ζ
def Ac.idsAllL(p:Nat->Bool):List Ac->Bool
 |[]=>ζ
 |v::r=>Ac.idsAll p v&&Ac.idsAllL p r
end
mutual
def Ac.ren(ρ:Nat->Nat):Ac->Ac
 |.ptr id g off=>.ptr (ρ id) g off
 |.sl id g sz off len=>.sl (ρ id) g sz off len
 |.yf id=>.yf (ρ id)
 |.mp id=>.mp (ρ id)
 |.itp id m=>.itp (ρ id) (ρ m)
 |.vptr cs=>.vptr (Ac.renL ρ cs)
 |.vs sz rows=>.vs sz (Ac.renL ρ rows)
 |.fn f a b=>.fn f (Ac.renL ρ a) (Ac.renL ρ b)
 |.agg cs=>.agg (Ac.renL ρ cs)
 |.tup cs=>.tup (Ac.renL ρ cs)
 |.bool b=>.bool b
 |.int k n=>.int k n
 |.str s=>.str s
 |.nilp=>.nilp
 |.nils=>.nils
 |.nilf=>.nilf
 |.any=>.any
def Ac.renL(ρ:Nat->Nat):List Ac->List Ac
 |[]=>[]
 |v::r=>Ac.ren ρ v::Ac.renL ρ r
end
theorem OR(a:Nat->Nat)(l:List Ac):Ac.renL a l=l.map (Ac.ren a):=by induction l<;>grind[Ac.renL]
theorem Dt(p:Nat->Bool)(l:List Ac):Ac.idsAllL p l=ζ↔∀v∈l,v.idsAll p=ζ:=by induction l<;>grind[Ac.idsAllL]
theorem Ms{p:Nat->Bool}(h:Ac.idsAllL p d=ζ)(a:d[N]?=δ e):e.idsAll p=ζ:=by grind[Dt]
theorem wL(a:Nat->Nat)(v:Ac):(v.ren a).cells=v.cells.map (Ac.ren a):=by cases v<;>simp[Ac.ren,Ac.cells,OR]
def Uy{p:Nat->Bool}(h:e.idsAll p=ζ):∀u∈e.cells,u.idsAll p=ζ:=by
 cases e<;>simp only[Ac.cells,BA]<;>first
  |(intro u a;subst a;exact h)
  |(simp only[Ac.idsAll]at h;exact(Dt _ _).1 h)
theorem Bx.ren{x y:Cx}{p:Nat→Bool}{ρ:Nat→Nat}(F:∀id,p id=ζ→id<x.n→ρ id<y.n∧y.gen (ρ id)=x.gen id∧y.io (ρ id)=x.io id∧y.cap (ρ id)=x.cap id)
  (Y:y.w=x.w) (hO:∀B,y.O B->x.O B) {v:Ac}  (r:Bx x v b):v.idsAll p=ζ->Bx y (v.ren ρ) b:=by
 induction r with
 |bool c=>exact λ_=>.bool c
 |int k n=>exact λ_=>.int k n
 |str t L=>exact λ_=>.str t L
 |nilp=>exact λ_=>.nilp
 | @ptr id g H b A T E z=>intro q;obtain⟨a,c,d,e⟩:=F id q A;refine .ptr a (by rw[c];exact T) E λC=>?_;rw[c]at C;rw[d];exact z C
 | @vptr cs B H f K S z X M=>intro q;simp only[Ac.idsAll]at q;simp only[Ac.ren,OR];refine .vptr f (λo=>K (hO B o)) (by rw[Y];exact S) (λj v l=>?_) λj v l=>?_;grind;grind[Option.some.injEq,Ms]
 |nils=>exact λ_=>.nils
 | @vs sz D a cap f P W al ha X M=>
  intro q;simp only[Ac.idsAll]at q;simp only[Ac.ren,OR];have I:∀{j:Nat}{e:Ac},(D.map (Ac.ren ρ))[j]?=δ e->∃u,D[j]?=δ u/\e=u.ren ρ:=by grind[Option.some.injEq]
  have G:∀{u:Ac}{i:Nat}{v:Ac},(u.ren ρ).cells[i]?=δ v->∃t,u.cells[i]?=δ t/\v=t.ren ρ:=by grind[wL,Option.some.injEq]
  have J:(D.map (Ac.ren ρ)).length=θ D:=k!
  rw[<-J];refine .vs f (by rw[J];exact P) W (λj e l=>?_) (λV=>?_) λj e i v l U=>?_;grind[wL,List.length_map];obtain⟨B,H,e,K,S,z⟩:=ha (by simpa using V);refine⟨B,H,e,λo=>K (hO B o),by rw[Y];exact S,λj e i v l U=>?_⟩;obtain⟨u,s,rfl⟩:=I l;obtain⟨t,L,rfl⟩:=G U;rw[Y];exact z j u i t s L;obtain⟨u,s,rfl⟩:=I l;obtain⟨t,L,rfl⟩:=G U;exact M j u i t s L (Uy (Ms q s) _ (BN L))
 | @sl id g sz H len b A T E z=>intro q;obtain⟨a,c,d,e⟩:=F id q A;refine .sl a (by rw[c];exact T) E λC=>?_;rw[c]at C;rw[d,e];exact z C
 | @fn f first N Q R E h2 ap ar Z ad=>
  intro q;simp only[Ac.idsAll,BW]at q;simp only[Ac.ren,OR];refine .fn (by simpa using E) (by simpa using h2) (λj v b l z=>?_) λj v b l z=>?_;rw[CL]at l;cases s:first[j]? with
  |none=>rw[s]at l;cases l
  |some u=>rw[s]at l;simp only[Bt,Ao]at l;subst l;exact Z j u b s z (Ms q.1 s)
  rw[CL]at l;cases s:N[j]? with
  |none=>rw[s]at l;cases l
  |some u=>rw[s]at l;simp only[Bt,Ao]at l;subst l;exact ad j u b s z (Ms q.2 s)
 | @yf id b A E z=>intro q;obtain⟨a,c,d,e⟩:=F id q A;refine .yf a E λC=>?_;rw[c]at C;rw[d];exact z C
 | @mp id b A E z=>intro q;obtain⟨a,c,d,e⟩:=F id q A;refine .mp a E λC=>?_;rw[c]at C;rw[d];exact z C
 | @itp id m b A hm E z=>intro q;simp only[Ac.idsAll,BW]at q;obtain⟨a,c,d,e⟩:=F id q.1 A;obtain⟨a2,b2,d2,e2⟩:=F m q.2 hm;refine .itp a a2 E λC=>?_;rw[c]at C;rw[d,b2,d2,e];exact z C
 |nilf=>exact λ_=>.nilf
 | @agg cs ao h E X M=>
  intro q;simp only[Ac.idsAll]at q;simp only[Ac.ren,OR];refine .agg (by simpa using h) E λj v b l z=>?_;rw[CL]at l;cases s:cs[j]? with
  |none=>rw[s]at l;cases l
  |some u=>rw[s]at l;simp only[Bt,Ao]at l;subst l;exact M j u b s z (Ms q s)
 | @tup vs ax h X M=>
  intro q;simp only[Ac.idsAll]at q;simp only[Ac.ren,OR];refine .tup (by simpa using h) λj v b l z=>?_;rw[CL]at l;cases s:vs[j]? with
  |none=>rw[s]at l;cases l
  |some u=>rw[s]at l;simp only[Bt,Ao]at l;subst l;exact M j u b s z (Ms q s)
 |any b=>exact λ_=>.any b
mutual
theorem AAj{p:Nat->Bool}{d:Nat->Nat}(c:∀id,p id=ζ->d id=id):∀v:Ac,v.idsAll p=ζ->v.ren d=v
 |.ptr id g off,h=>by simp only[Ac.ren,c id h]
 |.sl id g sz off len,h=>by simp only[Ac.ren,c id h]
 |.yf id,h=>by simp only[Ac.ren,c id h]
 |.mp id,h=>by simp only[Ac.ren,c id h]
 |.itp id m,h=>by simp only[Ac.idsAll,BW]at h;simp only[Ac.ren,c id h.1,c m h.2]
 |.vptr cs,h=>by simp only[Ac.ren,Xh c cs h]
 |.vs sz rows,h=>by simp only[Ac.ren,Xh c rows h]
 |.fn f a b,h=>by simp only[Ac.idsAll,BW]at h;simp only[Ac.ren,Xh c a h.1,Xh c b h.2]
 |.agg cs,h=>by simp only[Ac.ren,Xh c cs h]
 |.tup cs,h=>by simp only[Ac.ren,Xh c cs h]
 |.bool _,_=>rfl
 |.int _ _,_=>rfl
 |.str _,_=>rfl
 |.nilp,_=>rfl
 |.nils,_=>rfl
 |.nilf,_=>rfl
 |.any,_=>rfl
theorem Xh{p:Nat->Bool}{b:Nat->Nat}(a:∀id,p id=ζ->b id=id):∀l:List Ac,Ac.idsAllL p l=ζ->Ac.renL b l=l
 |[],_=>rfl
 |v::r,h=>by simp only[Ac.idsAllL,BW]at h;simp only[Ac.renL,AAj a v h.1,Xh a r h.2]
end
def tI(P:Program)(t:TypeId):Option (Bool×Nat):=
 match P.info? t,P.underlying t with
 |some i,δ d=>δ ((match d with|.struct _|.array _ _=>ζ|_=>η),i.size)
 |_,_=>ε
def Xt(h:tI P a=δ (s,N))(w:World):(isAgg a).run P w=.ok s w:=by unfold tI at h;split at h;rename_i i d c t;unfold isAgg;simp only[Sem.run_bind,run_underlying t,Result.andThen_ok];split<;>simp_all;cases h
def LG{P:Program}(h:tI P a=δ (s,N))(w:World):(sizeOf a).run P w=.ok N w:=by unfold tI at h;split at h;rename_i i d t c;simp at h;simp[sizeOf,typeInfo,t,h.2];cases h
def P1(H:Au):Ac->Nat->Option (List Ac)
 |.ptr id g off,n=>
  match H[id]? with
  |some (.live g' cs)=>if g=g'/\off+n<=θ cs then δ ((cs.drop off).take n)else ε
  |_=>ε
 |.vptr cs,n=>if n<=θ cs then δ (cs.take n)else ε
 |_,_=>ε
def mW(x:Cx)(vs:List Ac)(cs:List Value):Prop:=θ cs=θ vs/\∀(j:Nat)(v:Ac)(c:Value),vs[j]?=δ v->cs[j]?=δ c->Bx x v c
theorem Of(B a j:Nat):(⟨B,a,ε⟩:Addr).add j=⟨B,a+j,ε⟩:=by grind[Addr.add]
theorem Pj{w:World}(h:w.heap[N]?=δ (.cells i a y))(b:Nat):w.cell? ⟨N,b,ε⟩=i[b]? :=by grind[World.cell?]
theorem uY(s:I1 c h H w)(r:Bx (cx c h H w) e b)(hr:P1 H e N=δ d):
  ∃(B a:Nat)(k:List Value),b=.pointer (δ ⟨B,a,ε⟩)/\θ k=N/\(∀j u,k[j]?=δ u->w.cell? ((⟨B,a,ε⟩:Addr).add j)=δ u/\u.oneCell'=ζ)/\mW (cx c h H w) d k:=by
 cases r with
 | @ptr id g a b O Z V x=>
  simp only[P1]at hr;split at hr;rename_i U k L;split at hr;rename_i m;obtain⟨rfl,F⟩:=m;simp only[Ao]at hr;subst hr;obtain⟨t,q⟩:=s.live id g k L;obtain⟨B,o,rfl⟩:=x t;rcases q with⟨hn,_⟩|⟨D,I,T,S,f,l,K,E,A,M,i⟩;rw[hn]at o;cases o;have:D=B:=by rw[show(cx c h H w).io id=δ B from o]at l;injection l with v;exact v.symm
  subst this;refine⟨D,a,(List.range N).map (λj=>f (a+j)),rfl,k!,?_,?_,?_⟩;intro j u p;have n:j<N:=by grind[Nat.lt_or_ge,List.getElem?_eq_none]
  have Q:u=f (a+j):=by grind[List.getElem?_range]
  subst Q;have y:k[a+j]?=δ (k[a+j]' o!):=Ar o!;obtain⟨J,P,_⟩:=i _ _ y;rw[Of,Pj (w:=w) K];exact⟨J,P⟩;grind[List.length_map,List.length_range,List.length_take,List.length_drop];grind[Nat.lt_or_ge,List.getElem?_eq_none,List.getElem?_range,Option.some.injEq];cases hr;cases hr
 | @vptr k B a f Y W x R=>
  simp only[P1]at hr;split at hr;rename_i A;simp only[Ao]at hr;subst hr;refine⟨B,a,(List.range N).map f,rfl,k!,?_,?_,?_⟩;intro j u p;have n:j<N:=by grind[Nat.lt_or_ge,List.getElem?_eq_none]
  rw[CL,Q6 n]at p;simp only[Bt,Ao]at p;subst p;rw[Of];exact x j _ (Ar o!);grind[List.length_map,List.length_range,List.length_take];intro j u X p z;have n:j<N:=by rcases Ax j N with C|G;exact C;simp_all[Cn]
  rw[bd,C! n]at p;rw[CL,Q6 n]at z;simp only[Bt,Ao]at z;subst z;exact R j u p;cases hr
 |_=>simp only[P1]at hr;cases hr
def iM(P:Program)(t:TypeId)(H:Au)(v:Ac):Option Ac:=
 match tI P t with
 |some (ζ,n)=>(P1 H v n).map Ac.agg
 |some (η,_)=>(P1 H v 1).bind List.head?
 |none=>ε
theorem yp(s:I1 c h H w)(r:Bx (cx c h H w) e b)(X:iM P a H e=δ p):
  ∃B v l,b=.pointer (δ ⟨B,v,ε⟩)/\(loadVar a ⟨B,v,ε⟩).run P w=.ok l w/\Bx (cx c h H w) p l:=by
 unfold iM at X;split at X;rename_i n g;cases hr:P1 H e n with
 |none=>grind
 |some o=>rw[hr]at X;simp at X;subst X;obtain⟨B,v,f,rfl,d,k,t⟩:=uY s r hr;refine⟨B,v,.agg f.toArray,rfl,?_,?_⟩;unfold loadVar;simp only[Sem.run_bind,Xt g,Result.andThen_ok,if_true,LG g];subst d;rw[run_loadCells_list w ⟨B,v,ε⟩ f λj e i=>(k j e i).1];rfl;refine .agg (by simpa using t.1) (λj b i=>?_) λj e b i u=>?_;grind;exact t.2 j e b i q!
 rename_i n g;cases hr:P1 H e 1 with
 |none=>grind
 |some o=>
  rw[hr]at X;simp at X;obtain⟨B,v,f,rfl,d,k,t⟩:=uY s r hr;match f,d with
  |[c0],_=>
   match o,t.1 with
   |[u0],_=>simp at X;subst X;refine⟨B,v,c0,rfl,?_,t.2 0 _ _ rfl rfl⟩;unfold loadVar;have m:=(k 0 c0 rfl).1;simp only[Addr.add,if_true]at m;simp[Xt g,m]
 cases X
def nR(P:Program)(env:Env)(H:Au):ResultVar->Option Ac
 |.tmp t=>δ (env.get t)
 |.cell a t=>iM P t H (env.get a)
def S1(P:Program)(env:Env)(H:Au):List ResultVar->Option (List Ac)
 |[]=>δ []
 |r::rs=>
  match nR P env H r,S1 P env H rs with
  |some v,δ vs=>δ (v::vs)
  |_,_=>ε
def iN(P:Program)(fn:Func)(env:Env)(H:Au):Option Ac:=
 match S1 P env H fn.results.toList with
 |some [v]=>δ v
 |some vs=>δ (.tup vs)
 |none=>ε
def j8(h:OZ f g j)(t:Nat):Bx f (g.get t) (j.tmps.getD t undef):=Dk h (.tmp t)
def ua(tmps:Array Value):ResultVar->Sem Value
 |.tmp t=>pure (tmps.getD t undef)
 |.cell a t=>do loadVar t (<-asAddr (tmps.getD a undef))
def AAl(b:Func)(tmps:Array Value):results b tmps=(do
  let a<-b.results.mapM (ua tmps);pure (if h:a.size=1 then a[0]else .tuple a)):=rfl
theorem rH{P:Program}{N:Nat}{X:Nat→Prop}{h:Gh}{env:Env}{H:Au}{a:Act}{w:World}(s:St X h N env H a w):∀(g:List ResultVar)(i:List Ac),S1 P env H g=δ i→
  ∃f,Sem.run P (g.mapM (ua a.tmps)) w=.ok f w/\mW (cx X h H w) i f
 |[],i,hv=>by simp only[S1,Ao]at hv;subst hv;exact⟨[],rfl,rfl,λ_ _ _ h=>by cases h⟩
 |r::g,i,hv=>by
  simp only[S1]at hv;split at hv;rename_i v l k n;simp at hv;subst hv;obtain⟨f,o,b⟩:=rH s g l n;have e:∃c,Sem.run P (ua a.tmps r) w=.ok c w/\Bx (cx X h H w) v c:=by
   cases r with
   |tmp t=>simp only[nR,Ao]at k;subst k;exact⟨_,rfl,j8 s.env t⟩
   |cell x t=>obtain⟨B,y,m,p,q,hr⟩:=yp s.sim (j8 s.env x) k;refine⟨m,?_,hr⟩;simp only[ua,p];simp[asAddr,q]
  obtain⟨c,z,hr⟩:=e;refine⟨c::f,?_,by simpa using b.1,?_⟩;simp_all;intro j u d C A;cases j with
  |zero=>grind
  |succ j=>exact b.2 j u d q! q!
  cases hv
theorem ACp(s:St c h N g H j w)(d:iN P I g H=δ e):
  ∃X,(results I j.tmps).run P w=.ok X w/\Bx (cx c h H w) e X:=by
 unfold iN at d;cases a:S1 P g H I.results.toList with
 |none=>grind
 |some l=>
  rw[a]at d;obtain⟨f,m,b⟩:=rH s _ l a;have n:Sem.run P (I.results.mapM (ua j.tmps)) w=.ok f.toArray w:=by grind[Array.mapM_eq_mapM_toList,Sem.run_map,Result.andThen_ok]
  rw[AAl];simp only[Sem.run_bind,n];simp only[Result.andThen_ok,Sem.run_pure,Result.ok.injEq,and_true,exists_eq_left'];match l,b with
  |[],b=>simp at d;subst d;have:f=[]:=EZ (by simpa using b.1);subst this;exact .tup rfl λv e X i _=>by cases i
  |[v0],b=>
   simp at d;subst d;match f,b.1 with
   |[c0],_=>exact b.2 0 _ _ rfl rfl
  |v0::v1::r,b=>
   simp at d;subst d;have k:f.toArray.size≠1:=by rw[eJ,b.1];simp
   rw[dif_neg k];exact .tup (by simpa using b.1) λv e X i o=>b.2 v e X i q!
def Oa(n0:Nat)(v:Ac)(H:Au)(v2:Ac)(H2:Au):Prop:=
 n0<=θ H2/\∀(X:Nat->Prop)(h:Gh)(w:World)(c:Value),I1 X h H w->Bx (cx X h H w) v c->
  ∃h2,I1 X h2 H2 w/\Bx (cx X h2 H2 w) v2 c/\(∀id,id<n0->h2.gen id=h.gen id/\h2.io id=h.io id/\h2.cap id=h.cap id)/\∀B,owned h2 H2 B->owned h H B
def Oa.refl(v:Ac)(H:Au)(hn:N<=θ H):Oa N v H v H:=⟨hn,λ_ h _ _ s r=>⟨h,s,r,λ_ _=>⟨rfl,rfl,rfl⟩,λ_ h=>h⟩⟩
def AJS(P:Program)(fn:Func)(n0:Nat)(Q:Ac->Au->Prop):Exit->Env->Au->Prop
 |.normal,env,H|.ret,env,H=>∃v v2 H2,iN P fn env H=δ v/\Oa n0 v H v2 H2/\Q v2 H2
 |_,_,_=>False
def env0:Nat->List Ac->Env
 |_,[]=>[]
 |i,v::r=>(i,v)::env0 (i+1) r
theorem yT{t:Nat}{v:Ac}:∀{i:Nat}{l:List Ac},(t,v)∈env0 i l->i<=t/\l[t-i]?=δ v
 |i,u::r,h=>by simp only[env0,Aw]at h;rcases h with⟨rfl,rfl⟩|h;simp;obtain⟨a,b⟩:=yT h;grind
theorem mB{y:Option (List Deferred)}(b:w.heap[N]?=δ (.deferred l))(B a:Nat):(w.putObj N (.deferred y)).cell? ⟨B,a,ε⟩=w.cell? ⟨B,a,ε⟩:=by grind[World.cell?,World.putObj_heap_same,World.putObj_heap_other]
def I1.shut(s:I1 c h H w){x y:Option (List Deferred)}(J:w.heap[N]?=δ (.deferred x)):
  (cx c h H w).Later (cx c h H (w.putObj N (.deferred y)))/\I1 c h H (w.putObj N (.deferred y)):=by
 have C:(cx c h H w).Later (cx c h H (w.putObj N (.deferred y))):=⟨by simp[cx],λB _ _ G=>mB J B G,λ_ _ h=>h,An _,λ_ _=>An _,λ_ _ _=>⟨rfl,rfl⟩⟩
 have d:∀{B:Nat}{o:Obj},w.heap[B]?=δ o->(∀z,o≠.deferred z)->(w.putObj N (.deferred y)).heap[B]?=δ o:=by intro B o a F;by_cases i:B=N;subst i;rw[J]at a;injection a with e;exact(F x e.symm).elim;rw[World.putObj_heap_other i,a]
 refine⟨C,λB a=>⟨by simpa using(s.out B a).1,(s.out B a).2⟩,λid g K l=>?_,λid L l=>?_,s.inj,s.bldKeep λid e l _=>⟨l,rfl,rfl,rfl,λB o _ a F=>(d a F).trans a.symm⟩⟩;obtain⟨A,n⟩:=s.live id g K l;refine⟨A,?_⟩;rcases n with⟨hn,rfl⟩|⟨B,p,T,M,f,X,q,k,E,u,b⟩;exact .inl ⟨hn,rfl⟩;refine .inr ⟨B,p,T,M,f,X,d q (λz=>k!),k,E,u,λj v U=>?_⟩;obtain⟨V,W,Y⟩:=b j v U;exact⟨V,W,Y.later C⟩;obtain⟨A,B,r,X,q,D,O,P,Q,R,S,I⟩:=s.lp id L l;exact⟨A,B,r,X,d q (λz=>k!),D,O,P,Q,R,S,λt v m=>⟨(I t v m).1,(I t v m).2.later C⟩⟩
theorem G8.shut(x:G8 h H w O R A){y z:Option (List Deferred)}(d:w.heap.size<=N)(e:A.heap[N]?=δ (.deferred z)):G8 h H w O R (A.putObj N (.deferred y))where
 os:=x.os
 tape:=x.tape
 output:=x.output
 size:=by simpa using x.size
 keep B hB hn:=by rw[World.putObj_heap_other o!];exact x.keep B hB hn
 n:=x.n
 gen:=x.gen
 same:=x.same
 fresh:=x.fresh
 loops B r hB:=by obtain⟨f,O⟩:=x.loops B r hB;grind[World.putObj_heap_other]
def od{P:Program}{A:Func}{N:Nat}{X:Nat→Prop}{g h:Gh}{H b p:Au}{z:World}{v t:Ac}{f:Env}{a:Act}{Q:Ac→Au→Prop}(o:iN P A f b=δ v)(j:Oa (θ H) v b t p)(B:Q t p):
  ∀(i:List Deferred)(w:World),i.Nodup->(∀d∈i,∃D,d={target:=.collected D,args:= #[]}/\z.heap.size<=D/\w.heap[D]?=δ (.deferred (δ [])))->
   St X h N f b a w->G8 g H z h b w->
   LeavesInM Fence.wide 0 P A a.tmps (λe u=>∃c v h b,e=.returned c/\Q v b/\I1 X h b u/\Bx (cx X h b u) v c/\G8 g H z h b u) i .returning w
 |[],w,_,_,s,x=>by obtain⟨c,m,l⟩:=ACp s o;obtain⟨J,n,r,I,K⟩:=j.2 X h w c s.sim l;exact⟨c,m,c,t,J,p,rfl,B,n,r,FU.ext rfl j.1 I K x⟩
 |d::i,w,hnd,hds,s,x=>by obtain⟨D,rfl,G,q⟩:=hds d k!;simp only[GI]at hnd;refine⟨k!,.inl ⟨D,_,rfl,run_takeDeferred q,?_⟩⟩;have C:=s.sim.shut (y:=ε) q;refine od o j B i _ hnd.2 (λF k=>?_) ⟨C.2,s.env.later C.1,s.size⟩ (x.shut G q);obtain⟨E,rfl,o,j⟩:=hds F (Ce _ k);refine⟨E,rfl,o,?_⟩;rw[World.putObj_heap_other,j];rintro rfl;exact hnd.1 k
theorem KD(b:P.funcs[E]?=δ I)(C:I.body=δ n)(hn:θ d≤I.ntmps)
  (Q:Jg P I.ntmps n (env0 0 d) H (AJS P I (θ H) u)):Ea P E d H u:=by
 intro X g w a s M hr;have D:OZ (cx X g H w) (env0 0 d) {tmps:=a++Array.replicate (I.ntmps-a.size) undef,defers:=[]}:=by
  intro t v m;obtain⟨_,N⟩:=yT m;have G:t<θ d:=q!
  have L:a[t]?=δ (a[t]' o!):=Nr o!;have:(a++Array.replicate (I.ntmps-a.size) undef).getD t undef=a[t]' o!:=by simp_all[X6]
  grind
 refine(callsIn_wide (n:=0)).1 (callsIn_of_wp_marks b C trivial (wpIn_mono (Q ε X g {tmps:=a++Array.replicate (I.ntmps-a.size) undef,defers:=[]} w ⟨s,D,w!⟩ (λl e=>by cases e)) ?_));rintro e z i ⟨F,j,c,q,J,K,A,B,y,x⟩;have k:∀v h f,iN P I j c=δ v->Oa (θ H) v c h f->u h f->LeavesInM Fence.wide 0 P I z.tmps (λe i=>∃n v F c,e=.returned n/\u v c/\I1 X F c i/\Bx (cx X F c i) v n/\G8 g H w F c i) z.defers .returning i:=by intro v h f o p r;rw[B,DN];exact od o p r A i y x J K
 cases e with
 |normal=>obtain⟨v,h,f,o,p,r⟩:=q;exact k v h f o p r
 |ret=>obtain⟨v,h,f,o,p,r⟩:=q;exact k v h f o p r
 |_=>exact q.elim
def Enters(P:Program)(F:FuncId):Bool:=
 match P.funcs[F]? with
 |some fn=>fn.body.isSome&& !(fn.name== "runtime.NumGoroutine")
 |none=>false
def gz(h:Enters P E=ζ)(args:Array Value)(w:World):(callFunc E args).run P w=.ok (.enter E args) w:=by unfold Enters at h;split at h;rename_i a c;unfold callFunc;cases b:a.body<;>simp_all;cases h
def Fk.ren(ρ:Nat->Nat):Fk->Fk
 |.dead=>.dead
 |.live g cs=>.live g (Ac.renL ρ cs)
 |.lp L=>.lp {L with env:=L.env.map λp=>(p.1,p.2.ren ρ)}
 |.mp k es=>.mp k es
 |.it n s=>.it n s
def Fk.idsAll(p:Nat->Bool):Fk->Bool
 |.dead=>ζ
 |.live _ cs=>Ac.idsAllL p cs
 |.lp L=>L.env.all λq=>q.2.idsAll p
 |.mp _ _=>ζ
 |.it _ _=>ζ
def ZW(H:Au)(bs:List Nat):Au:=bs.map λb=>(H.getD b .dead).ren (bs.idxOf ·)
def TB(H:Au)(bs:List Nat)(j:Nat):Nat:=if j<θ bs then bs.getD j 0 else θ H+(j-θ bs)
def bM(ρ:Nat->Nat):Au->List Nat->Au->Au
 |H,b::bs,e::es=>bM ρ (H.set b (e.ren ρ)) bs es
 |H,_,_=>H
def U0(H:Au)(bs:List Nat)(Hc:Au):Au:=bM (TB H bs) H bs Hc++(Hc.drop (θ bs)).map (Fk.ren (TB H bs))
def Sq(c:Nat->Nat):∀(bs:List Nat)(H a:Au),(bM c H bs a).length=θ H
 |[],H,a=>by cases a<;>rfl
 |b::bs,H,[]=>rfl
 |b::bs,H,e::es=>by simp only[bM];rw[Sq c bs];simp
def hY(c:Nat->Nat){id:Nat}:∀(bs:List Nat)(H a:Au),id∉bs->(bM c H bs a)[id]?=H[id]?
 |[],H,a,_=>by cases a<;>rfl
 |b::bs,H,[],_=>rfl
 |b::bs,H,e::es,h=>by simp only[Aw,not_or]at h;simp only[bM];rw[hY c bs _ _ h.2,DW (λe=>h.1 e.symm)]
def wP(a:Nat->Nat):∀(bs:List Nat)(H c:Au)(j b:Nat),bs.Nodup->bs[j]?=δ b->b<θ H->θ bs<=θ c->(bM a H bs c)[b]?=(c[j]?).map (Fk.ren a)
 |[],_,_,_,_,_,hj,_,_=>by simp at hj
 |b0::bs,H,[],_,_,_,_,_,hl=>by simp at hl
 |b0::bs,H,e::es,j,b,hnd,hj,hb,hl=>by
  simp only[GI]at hnd;simp only[bM];cases j with
  |zero=>simp at hj;subst hj;rw[hY a bs _ _ hnd.1];simp[hb]
  |succ j=>simp at hj;rw[wP a bs _ es j b hnd.2 hj (by simpa using hb) (by simpa using hl)];simp
def oX(h:N∈r):r.idxOf N<θ r:=List.idxOf_lt_length_of_mem h
theorem gg(h:N∈r):r[r.idxOf N]?=δ N:=q!
theorem px(a:r.Nodup)(h:r[N]?=δ t):r.idxOf t=N:=q!
section
variable {X:Nat->Prop}{h:Gh}{H:Au}{w:World}{bs:List Nat}
mutual
theorem qt:∀v:Ac,v.idsAll (λ_=>ζ)=ζ
 |.itp _ _=>rfl
 |.ptr _ _ _=>rfl
 |.sl _ _ _ _ _=>rfl
 |.yf _=>rfl
 |.mp _=>rfl
 |.vptr c=>PK c
 |.vs _ d=>PK d
 |.fn _ a b=>by simp only[Ac.idsAll,PK a,PK b,Xk]
 |.agg c=>PK c
 |.tup c=>PK c
 |.bool _|.int _ _|.str _|.nilp|.nils|.nilf|.any=>rfl
theorem PK:∀l:List Ac,Ac.idsAllL (λ_=>ζ) l=ζ
 |[]=>rfl
 |v::r=>by simp only[Ac.idsAllL,qt v,PK r,Xk]
end
def Xs(X:Nat->Prop)(h:Gh)(H:Au)(bs:List Nat)(B:Nat):Prop:=X B\/∃id e,id∉bs/\H[id]?=δ e/\e≠Fk.dead/\h.io id=δ B
def Wd(h:Gh)(bs:List Nat):Gh:=⟨λj=>(bs[j]?).bind h.io,λj=>((bs[j]?).map h.gen).getD 0,λj=>((bs[j]?).map h.cap).getD 0⟩
def zH:m.ren z=.dead↔m=.dead:=by cases m<;>simp[Fk.ren]
theorem lf(d:(ZW H bs)[N]?=δ m)(c:m≠.dead):∃b a,bs[N]?=δ b/\H[b]?=δ a/\a≠.dead/\m=a.ren (bs.idxOf ·):=by grind[ZW,Fk.ren]
theorem AE2(e:(ZW H bs)[N]?=δ (Fk.live t d)):∃b a,bs[N]?=δ b/\H[b]?=δ (Fk.live t a)/\d=Ac.renL (bs.idxOf ·) a:=by obtain⟨b,j,h,f,_,i⟩:=lf e k!;cases j<;>grind[Fk.ren]
theorem dr(d:owned (Wd h bs) (ZW H bs) N):∃b e,b∈bs/\H[b]?=δ e/\e≠Fk.dead/\h.io b=δ N:=by obtain⟨j,e,f,c,a⟩:=d;grind[lf,Wd]
theorem xh(x:Nat)(c:τ (x∈bs)=ζ)(_:x<(cx X h H w).n):
  bs.idxOf x<(cx (Xs X h H bs) (Wd h bs) (ZW H bs) w).n/\(cx (Xs X h H bs) (Wd h bs) (ZW H bs) w).gen (bs.idxOf x)=(cx X h H w).gen x/\(cx (Xs X h H bs) (Wd h bs) (ZW H bs) w).io (bs.idxOf x)=(cx X h H w).io x/\(cx (Xs X h H bs) (Wd h bs) (ZW H bs) w).cap (bs.idxOf x)=(cx X h H w).cap x:=by
 have a:x∈bs:=q!
 have b:=gg a;refine⟨by simpa[cx,ZW]using oX a,?_,?_,?_⟩<;>simp[cx,Wd,b]
def AE3(B:Nat)(a:(cx (Xs X h H bs) (Wd h bs) (ZW H bs) w).O B):(cx X h H w).O B:=by rcases a with(a|⟨id,e,_,d,c,f⟩)|a;exact .inl a;exact .inr ⟨id,e,d,c,f⟩;obtain⟨b,e,_,d,c,f⟩:=dr a;exact .inr ⟨b,e,d,c,f⟩
theorem PP{w:World}(h:w.heap[N]?=δ M):N<w.heap.size:=q!
theorem I1.io_at(s:I1 X h H w)(c:H[N]?=δ m)(p:m≠.dead)(b:h.io N=δ t):t<w.heap.size:=by
 cases m with
 |dead=>grind
 |live g l=>obtain⟨_,hn|⟨d,i,T,B,f,a,j,_⟩⟩:=s.live N g l c;rw[show(cx X h H w).io N=h.io N from rfl,b]at hn;grind;rw[show(cx X h H w).io N=h.io N from rfl,b]at a;injection a with m;subst m;exact PP j
 |lp L=>obtain⟨_,d,r,a,j,_⟩:=s.lp N L c;rw[show(cx X h H w).io N=h.io N from rfl,b]at a;injection a with m;subst m;exact PP j
 |mp k q=>obtain⟨d,i,e,_,o,_⟩:=s.bld N _ c rfl;grind[PP]
 |it n seen=>obtain⟨d,e,_,o⟩:=s.bld N _ c rfl;grind[PP]
def dC:(m.ren z).isB=m.isB:=by cases m<;>rfl
def BAt.ren{h h':Gh}{w w':World}{id id':Nat}{ρ:Nat->Nat}(b:BAt h w id m)(g:h'.io id'=h.io id)(a:h'.gen id'=h.gen id)(f:h'.cap id'=h.cap id)(l:∀B (o:Obj),h.io id=some B->w.heap[B]?=some o->w'.heap[B]?=w.heap[B]?):BAt h' w' id' (m.ren ρ):=by
 cases m with
 |mp k p=>obtain⟨B,i,c,j,d,e⟩:=b;exact⟨B,i,g.trans c,a.trans j,(l B _ c d).trans d,e⟩
 |it n seen=>obtain⟨B,c,j,d⟩:=b;exact⟨B,g.trans c,a.trans j,by rw[f];exact(l B _ c d).trans d⟩
 |_=>trivial
theorem I1.sub(s:I1 X h H w)(K:bs.Nodup)(hb:∀b∈bs,((H.getD b .dead).idsAll λid=>decide (id∈bs))=ζ):I1 (Xs X h H bs) (Wd h bs) (ZW H bs) w where
 out B n:=by have M:¬(∃b e,b∈bs/\H[b]?=δ e/\e≠Fk.dead/\h.io b=δ B)->¬owned (Wd h bs) (ZW H bs) B:=λhn ho=>hn (dr ho);rcases n with n|⟨id,e,Z,d,o,k⟩;exact⟨(s.out B n).1,M λ⟨b,e,_,d,o,k⟩=>(s.out B n).2 ⟨b,e,d,o,k⟩⟩;exact⟨s.io_at d o k,M λ⟨b,e',hm,x,Q,C⟩=>Z (s.inj id b e e' B d x o Q k C▸hm)⟩
 live j g cs hj:=by
  obtain⟨b,A,a,D,rfl⟩:=AE2 hj;obtain⟨Y,J⟩:=s.live b g A D;refine⟨by simpa[cx,Wd,a]using Y,?_⟩;rcases J with⟨hn,rfl⟩|⟨B,N,T,fz,f,y,c,G,ad,W,l⟩;exact .inl ⟨by simpa[cx,Wd,a]using hn,rfl⟩;refine .inr ⟨B,N,T,fz,f,by simpa[cx,Wd,a]using y,c,by simpa[cx,Wd,a]using G,by rw[OR,BT];exact ad,W,?_⟩;intro i v z;rw[OR,CL]at z;cases hu:A[i]? with
  |none=>rw[hu]at z;cases z
  |some u=>rw[hu]at z;simp only[Bt,Ao]at z;subst z;obtain⟨d,k,x⟩:=l i u hu;refine⟨d,k,Bx.ren (p:=λid=>decide (id∈bs)) (λid=>xh id) rfl AE3 x ?_⟩;have:=hb b (BN a);grind[Ms,Fk.idsAll]
 lp j L hj:=by
  obtain⟨b,P,a,D,o,I⟩:=lf hj k!;cases P with
  |dead=>exact(o rfl).elim
  |live g cs=>simp[Fk.ren]at I
  |mp=>simp[Fk.ren]at I
  |it=>simp[Fk.ren]at I
  |lp L0=>simp only[Fk.ren,Fk.lp.injEq]at I;subst I;obtain⟨Y,B,r,y,c,d,k,x,C,h5,h6,h7⟩:=s.lp b L0 D;refine⟨by simpa[cx,Wd,a]using Y,B,r,by simpa[cx,Wd,a]using y,c,d,k,x,C,h5,h6,λt v m=>?_⟩;obtain⟨q,hq,e⟩:=Bs.1 m;simp only[EX]at e;obtain⟨rfl,rfl⟩:=e;refine⟨(h7 q.1 q.2 hq).1,Bx.ren (p:=λid=>decide (id∈bs)) (λid=>xh id) rfl AE3 (h7 q.1 q.2 hq).2 ?_⟩;have:=hb b (BN a);grind[Fk.idsAll,List.all_eq_true]
 inj i i' e e' B d k hn1 hn2 x C:=by obtain⟨b,c0,E,R,U,_⟩:=lf d hn1;obtain⟨b',O,F,S,V,_⟩:=lf k hn2;have e:=s.inj b b' c0 O B R S U V (by simpa[Wd,E]using x) (by simpa[Wd,F]using C);subst e;rw[<-px K E,<-px K F]
 bld j e hj n:=by obtain⟨b,P,a,D,o,rfl⟩:=lf hj (by rintro rfl;cases n);rw[dC]at n;exact(s.bld b P D n).ren (by simp[Wd,a]) (by simp[Wd,a]) (by simp[Wd,a]) (λ_ _ _ _=>rfl)
def NT(h:Gh)(H:Au)(bs:List Nat)(hc:Gh):Gh:=
 let pick {α:Type} (f fc:Nat->α) (id:Nat):α:=if id∈bs then fc (bs.idxOf id)else if id<θ H then f id else fc (θ bs+(id-θ H))
 ⟨pick h.io hc.io,pick h.gen hc.gen,pick h.cap hc.cap⟩
def mR:(U0 H bs R).length=θ H+(θ R-θ bs):=by simp[U0,Sq]
def Yn(h:bs.Nodup)(k:θ bs≤θ R)(a:(U0 H bs R)[N]?=δ m):
  (N∉bs/\N<θ H/\H[N]?=δ m)\/∃j f,N=TB H bs j/\R[j]?=δ f/\m=f.ren (TB H bs):=by
 unfold U0 at a;rcases Ax N (θ H) with b|b;rw[CT (by rw[Sq];exact b)]at a;by_cases g:N∈bs;have i:=gg g;rw[wP _ bs H R _ N h i b k]at a;cases d:R[bs.idxOf N]? with
 |none=>rw[d]at a;cases a
 |some f=>rw[d]at a;simp only[Bt,Ao]at a;refine .inr ⟨bs.idxOf N,f,?_,d,a.symm⟩;unfold TB;rw[C! (oX g),Ns,i];rfl
 rw[hY _ bs H R g]at a;exact .inl ⟨g,b,a⟩;rw[Ci (by rw[Sq];exact b),Sq,CL,Km]at a;cases d:R[θ bs+(N-θ H)]? with
 |none=>rw[d]at a;cases a
 |some f=>rw[d]at a;simp only[Bt,Ao]at a;refine .inr ⟨_,f,?_,d,a.symm⟩;unfold TB;rw[D! o!];omega
theorem bg{hc:Gh}(f:bs.Nodup)(a:∀b∈bs,b<θ H)(j:Nat)(g:j<θ R):
  TB H bs j<(U0 H bs R).length/\(NT h H bs hc).gen (TB H bs j)=hc.gen j/\(NT h H bs hc).io (TB H bs j)=hc.io j/\(NT h H bs hc).cap (TB H bs j)=hc.cap j:=by
 rw[mR];unfold TB;split;grind[NT];have c:θ H+(j-θ bs)∉bs:=λc=>by have:=a _ c;omega
 have e:θ bs+(θ H+(j-θ bs)-θ H)=j:=o!
 simp only[NT,c,if_false,show¬(θ H+(j-θ bs)<θ H)from by omega,e,and_true];omega
theorem nP(c:bs.Nodup)(k:∀b∈bs,b<θ H)(r:θ bs≤θ R)(s:owned (NT h H bs O) (U0 H bs R) N):
  (∃id e,id∉bs/\H[id]?=δ e/\e≠Fk.dead/\h.io id=δ N)\/owned O R N:=by
 obtain⟨id,e,o,l,a⟩:=s;rcases Yn c r o with⟨u,p,t⟩|⟨j,m,rfl,q,d⟩;grind[NT];have i:j<θ R:=q!
 rw[(bg (h:=h) (hc:=O) c k j i).2.2.1]at a;exact .inr ⟨j,m,q,λn=>l (d.trans (zH.2 n)),a⟩
theorem G8.back(l:bs.Nodup)(k:∀b∈bs,b<θ H)(x:G8 (Wd h bs) (ZW H bs) w O R A):G8 h H w (NT h H bs O) (U0 H bs R) A:=by
 have r:θ bs<=θ R:=by have:=x.n;simpa[ZW]using this
 refine⟨x.os,x.tape,x.output,x.size,λB p hn=>x.keep B p λa=>?_,?_,?_,?_,?_,x.loops⟩;obtain⟨b,e,_,g,f,i⟩:=dr a;exact hn ⟨b,e,g,f,i⟩;rw[mR];omega;intro id c;by_cases d:id∈bs;have q:=gg d;have:=x.gen (bs.idxOf id) (by simpa[ZW]using oX d);grind[NT,Wd];simp[NT,d,c];intro id c;by_cases d:id∈bs;have q:=gg d;have:=x.same (bs.idxOf id) (by simpa[ZW]using oX d);grind[NT,Wd];simp[NT,d,c];intro B a;rcases nP l k r a with⟨id,e,_,g,f,i⟩|a;exact .inl ⟨id,e,g,f,i⟩;rcases x.fresh B a with a|a;obtain⟨b,e,_,g,f,i⟩:=dr a;exact .inl ⟨b,e,g,f,i⟩;grind
def Bx.back(g:bs.Nodup)(f:∀d∈bs,d<θ H)(l:θ bs≤θ R)
  (r:Bx (cx (Xs X h H bs) O R w) e b):Bx (cx X (NT h H bs O) (U0 H bs R) w) (e.ren (TB H bs)) b:=by
 refine Bx.ren (x:=cx (Xs X h H bs) O R w) (y:=cx X (NT h H bs O) (U0 H bs R) w) (ρ:=TB H bs) (p:=λ_=>ζ) (λj _ k=>bg (h:=h) (hc:=O) g f j k) rfl (λB a=>?_) r (qt e);rcases a with a|a;exact .inl (.inl a);rcases nP g f l a with a|a;exact .inl (.inr a);exact .inr a
theorem I1.back(s:I1 X h H w)(l:bs.Nodup)(z:∀b∈bs,b<θ H)(x:G8 (Wd h bs) (ZW H bs) w O R A)
  (sc:I1 (Xs X h H bs) O R A):I1 X (NT h H bs O) (U0 H bs R) A:=by
 have Y:θ bs<=θ R:=by have:=x.n;simpa[ZW]using this
 have xb:=G8.back (h:=h) l z x;have M:∀{id:Nat}{e:Fk}{B:Nat}{o:Obj},id∉bs->H[id]?=δ e->e≠.dead->h.io id=δ B->w.heap[B]?=δ o->A.heap[B]?=δ o:=by intro id e B o y E ao c d;refine(x.keep B (PP d) λho=>?_).trans d;obtain⟨b,e',ap,I,h0,S⟩:=dr ho;exact y (s.inj id b e e' B E I ao h0 c S▸ap)
 have lt:∀{j:Nat}{D:Fk},R[j]?=δ D->j<θ R:=by intro j D F;rcases Ax j (θ R) with C|C;exact C;grind[List.getElem?_eq_none]
 refine⟨λB n=>⟨DB (s.out B n).1 x.size,λho=>?_⟩,λid g cs U=>?_,λid L U=>?_,λid ar e e' B G C ad al I S=>?_,λid e U n=>?_⟩;rcases nP l z Y ho with⟨id,e,_,G,h0,C⟩|ho;exact(s.out B n).2 ⟨id,e,G,h0,C⟩;exact(sc.out B (.inl n)).2 ho;rcases Yn l Y U with⟨y,k,E⟩|⟨j,D,rfl,F,a⟩;obtain⟨W,K⟩:=s.live id g cs E;refine⟨by simpa[cx,NT,y,k]using W,?_⟩;rcases K with⟨hn,rfl⟩|⟨B,Q,T,fz,f,c,d,J,Z,V,p⟩;exact .inl ⟨by simpa[cx,NT,y,k]using hn,rfl⟩;refine .inr ⟨B,Q,T,fz,f,by simpa[cx,NT,y,k]using c,M y E k! c d,by simpa[cx,NT,y,k]using J,Z,V,λi v P=>?_⟩;obtain⟨G,C,I⟩:=p i v P;exact⟨G,C,I.later (xb.later X)⟩;cases D with
 |dead=>simp[Fk.ren]at a
 |lp L=>simp[Fk.ren]at a
 |mp=>simp[Fk.ren]at a
 |it=>simp[Fk.ren]at a
 |live g0 N=>
  simp only[Fk.ren,Fk.live.injEq]at a;obtain⟨rfl,rfl⟩:=a;obtain⟨_,r1,r2,r3⟩:=bg (h:=h) (hc:=O) l z j (lt F);obtain⟨W,K⟩:=sc.live j g N F;refine⟨r1.trans W,?_⟩;rcases K with⟨hn,rfl⟩|⟨B,Q,T,fz,f,c,d,J,Z,V,p⟩;exact .inl ⟨r2.trans hn,rfl⟩;refine .inr ⟨B,Q,T,fz,f,r2.trans c,d,J.trans r3.symm,by rw[OR,BT];exact Z,V,λi v P=>?_⟩;rw[OR,CL]at P;cases hu:N[i]? with
  |none=>rw[hu]at P;cases P
  |some u=>rw[hu]at P;simp only[Bt,Ao]at P;subst P;obtain⟨G,C,I⟩:=p i u hu;exact⟨G,C,Bx.back l z Y I⟩
 rcases Yn l Y U with⟨y,k,E⟩|⟨j,D,rfl,F,a⟩;obtain⟨W,B,r,c,d,G,C,I,S,h5,h6,h7⟩:=s.lp id L E;exact⟨by simpa[cx,NT,y,k]using W,B,r,by simpa[cx,NT,y,k]using c,M y E k! c d,G,C,I,S,h5,h6,λt v m=>⟨(h7 t v m).1,(h7 t v m).2.later (xb.later X)⟩⟩;cases D with
 |dead=>simp[Fk.ren]at a
 |live g0 N=>simp[Fk.ren]at a
 |mp=>simp[Fk.ren]at a
 |it=>simp[Fk.ren]at a
 |lp L0=>simp only[Fk.ren,Fk.lp.injEq]at a;subst a;obtain⟨_,r1,r2,r3⟩:=bg (h:=h) (hc:=O) l z j (lt F);obtain⟨W,B,r,c,d,G,C,I,S,h5,h6,h7⟩:=sc.lp j L0 F;refine⟨r1.trans W,B,r,r2.trans c,d,G,C,I,S,h5,h6,λt v m=>?_⟩;obtain⟨q,hq,e⟩:=Bs.1 m;simp only[EX]at e;obtain⟨rfl,rfl⟩:=e;exact⟨(h7 q.1 q.2 hq).1,Bx.back l z Y (h7 q.1 q.2 hq).2⟩
 have key:∀{id:Nat}{e:Fk},(U0 H bs R)[id]?=δ e→e≠.dead→(NT h H bs O).io id=δ B→
   (id∉bs/\H[id]?=δ e/\h.io id=δ B)\/∃j D,id=TB H bs j/\R[j]?=δ D/\D≠.dead/\O.io j=δ B:=by
  intro id e U ao c;rcases Yn l Y U with⟨y,k,E⟩|⟨j,D,rfl,F,a⟩;exact .inl ⟨y,E,by simpa[NT,y,k]using c⟩;exact .inr ⟨j,D,rfl,F,λh0=>ao (a.trans (zH.2 h0)),by rw[<-(bg (h:=h) (hc:=O) l z j (lt F)).2.2.1];exact c⟩
 rcases key G ad I with⟨m1,a1,b1⟩|⟨j1,g1,e1,a1,d1,b1⟩<;>rcases key C al S with⟨m2,a2,b2⟩|⟨j2,g2,e2,a2,d2,b2⟩;exact s.inj _ _ _ _ B a1 a2 ad al b1 b2;exact((sc.out B (.inr ⟨_,_,m1,a1,ad,b1⟩)).2 ⟨j2,g2,a2,d2,b2⟩).elim;exact((sc.out B (.inr ⟨_,_,m2,a2,al,b2⟩)).2 ⟨j1,g1,a1,d1,b1⟩).elim;rw[e1,e2,sc.inj _ _ _ _ B a1 a2 d1 d2 b1 b2];rcases Yn l Y U with⟨y,k,E⟩|⟨j,D,rfl,F,rfl⟩;have b:=s.bld id e E n;have a:e.ren (λx=>x)=e:=by cases e<;>simp_all[Fk.ren,Fk.isB]
 have:=b.ren (h':=NT h H bs O) (w':=A) (id':=id) (ρ:=λx=>x) (by simp[NT,y,k]) (by simp[NT,y,k]) (by simp[NT,y,k]) (λB o c hb=>(M y E (by rintro rfl;cases n) c hb).trans hb.symm);rwa [a]at this;rw[dC]at n;obtain⟨_,r1,r2,r3⟩:=bg (h:=h) (hc:=O) l z j (lt F);exact(sc.bld j D F n).ren r2 r1 r3 (λ_ _ _ _=>rfl)
end
def nv(env:Env)(c:Call)(first caps:List Ac):List Ac:=first++c.args.toList.map (BO env)++caps
def fI(P:Program)(s f:Nat):Option (Nat×TypeId×Nat):=
 match P.underlying s with
 |some (.struct fs)=>
  match fs[f]? with
  |some fd=>
   match tI P fd.type with
   |some (_,n)=>δ (fd.offset,fd.type,n)
   |none=>ε
  |none=>ε
 |_=>ε
def eI(P:Program)(t:TypeId):Option (Option Nat×TypeId×Nat):=
 match P.underlying t with
 |some (.array len e)=>(tI P e).map λi=>(δ len,e,i.2)
 |some (.slice e)=>(tI P e).map λi=>(ε,e,i.2)
 |_=>ε
inductive Kd where
 |bool|int (k:IntKind)|str|bytes|other
 deriving DecidableEq
def kd(P:Program)(t:TypeId):Kd:=
 match P.underlying t with
 |some .bool=>.bool
 |some (.int k)=>.int k
 |some .string=>.str
 |some (.slice e)=>match P.underlying e with|some (.int .u8)=>.bytes|_=>.other
 |_=>.other
def TO(H:Au)(id g:Nat):Bool:=
 match H[id]? with
 |some (.live g' _)=>g'==g
 |_=>η
def I1.cur{w:World}(s:I1 X h H w)(a:TO H N t=ζ):h.gen N=t:=by unfold TO at a;split at a;rename_i c b d;have:=(s.live N c b d).1;simp at a;exact this.trans a;cases a
def shift(H:Au)(k:Nat):Ac->Option Ac
 |.ptr id g off=>if TO H id g then δ (.ptr id g (off+k))else ε
 |.vptr cs=>if k<=θ cs then δ (.vptr (cs.drop k))else ε
 |_=>ε
theorem wR(s:I1 c h H w)(r:Bx (cx c h H w) e b)(k:shift H N e=δ p):
  ∃B a,b=.pointer (δ ⟨B,a,ε⟩)/\Bx (cx c h H w) p (.pointer (δ ((⟨B,a,ε⟩:Addr).add N))):=by
 cases r with
 | @ptr id g a b X o t l=>simp only[shift]at k;split at k;rename_i d;simp at k;subst k;obtain⟨B,i,rfl⟩:=l (s.cur d);refine⟨B,a,rfl,.ptr X o rfl λ_=>⟨B,i,by rw[Of]⟩⟩;cases k
 | @vptr q B a f n m l x=>simp only[shift]at k;split at k;simp at k;subst k;refine⟨B,a,rfl,?_⟩;rw[Of];refine .vptr (λj=>f (N+j)) n m (λj e v=>?_) λj e v=>?_;grind;grind;cases k
 |_=>grind[shift]
def Vx(P:Program)(H:Au)(s f:Nat)(v:Ac):Option Ac:=
 match fI P s f with
 |some (off,_,n)=>if n=0 then ε else shift H off v
 |none=>ε
def uy(sim:I1 c h H w)(r:Bx (cx c h H w) e b)(d:Vx P H N t e=δ p):
  ∃i,(Instr.fieldAt N b t).run P w=.ok i w/\Bx (cx c h H w) p i:=by
 unfold Vx at d;split at d;rename_i k X n a;split at d;cases d;rename_i hn;obtain⟨B,o,rfl,hr⟩:=wR sim r d;unfold fI at a;split at a;rename_i v g;split at a;rename_i l s;split at a;rename_i f m j;obtain⟨rfl,rfl,rfl⟩:=a;refine⟨_,?_,hr⟩;simp[Instr.fieldAt,run_underlying g,s,Instr.sureAddr,fieldPlace,LG j,hn];cases a;cases a;cases a;cases d
def V2(P:Program)(H:Au)(t:TypeId)(v:Ac)(i:Ac):Option Ac:=
 match eI P t,i with
 |some (δ len,_,sz),.int _ i=>if 0<=i/\i<len then shift H (i.toNat*sz) v else ε
 |some (ε,_,sz),.int _ i=>
  match v with
  |.vs sz' rows=>if 0<=i/\sz=sz' then(rows[i.toNat]?).map λe=>.vptr e.cells else ε
  |.sl id g sz' off len=>if 0<=i/\i<len/\sz=sz'/\TO H id g=ζ then δ (.ptr id g (off+i.toNat*sz))else ε
  |_=>ε
 |_,_=>ε
theorem vA(sim:I1 c h H w)(r:Bx (cx c h H w) e b)(T:Bx (cx c h H w) p B)
  (l:V2 P H a e p=δ G):∃O,(Instr.indexAt a b B).run P w=.ok O w/\Bx (cx c h H w) G O:=by
 unfold V2 at l;split at l;rename_i len i sz k n u;cases T;split at l;rename_i A;obtain⟨t,o,rfl,hr⟩:=wR sim r l;unfold eI at u;split at u;rename_i F y d;cases m:tI P y with
 |none=>rw[m]at u;cases u
 |some Q=>rw[m]at u;simp only[Bt,Ao,EX]at u;obtain⟨rfl,rfl,rfl⟩:=u;refine⟨_,?_,hr⟩;simp[Instr.indexAt,asIntOf,run_underlying d,Instr.sureAddr,A,LG m]
 rename_i y d;cases m:tI P y<;>grind;cases u;cases l;rename_i i sz k n u;cases T;have d:∃p,P.underlying a=δ (.slice i)/\tI P i=δ p/\p.2=sz:=by
  unfold eI at u;split at u;rename_i F y d;cases m:tI P y with
  |none=>rw[m]at u;cases u
  |some Q=>rw[m]at u;simp at u
  rename_i y d;cases m:tI P y with
  |none=>rw[m]at u;cases u
  |some Q=>rw[m]at u;simp only[Bt,Ao,EX]at u;obtain⟨_,rfl,rfl⟩:=u;exact⟨Q,d,m,rfl⟩
  cases u
 obtain⟨Q,d,m,rfl⟩:=d;cases r with
 | @vs N q v cap f C Y S W Z=>
  simp only at l;split at l;rename_i A;obtain⟨X,rfl⟩:=A;cases x:q[n.toNat]? with
  |none=>rw[x]at l;cases l
  |some R=>
   rw[x]at l;simp only[Bt,Ao]at l;subst l;have s:n.toNat<θ q:=by rcases Ax n.toNat (θ q) with I|I;exact I;rw[Cn I]at x;cases x
   obtain⟨t,z,rfl,V,U,J⟩:=W (by intro i;rw[i]at s;simp at s);refine⟨.pointer (δ ⟨t,z+n.toNat*Q.2,ε⟩),?_,.vptr (λj=>f n.toNat j) V U (λj e M=>?_) λj e M=>Z _ R _ e x M⟩;have E:n<θ q:=o!
   simp[Instr.indexAt,asIntOf,run_underlying d,X,E,LG m,Of];have:=J _ R j e x M;rw[eN];exact this
  cases l
 | @sl id g N z len b K x h1 J=>simp only at l;split at l;rename_i A;obtain⟨X,s,rfl,D⟩:=A;simp only[Ao]at l;subst l;rcases J (sim.cur D)with⟨_,hl,_,_⟩|⟨t,cap,L,C,_,rfl⟩;omega;refine⟨.pointer (δ ⟨t,z+n.toNat*Q.2,ε⟩),?_,.ptr K x rfl λ_=>⟨t,L,rfl⟩⟩;simp[Instr.indexAt,asIntOf,run_underlying d,X,s,LG m,Of];cases l
 |_=>cases l
 cases l
def uU(P:Program)(t:TypeId)(cs:List Ac)(off:Nat):Option Ac:=
 match tI P t with
 |some (ζ,n)=>if off+n<=θ cs then δ (.agg ((cs.drop off).take n))else ε
 |some (η,_)=>cs[off]?
 |none=>ε
theorem zB{P:Program}{w:World}(l:i.size=θ d)(o:∀(j:Nat)(c:Value),i[j]?=δ c→c.oneCell'=ζ)
  (m:∀(j:Nat)(v:Ac)(c:Value),d[j]?=δ v->i[j]?=δ c->Bx f v c) (t:uU P a d N=δ e):∃c,(part a i N).run P w=.ok c w/\Bx f e c:=by
 unfold uU at t;split at t;rename_i n x;split at t;rename_i b;simp at t;subst t;refine⟨.agg (i.extract N (N+n)),by simp[part,Xt x,LG x],.agg w! (λj c h=>?_) λj v c h g=>?_⟩;grind[Array.getElem?_extract];grind;cases t;rename_i n x;have k:N<θ d:=q!
 have g:i[N]?=δ (i[N]' o!):=Nr o!;exact⟨_,by simp[part,Xt x,g],m N e _ t g⟩;cases t
def tR(P:Program)(s f:Nat)(v:Ac):Option Ac:=
 match fI P s f,v with
 |some (off,t,_),.agg cs=>uU P t cs off
 |_,_=>ε
def ACN(r:Bx f e b)(d:tR P N t e=δ p):∃v,(Instr.field N b t).run P w=.ok v w/\Bx f p v:=by
 unfold tR at d;split at d;rename_i o x n i a;cases r with
 | @agg i j g k m=>obtain⟨v,l,hr⟩:=zB (P:=P) (w:=w) g k m d;unfold fI at a;split at a;rename_i q h;split at a;rename_i u s;split at a;simp at a;obtain⟨rfl,rfl,rfl⟩:=a;exact⟨v,by simp[Instr.field,run_underlying h,s,asAgg,l],hr⟩;cases a;cases a;cases a
 cases d
def kQ(P:Program)(t:TypeId)(v i:Ac):Option Ac:=
 match v,i with
 |.agg cs,.int _ i=>
  match eI P t with
  |some (δ len,e,sz)=>if 0<=i/\i<len then uU P e cs (i.toNat*sz)else ε
  |_=>ε
 |.str s,.int _ i=>if kd P t=.str/\0<=i then(s[i.toNat]?).map λb=>.int .u8 b.toNat else ε
 |_,_=>ε
theorem uE{P:Program}(h:kd P a=.str):P.underlying a=δ .string:=by unfold kd at h;grind
theorem AH2(h:kd P a=.int D):P.underlying a=δ (.int D):=by unfold kd at h;grind
theorem ACT(r:Bx f e b)(v:Bx f p B)(u:kQ P a e p=δ G):∃x,(Instr.index a b B).run P w=.ok x w/\Bx f G x:=by
 unfold kQ at u;split at u;rename_i C k n;cases v;split at u;rename_i len i sz d;split at u;rename_i g;cases r with
 | @agg C D m F J=>
  obtain⟨x,t,hr⟩:=zB (P:=P) (w:=w) m F J u;unfold eI at d;split at d;rename_i A E o;cases z:tI P E with
  |none=>grind
  |some q=>rw[z]at d;simp only[Bt,Ao,EX]at d;obtain⟨rfl,rfl,rfl⟩:=d;exact⟨x,by simp[Instr.index,asIntOf,run_underlying o,g,LG z,t],hr⟩
  simp_all;cases d
 cases u;cases u;rename_i s k n;cases v;cases r with
 | @str s h I=>
  split at u;rename_i g;subst I;cases y:h.data.toList[n.toNat]? with
  |none=>grind
  |some c=>
   rw[y]at u;simp only[Bt,Ao]at u;subst u;have j:h[n.toNat]?=δ c:=by
    obtain⟨H,d⟩:=EP.1 y;have l:n.toNat<h.size:=by simpa using H
    rw[getElem?_pos h n.toNat l];exact E! δ d
   exact⟨.int .u8 c.toNat,by simp[Instr.index,asIntOf,run_underlying (uE g.1),g.2,j],.int _ _⟩
  cases u
 cases u
def ACy(P:Program)(g:TypeId->Option (List Kd)):List Field->Nat->Option (List Kd)
 |[],_=>some []
 |f::r,off=>
  if f.offset=off/\(f.name== "_")=false then
   match g f.type with
   |some ks=>if ks.length=P.cellsOf f.type then(ACy P g r (off+ks.length)).map (ks++ ·)else none
   |none=>none
  else none
def wq(P:Program):Nat->TypeId->Option (List Kd)
 |0,_=>ε
 |d+1,t=>
  match P.underlying t with
  |some .bool=>δ [.bool]
  |some (.int k)=>δ [.int k]
  |some .string=>δ [.str]
  |some (.array n e)=>
   match wq P d e with
   |some ks=>if θ ks=P.cellsOf e/\(P.info? e).isSome then δ (ς n ks).flatten else ε
   |none=>ε
  |some (.struct fs)=>if P.stoodInHeld t then ε else ACy P (wq P d) fs.toList 0
  |_=>ε
def AAH:Kd->Ac->Bool
 |.bool,.bool _=>ζ
 |.int k,.int k' _=>decide (k=k')
 |.str,.str _=>ζ
 |_,_=>η
def typed:List Kd->List Ac->Bool
 |[],[]=>ζ
 |k::ks,v::vs=>AAH k v&&typed ks vs
 |_,_=>η
def sEq:Ac->Ac->Bool
 |.bool a,.bool b=>a==b
 |.int _ a,.int _ b=>a==b
 |.str a,.str b=>a==b
 |_,_=>η
def ux:List Ac->List Ac->Bool
 |[],[]=>ζ
 |a::as,b::bs=>sEq a b&&ux as bs
 |_,_=>η
variable {C:List Kd}
def Xi{b:List Kd}:∀{a:List Ac},typed (C++b) a=ζ->typed C (a.take (θ C))=ζ/\typed b (a.drop (θ C))=ζ:=by
 induction C with
 |nil=>intro a h;exact⟨by simp[typed],by simpa using h⟩
 |cons k f e=>
  intro a h;cases a with
  |nil=>simp[typed]at h
  |cons v a=>simp only[EO,typed,BW]at h;obtain⟨c,d⟩:=e h.2;exact⟨by simp[typed,h.1,c],by simpa using d⟩
def Gg:∀{a:List Kd}{b:List Ac},typed a b=ζ->θ b=θ a
 |[],[],_=>rfl
 |_::_,_::_,h=>by simp only[typed,BW]at h;simp[Gg h.2]
 |[],_::_,h=>by simp[typed]at h
 |_::_,[],h=>by simp[typed]at h
def pd:∀(n:Nat)(c bs:List Ac),θ c=θ bs->ux c bs=(ux (c.take n) (bs.take n)&&ux (c.drop n) (bs.drop n))
 |0,c,bs,_=>by simp[ux]
 |n+1,[],[],_=>by simp[ux]
 |n+1,a::c,b::bs,h=>by simp only[Ba,Nat.add_right_cancel_iff]at h;simp only[ux,List.take_succ_cons,List.drop_succ_cons,pd n c bs h,Bool.and_assoc]
 |n+1,[],_::_,h=>by simp at h
 |n+1,_::_,[],h=>by simp at h
def Over(P:Program)(x:Cx)(t:TypeId)(as:List Ac)(a:Value):Prop:=
 ∃(b:Bool)(n:Nat)(cs:List Value),tI P t=δ (b,n)/\θ as=n/\mW x as cs/\(if b then a=.agg cs.toArray else cs=[a])
def EqF(P:Program)(d:Nat)(t:TypeId)(ks:List Kd):Prop:=
 ∀(w:World)(x:Cx)(a b:Value)(as bs:List Ac),Over P x t as a->Over P x t bs b->typed ks as=ζ->typed ks bs=ζ->(Op.equalIn d t a b).run P w=.ok (ux as bs) w
def lS{P:Program}{off n:Nat}{w:World}(hr:mW f d x)(t:tI P a=δ (s,n))(m:s=η→n=1)(o:off+n≤θ d):
  ∃h,(part a x.toArray off).run P w=.ok h w/\Over P f a ((d.drop off).take n) h:=by
 have e:mW f ((d.drop off).take n) ((x.drop off).take n):=by refine⟨by simp[hr.1],λj v c g i=>?_⟩;rw[bd]at g i;split at g;rename_i k;rw[C! k]at i;rw[Km]at g i;exact hr.2 _ v c g i;cases g
 cases s with
 |true=>refine⟨.agg (x.toArray.extract off (off+n)),by simp[part,Xt t,LG t],ζ,n,(x.drop off).take n,t,w!,e,?_⟩;simp only[if_true,Value.agg.injEq];apply Array.toList_inj.1;simp only[Array.toList_extract,vI,S7]
 |false=>
  obtain rfl:=m rfl;have l:off<θ x:=by rw[hr.1];omega
  refine⟨x[off],by simp[part,Xt t,l],η,1,(x.drop off).take 1,t,w!,e,?_⟩;rw[D! k!,TX l];rfl
def nS{d:Nat}(h:wq P d a=δ C):∃b,tI P a=δ (b,P.cellsOf a)/\(b=η->θ C=1):=by
 cases d with
 |zero=>simp[wq]at h
 |succ d=>
  unfold wq at h;unfold tI Program.cellsOf;cases f:P.info? a with
  |none=>
   have t:P.underlying a=ε:=by simp[Program.underlying,f]
   rw[t]at h;cases h
  |some i=>
   cases t:P.underlying a with
   |none=>rw[t]at h;cases h
   |some c=>rw[t]at h;refine⟨_,rfl,?_⟩;cases c<;>simp_all<;>(subst h;rfl)
def zK{P:Program}{d:Nat}{g:TypeId→Option (List Kd)}(C: ∀t i,g t=some i→EqF P d t i∧ ∃b,tI P t=some (b,P.cellsOf t)∧(b=false→i.length=1)){x:Cx}{w:World}{l bs:List Ac}{H I:List Value}
  (A:mW x l H) (B:mW x bs I) (j:l.length=bs.length): ∀(m:List Field) (h:Nat) (i:List Kd),ACy P g m h=some i->h<=l.length->typed i (l.drop h)=true->typed i (bs.drop h)=true->(Op.eqFields d H.toArray I.toArray m).run P w= .ok (ux (l.drop h) (bs.drop h)) w
 |[],h,i,hk,_,ta,tb=>by simp only[ACy,Ao]at hk;subst hk;have J:=Gg ta;have K:=Gg tb;rw[EZ J,EZ K];simp[Op.eqFields,ux]
 |f::m,h,i,hk,ho,ta,tb=>by
  simp only[ACy]at hk;split at hk;rename_i L;obtain⟨rfl,k⟩:=L;split at hk;rename_i k1 u;split at hk;rename_i o;cases hr:ACy P g m (f.offset+k1.length)with
  |none=>rw[hr]at hk;cases hk
  |some N=>
   rw[hr]at hk;simp only[Bt,Ao]at hk;subst hk;obtain⟨q,y⟩:=Xi ta;obtain⟨r,z⟩:=Xi tb;obtain⟨s,b,D,n⟩:=C _ _ u;have E:=Gg q;have O:=Gg r;have v:f.name≠ "_" :=by simpa using k
   obtain⟨a,Q,F⟩:=lS (P:=P) (w:=w) (off:=f.offset) A D (λe=>o▸n e) (by rw[<-o];simp at E;omega);obtain⟨c,R,G⟩:=lS (P:=P) (w:=w) (off:=f.offset) B D (λe=>o▸n e) (by rw[<-o];simp at O;omega);rw[<-o]at F G;have p:=s w x a c _ _ F G q r;have M:=zK C (w:=w) A B j m (f.offset+k1.length) N hr (by simp at E;omega) (by simpa[Nq]using y) (by simpa[Nq]using z);rw[pd k1.length _ _ (by simp[j])];simp only[Op.eqFields,if_pos v,Sem.run_bind,Q,R,p,Result.andThen_ok];cases ux ((l.drop f.offset).take k1.length) ((bs.drop f.offset).take k1.length);simp;simp only[CM,Pg,if_false,kp,M,Nq]
  cases hk;cases hk;cases hk
def wN{P:Program}{d:Nat}{e:TypeId}{f:List Kd}(o:EqF P d e f){b:Bool}(s:tI P e=δ (b,θ f))(j:b=η→θ f=1){x:Cx}{w:World}{h bs:List Ac}{z A:List Value}
  (u:mW x h z) (v:mW x bs A) (g:θ h=θ bs):∀(n i:Nat),i*θ f<=θ h->typed (ς n f).flatten (h.drop (i*θ f))=ζ->typed (ς n f).flatten (bs.drop (i*θ f))=ζ->(Op.eqItems d e (θ f) z.toArray A.toArray (List.range' i n)).run P w=.ok (ux (h.drop (i*θ f)) (bs.drop (i*θ f))) w
 |0,i,_,ta,tb=>by have B:=Gg ta;have C:=Gg tb;rw[EZ (l:=h.drop _) (by simpa using B),EZ (l:=bs.drop _) (by simpa using C)];simp[Op.eqItems,ux]
 |n+1,i,ho,ta,tb=>by
  rw[mb,pK]at ta tb;obtain⟨q,k⟩:=Xi ta;obtain⟨r,m⟩:=Xi tb;have y:=Gg q;have E:=Gg r;obtain⟨a,H,F⟩:=lS (P:=P) (w:=w) (off:=i*θ f) u s j (by simp at y;omega);obtain⟨c,I,G⟩:=lS (P:=P) (w:=w) (off:=i*θ f) v s j (by simp at E;omega);have p:=o w x a c _ _ F G q r;rw[Nq]at k m;have t:i*θ f+θ f=(i+1)*θ f:=by rw[EI];omega
  rw[t]at k m;have D:=wN o s j (w:=w) u v g n (i+1) (by simp at y;omega) k m;rw[pd (θ f) _ _ (by simp[g]),Nq,Nq,t];rw[List.range'_succ];simp only[Op.eqItems,Sem.run_bind,H,I,p,Result.andThen_ok];cases ux ((h.drop (i*θ f)).take (θ f)) ((bs.drop (i*θ f)).take (θ f));simp;simp[D]
def wu{P:Program}(d:Nat):∀(m:Nat)(t:TypeId)(y:List Kd),wq P m t=δ y->EqF P (d+m) t y
 |0,_,_,h=>by simp[wq]at h
 |m+1,t,y,h=>by
  obtain⟨bt,T,_⟩:=nS h;intro w x a b F bs X Y o p;obtain⟨O,n1,xs,c,U,ra,j⟩:=X;obtain⟨Z,n2,ys,r,V,E,l⟩:=Y;rw[c]at r;simp only[Ao,EX]at r;obtain⟨rfl,rfl⟩:=r;have I:=Gg o;have J:=Gg p;have g:∀q,P.underlying t=δ q->O=(match q with|.struct _|.array _ _=>ζ|_=>η):=by intro q S;unfold tI at c;rw[S]at c;split at c;rename_i G;injection G with e;subst e;simp only[Ao,EX]at c;exact c.1.symm;cases c
  unfold wq at h;split at h;rename_i f;simp only[Ao]at h;subst h;have:=g _ f;simp only at this;subst this;simp only[Pg,if_false]at j l;subst j l;match F,I,bs,J with
  |[u],_,[v],_=>have C:=ra.2 0 u a rfl rfl;have D:=E.2 0 v b rfl rfl;simp only[typed,Q3]at o p;cases u<;>simp[AAH]at o;cases v<;>simp[AAH]at p;cases C;cases D;rw[show d+(m+1)=(d+m)+1 from rfl,run_equalIn_bool' w (d+m) t _ _ f];simp[ux,sEq]
  rename_i k f;simp only[Ao]at h;subst h;have:=g _ f;simp only at this;subst this;simp only[Pg,if_false]at j l;subst j l;match F,I,bs,J with
  |[u],_,[v],_=>have C:=ra.2 0 u a rfl rfl;have D:=E.2 0 v b rfl rfl;simp only[typed,Q3]at o p;cases u<;>simp[AAH]at o;cases v<;>simp[AAH]at p;cases C;cases D;subst o p;rw[show d+(m+1)=(d+m)+1 from rfl,run_equalIn_int w (d+m) t _ _ _ _ f];simp[ux,sEq]
  rename_i f;simp only[Ao]at h;subst h;have:=g _ f;simp only at this;subst this;simp only[Pg,if_false]at j l;subst j l;match F,I,bs,J with
  |[u],_,[v],_=>
   have C:=ra.2 0 u a rfl rfl;have D:=E.2 0 v b rfl rfl;simp only[typed,Q3]at o p;cases u<;>simp[AAH]at o;cases v<;>simp[AAH]at p;cases C with
   |str s1 Q=>
    cases D with
    |str s2 R=>subst Q R;rw[show d+(m+1)=(d+m)+1 from rfl,run_equalIn_string w (d+m) t _ _ f];simp[ux,sEq,ByteArray.toList_eq]
  rename_i n e f;split at h;rename_i k1 A;split at h;rename_i H;simp only[Ao]at h;subst h;have:=g _ f;simp only at this;subst this;simp only[if_true]at j l;subst j l;obtain⟨N,s⟩:=eQ.1 H.2;obtain⟨b,L,B⟩:=nS A;rw[<-H.1]at L;have i:=wN (wu d m e k1 A) L B (w:=w) ra E o! n 0 k! (by simpa using o) (by simpa using p);rw[show d+(m+1)=(d+m)+1 from rfl,run_equalIn_array w (d+m) _ _ f s,<-H.1,List.range_eq_range'];simpa using i;cases h;cases h;rename_i K f;split at h;cases h;rename_i W;have:=g _ f;simp only at this;subst this;simp only[if_true]at j l;subst j l;have z:P.fieldsOf t=K:=by simp[Program.fieldsOf,f]
  have i:=zK (d:=d+m) (λt y M=>⟨wu d m t y M,nS M⟩) (w:=w) ra E o! K.toList 0 y h k! (by simpa using o) (by simpa using p);rw[show d+(m+1)=(d+m)+1 from rfl,run_equalIn_struct w (d+m) t _ _ (by rw[z];exact f) (by simpa using W),z];simpa using i;cases h
def pM(op:BinOp)(k:IntKind)(a b:Int):Option Ac:=
 match op with
 |.add=>δ (.int k (k.wrap (a+b)))
 |.sub=>δ (.int k (k.wrap (a-b)))
 |.mul=>δ (.int k (k.wrap (a*b)))
 |.quo=>if b=0 then ε else δ (.int k (k.wrap (a.tdiv b)))
 |.rem=>if b=0 then ε else δ (.int k (a.tmod b))
 |.and=>δ (.int k (k.wrap (κ k.bits a&&&κ k.bits b).toNat))
 |.or=>δ (.int k (k.wrap (κ k.bits a|||κ k.bits b).toNat))
 |.xor=>δ (.int k (k.wrap (κ k.bits a^^^κ k.bits b).toNat))
 |.andNot=>δ (.int k (k.wrap (κ k.bits a&&& ~~~κ k.bits b).toNat))
 |.eql=>δ (.bool (a==b))
 |.neq=>δ (.bool (a !=b))
 |.lss=>δ (.bool (τ (a<b)))
 |.leq=>δ (.bool (τ (a<=b)))
 |.gtr=>δ (.bool (τ (a>b)))
 |.geq=>δ (.bool (τ (a>=b)))
 |.shl|.shr=>ε
def zm{d b:Int}(w:World)(h:pM F D d b=δ e):∃c,(binOp F a (.int D d) (.int D b)).run P w=.ok c w/\Bx f e c:=by
 cases F<;>simp only[pM]at h<;>(try split at h)<;>first
  |cases h;done
  |(simp at h;subst h;first
    |exact⟨_,by simp[binOp,Op.intArith,Op.intDiv,Op.intBits, *],.int _ _⟩
    |exact⟨_,by simp[binOp,Op.intCmp],.bool _⟩)
def ke(op:BinOp)(k:IntKind)(a b:Int):Option Ac:=
 if b<0 then ε else
 match op with
 |.shl=>δ (.int k (k.wrap (a*2^min b.toNat k.bits)))
 |.shr=>δ (.int k (a.fdiv (2^min b.toNat k.bits)))
 |_=>ε
def ADf(P:Program)(t:TypeId):Option (List Kd):=
 if P.eqGuardType P.depth t then ε else
 match wq P 12 t with
 |some ks=>if tI P t=δ (ζ,θ ks)then δ ks else ε
 |none=>ε
def wh(op:BinOp)(a b:List UInt8):Option Ac:=
 match op with
 |.add=>if θ a+θ b<=9223372036854775807 then δ (.str (a++b))else ε
 |.eql=>δ (.bool (a==b))
 |.neq=>δ (.bool (a !=b))
 |.lss=>δ (.bool (Op.bytesLess a b))
 |.leq=>δ (.bool (Op.bytesLess a b||a==b))
 |.gtr=>δ (.bool (!(Op.bytesLess a b||a==b)))
 |.geq=>δ (.bool (!Op.bytesLess a b))
 |_=>ε
def yE(P:Program)(op:BinOp)(t:TypeId)(x y:Ac):Option Ac:=
 match x,y with
 |.int k a,.int k' b=>
  match op with
  |.shl|.shr=>ke op k a b
  |_=>if k=k' then pM op k a b else ε
 |.bool a,.bool b=>
  match op with
  |.eql=>if kd P t=.bool then δ (.bool (a==b))else ε
  |.neq=>if kd P t=.bool then δ (.bool (!(a==b)))else ε
  |_=>ε
 |.str a,.str b=>wh op a b
 |.agg as,.agg bs=>
  match ADf P t with
  |some ks=>
   if typed ks as=ζ/\typed ks bs=ζ then
    match op with
    |.eql=>δ (.bool (ux as bs))
    |.neq=>δ (.bool (!ux as bs))
    |_=>ε
   else ε
  |none=>ε
 |_,_=>ε
theorem ABa(h:kd P a=.bool):P.underlying a=δ .bool:=by unfold kd at h;grind
def toList_data(t:ByteArray):t.toList=t.data.toList:=ByteArray.toList_eq t
def AFe(w:World)(ra:Bx f e b)(A:Bx f p B)(h:yE P F a e p=δ G):
  ∃c,(do eqGuard F a k L b B;binOp F a b B:Sem Value).run P w=.ok c w/\Bx f G c:=by
 unfold yE at h;split at h;rename_i y n T U;cases ra;cases A;have m:(eqGuard F a k L (.int y n) (.int T U)).run P w=.ok () w:=by unfold eqGuard;cases F<;>simp
 simp only[Sem.run_bind,m,Result.andThen_ok];split at h;unfold ke at h;split at h;cases h;rename_i C;simp only[Ao]at h;subst h;exact⟨_,by simp[binOp,Op.shift,C],.int _ _⟩;unfold ke at h;split at h;cases h;rename_i C;simp only[Ao]at h;subst h;exact⟨_,by simp[binOp,Op.shift,C],.int _ _⟩;simp_all[zm];rename_i X q;cases ra;cases A;have m:(eqGuard F a k L (.bool X) (.bool q)).run P w=.ok () w:=by unfold eqGuard;cases F<;>simp
 simp only[Sem.run_bind,m,Result.andThen_ok];split at h;split at h;rename_i I;simp only[Ao]at h;subst h;exact⟨_,run_eql_bool w a X q (ABa I),.bool _⟩;cases h;split at h;rename_i I;simp only[Ao]at h;subst h;refine⟨_,?_,.bool _⟩;simp only[binOp];simp[run_equal_bool w a X q (ABa I)];cases h;cases h
 ·rename_i s1 s2;cases ra with
  |str s g=>
   cases A with
   |str z O=>
    have m:(eqGuard F a k L (.string s) (.string z)).run P w=.ok () w:=by unfold eqGuard;cases F<;>simp
    simp only[Sem.run_bind,m,Result.andThen_ok];subst g O;unfold wh at h;split at h;split at h;rename_i S;simp only[Ao]at h;subst h;have o:¬(((s.size+z.size:Nat):Int)>IntKind.i64.max):=by
     have Z:θ s.data.toList=s.size:=k!
     have e2:θ z.data.toList=z.size:=k!
     have K:IntKind.i64.max=9223372036854775807:=g!
     rw[K];omega
    exact⟨.string (s++z),by simp only[binOp];simp only[Op.stringOp,D! o];rfl,.str _ k!⟩;cases h;all_goals first
     |cases h;done
     |(simp only[Ao]at h
       subst h;exact⟨_,by simp only[binOp];simp[Op.stringOp,toList_data,bne],.bool _⟩)
 rename_i u bs;cases ra with
 | @agg u b V M Y=>
  cases A with
  | @agg bs B W N vb=>
   split at h;rename_i ks d;unfold ADf at d;split at d;cases d;rename_i x;split at d;rename_i J E;split at d;rename_i r;simp only[Ao]at d;subst d;split at h;rename_i i;have t:=wu (P:=P) 9988 12 a J E;have Q:=Gg i.1;have R:=Gg i.2;have l:(Op.equalIn 10000 a (.agg b) (.agg B)).run P w=.ok (ux u bs) w:=
    t w f (.agg b) (.agg B) u bs ⟨ζ,_,b.toList,r,o!,⟨by simpa using V,λj v c H D=>Y j v c H (by simpa using D)⟩,k!⟩
     ⟨ζ,_,B.toList,r,o!,⟨by simpa using W,λj v c H D=>vb j v c H (by simpa using D)⟩,k!⟩ i.1 i.2
   have m:(eqGuard F a k L (.agg b) (.agg B)).run P w=.ok () w:=run_eqGuard_agg w F a k L b B (by simpa using x);simp only[Sem.run_bind,m,Result.andThen_ok];split at h;simp only[Ao]at h;subst h;exact⟨_,by rw[run_eql_struct,l];rfl,.bool _⟩;simp only[Ao]at h;subst h;exact⟨_,by rw[run_neq_struct,l];rfl,.bool _⟩;cases h;cases h;cases d;cases d;cases h
 cases h
def unV(op:UnOp)(v:Ac):Option Ac:=
 match op,v with
 |.neg,.int k n=>δ (.int k (k.wrap (0-n)))
 |.xor,.int k n=>δ (.int k (k.wrap (κ k.bits (if k.signed then-1 else k.max)^^^κ k.bits n).toNat))
 |.not,.bool b=>δ (.bool !b)
 |_,_=>ε
def AIb{v:UnOp}(w:World)(r:Bx f e b)(h:unV v e=δ p):∃a,(Op.unary v b).run P w=.ok a w/\Bx f p a:=by unfold unV at h;split at h;cases r;simp at h;subst h;exact⟨_,by simp[Op.unary,Op.intArith],.int _ _⟩;cases r;simp at h;subst h;exact⟨_,by simp only[Op.unary];rfl,.int _ _⟩;cases r;simp at h;subst h;exact⟨_,by simp[Op.unary],.bool _⟩;cases h
def rowsOf(H:Au):Ac->Option (List Ac)
 |.vs sz rows=>if sz=1 then δ (rows.flatMap Ac.cells)else ε
 |.sl id g sz off len=>
  match H[id]? with
  |some (.live g' cs)=>if g=g'/\sz=1/\off+len<=θ cs then δ ((cs.drop off).take len)else ε
  |_=>ε
 |.nils=>δ []
 |_=>ε
def u8s:List Ac->Option (List UInt8)
 |[]=>δ []
 |.int .u8 n::r=>(u8s r).map (UInt8.ofNat n.toNat:: ·)
 |_=>ε
def XD(P:Program)(H:Au)(src dst:TypeId)(v:Ac):Option Ac:=
 match kd P dst,v with
 |.int k,.int _ n=>if(P.underlying src).isSome then δ (.int k (k.wrap n))else ε
 |.str,.str s=>if(P.underlying src).isSome then δ (.str s)else ε
 |.str,v=>
  if kd P src=.bytes then
   match rowsOf H v with
   |some cs=>(u8s cs).map Ac.str
   |none=>ε
  else ε
 |_,_=>ε
theorem qP{sz:Nat}:∀{rows:List Ac},(∀(j:Nat)(e:Ac),rows[j]?=δ e->θ e.cells=sz)->(rows.flatMap Ac.cells).length=θ rows*sz
 |[],_=>k!
 |e::r,h=>by have b:=h 0 e rfl;have d:=qP (rows:=r) λj a c=>h (j+1) a q!;grind
theorem flat_get{sz:Nat}(c:0<sz):∀{rows:List Ac},(∀(j:Nat)(e:Ac),rows[j]?=δ e→θ e.cells=sz)→ ∀(i:Nat)(v:Ac),(rows.flatMap Ac.cells)[i]?=δ v→
  ∃e,rows[i/sz]?=δ e/\e.cells[i%sz]?=δ v
 |e::r,h,i,v,hi=>by
  have d:=h 0 e rfl;simp at hi;rcases Ax i sz with f|a;grind[Nat.div_eq_of_lt,Nat.mod_eq_of_lt];rw[Ci o!,d]at hi;obtain⟨b,l,m⟩:=flat_get c (rows:=r) (λj b n=>h (j+1) b q!) (i-sz) v hi;have g:i/sz=(i-sz)/sz+1:=by rw[<-Nat.add_div_right _ c,Nat.sub_add_cancel a]
  have k:i%sz=(i-sz)%sz:=by rw[<-Nat.add_mod_right (i-sz),Nat.sub_add_cancel a]
  grind
def AAo{P:Program}(s:I1 c h H w)(r:Bx (cx c h H w) e b)(hr:rowsOf H e=δ d):
  ∃a n cap V,b=.slice a n cap/\n=θ d/\mW (cx c h H w) d V/\((a=ε/\n=0)\/∃C,a=δ C/\(loadCells C n).run P w=.ok V.toArray w):=by
 cases r with
 |nils=>simp only[rowsOf,Ao]at hr;subst hr;exact⟨ε,0,0,[],rfl,rfl,⟨rfl,λ_ _ _ h=>by cases h⟩,.inl ⟨rfl,rfl⟩⟩
 | @vs sz K a cap f D ar m Z hv=>
  simp only[rowsOf]at hr;split at hr;rename_i R;subst R;simp only[Ao]at hr;subst hr;have l:=qP m;rw[Nat.mul_one]at l;cases K with
  |nil=>
   cases a with
   |none=>exact⟨ε,0,cap,[],rfl,rfl,⟨rfl,λ_ _ _ h=>by cases h⟩,.inl ⟨rfl,rfl⟩⟩
   |some C=>exact⟨δ C,0,cap,[],rfl,rfl,⟨rfl,λ_ _ _ h=>by cases h⟩,.inr ⟨C,rfl,by simp[loadCells,loadCellsFrom]⟩⟩
  |cons Y I=>
   obtain⟨B,i,rfl,hO,hB,L⟩:=Z k!;generalize Y::I=K at*;refine⟨_,θ K,cap,(List.range (θ K)).map λj=>f j 0,rfl,l.symm,⟨by simp[l],λj e X A o=>?_⟩,.inr ⟨_,rfl,?_⟩⟩;obtain⟨v,p,E⟩:=flat_get o! m j e A;rw[Nat.div_one]at p;rw[Nat.mod_one]at E;have t:j<θ K:=by rcases Ax j (θ K) with y|y;exact y;rw[Cn y]at p;cases p
   rw[CL,Q6 t]at o;simp only[Bt,Ao]at o;subst o;exact hv j v 0 e p E;have:=run_loadCells (P:=P) w ⟨B,i,ε⟩ (θ K) (λj=>f j 0) λj A=>by have J:K[j]?=δ (K[j]):=Ar A;have hl:=m j _ J;have M:(K[j]).cells[0]?=δ ((K[j]).cells[0]' o!):=Ar o!;rw[Of];have:=(L j _ 0 _ J M).1;simpa[cx]using this
   exact this
  cases hr
 | @sl id g sz i len b ao hg R L=>
  simp only[rowsOf]at hr;split at hr;rename_i g' x J;split at hr;rename_i z;obtain⟨rfl,rfl,ap⟩:=z;simp only[Ao]at hr;subst hr;obtain⟨G,F⟩:=s.live id g x J;rcases L G with⟨q,rfl,rfl,rfl⟩|⟨B,cap,q,D,N,rfl⟩;exact⟨ε,0,0,[],rfl,k!,⟨k!,λ_ _ _ _ h=>by cases h⟩,.inl ⟨rfl,rfl⟩⟩;rcases F with⟨hn,_⟩|⟨Q,W,T,fz,f,u,hb,S,U,al,k⟩;rw[hn]at q;cases q;have:Q=B:=by rw[q]at u;injection u with v;exact v.symm
  subst this;refine⟨_,len,cap,(List.range len).map λj=>f (i+j),rfl,w!,⟨w!,λj e X A o=>?_⟩,.inr ⟨_,rfl,?_⟩⟩;have t:j<len:=by rcases Ax j len with y|y;exact y;rw[Cn (by simpa using y)]at o;cases o
  rw[bd,C! t,Km]at A;rw[CL,Q6 t]at o;simp only[Bt,Ao]at o;subst o;exact(k _ e A).2.2;exact run_loadCells (P:=P) w ⟨Q,i,ε⟩ len (λj=>f (i+j)) λj A=>by have O:x[i+j]?=δ (x[i+j]' o!):=Ar o!;rw[Of,Pj (w:=w) hb];exact(k _ _ O).1
  cases hr;cases hr
 |_=>simp only[rowsOf]at hr;cases hr
theorem zS{x:Cx}:∀{d:List Ac}{b:List Value}{bs:List UInt8},mW x d b->u8s d=δ bs->∃e:List Int,b=e.map (Value.int .u8)/\bs=e.map λn=>UInt8.ofNat n.toNat
 |[],b,bs,hr,hb=>by simp only[u8s]at hb;rw[EZ hr.1];simp_all
 |v::d,b,bs,hr,hb=>by
  match b,hr with
  |u::b,hr=>
   have h:=hr.2 0 v u rfl rfl;have l:mW x d b:=⟨by have:=hr.1;simpa using this,λj a c p o=>hr.2 (j+1) a c q! q!⟩
   unfold u8s at hb;split at hb<;>rename_i f<;>(try cases f)<;>try (cases hb;done)
   cases k:u8s d with
   |none=>grind
   |some g=>obtain⟨e,i,m⟩:=zS l k;cases h;exact⟨_::e,by rw[i];rfl,q!⟩
def AAB(a:List Int):∀s:ByteArray,(a.foldl (λr n=>r.push (UInt8.ofNat n.toNat)) s).data.toList=s.data.toList++a.map λn=>UInt8.ofNat n.toNat:=by induction a<;>simp_all
theorem AD7{P:Program}(h:kd P a=.bytes):∃e,P.underlying a=δ (.slice e)/\P.underlying e=δ (.int .u8):=by unfold kd at h;grind
theorem ADm(s:I1 c h H w)(r:Bx (cx c h H w) e b)(l:XD P H a J e=δ p):
  ∃y,(convert a J b).run P w=.ok y w/\Bx (cx c h H w) p y:=by
 unfold XD at l;split at l;rename_i k I n j;split at l;rename_i i;obtain⟨C,i⟩:=eQ.1 i;simp only[Ao]at l;subst l;cases r;exact⟨_,by simp[convert,run_underlying i,run_underlying (AH2 j),Conv.intToInt],.int _ _⟩;cases l;rename_i v j;split at l;rename_i i;obtain⟨C,i⟩:=eQ.1 i;simp only[Ao]at l;subst l;cases r with
 |str t F=>exact⟨_,by simp[convert,run_underlying i,run_underlying (uE j)],.str _ F⟩
 cases l;rename_i L j _;split at l;rename_i D;split at l;rename_i B u;cases q:u8s B with
 |none=>rw[q]at l;cases l
 |some bs=>
  rw[q]at l;simp only[Bt,Ao]at l;subst l;obtain⟨o,m,z⟩:=AD7 D;obtain⟨X,n,cap,K,rfl,hn,d,f⟩:=AAo (P:=P) s r u;obtain⟨x,rfl,rfl⟩:=zS d q;rcases f with⟨rfl,E⟩|⟨A,rfl,g⟩;have:x=[]:=by have G:=d.1;grind[List.length_map,List.eq_nil_of_length_eq_zero]
  subst this;exact⟨.string .empty,by simp[convert,run_underlying m,run_underlying (uE j),run_underlying z,Conv.bytesToString],.str _ rfl⟩;refine⟨_,?_,.str _ (AAB x ByteArray.empty)⟩;simp only[convert,Sem.run_bind,run_underlying m,run_underlying (uE j),run_underlying z,Result.andThen_ok];exact run_bytesToString w A n cap x (by simpa using g)
 cases l;cases l;cases l
def pz(P:Program)(H:Au)(t:TypeId)(v:Ac):Option Ac:=
 match P.underlying t,v with
 |some .string,.str s=>δ (.int .i64 (θ s))
 |some (.array n _),_=>δ (.int .i64 n)
 |some (.slice _),.vs _ rows=>δ (.int .i64 (θ rows))
 |some (.slice _),.sl _ _ _ _ len=>δ (.int .i64 len)
 |some (.slice _),.nils=>δ (.int .i64 0)
 |_,_=>ε
def AGE{P:Program}{w:World}{t ty:TypeId}(s:I1 c h H w)(r:Bx (cx c h H w) e b)(v:pz P H t e=δ p):
  ∃f,(Builtin.len_ #[t] ty #[b]).run P w=.ok f w/\Bx (cx c h H w) p f:=by
 unfold pz at v;split at v;rename_i u d;simp only[Ao]at v;subst v;cases r with
 |str j m=>
  refine⟨.int .i64 j.size,by simp[Builtin.len_,run_underlying d,goInt],?_⟩;have:θ u=j.size:=by rw[<-m];simp
  rw[this];exact .int _ _
 rename_i n X d;simp only[Ao]at v;subst v;exact⟨.int .i64 n,by simp[Builtin.len_,run_underlying d,goInt],.int _ _⟩;rename_i sz i d;simp only[Ao]at v;subst v;cases r;exact⟨_,by simp[Builtin.len_,run_underlying d,goInt],.int _ _⟩;rename_i id g sz o len d;simp only[Ao]at v;subst v;cases r with
 |sl l x k q=>obtain⟨a,cap,rfl⟩:=k;exact⟨_,by simp[Builtin.len_,run_underlying d,goInt],.int _ _⟩
 rename_i d;simp only[Ao]at v;subst v;cases r;exact⟨_,by simp[Builtin.len_,run_underlying d,goInt],.int _ _⟩;cases v
def mmV(mx:Bool):List Ac->Option Ac
 |[.int k a,.int _ b]=>δ (.int k (if mx then(if b>a then b else a)else(if b<a then b else a)))
 |_=>ε
def AEJ{P:Program}{w:World}{mx:Bool}{ts:Array TypeId}{ty:TypeId}(g:Bx f p b)(h:Bx f e B)(a:mmV mx [p,e]=δ G):
  ∃x,((if mx then Builtin.max_ ts ty #[b,B]else Builtin.min_ ts ty #[b,B]):Sem Value).run P w=.ok x w/\Bx f G x:=by
 cases p<;>try (simp[mmV]at a;done)
 cases e<;>try (simp[mmV]at a;done)
 cases g;cases h;simp only[mmV,Ao]at a;subst a;cases mx;exact⟨_,by simp[Builtin.min_,Builtin.min2],.int _ _⟩;exact⟨_,by simp[Builtin.max_,Builtin.max2],.int _ _⟩
def mm3:Ac->Ac->Ac->Option Ac
 |.int k a,.int _ b,.int _ c=>δ (.int k (if c<(if b<a then b else a)then c else(if b<a then b else a)))
 |_,_,_=>ε
def AGJ{P:Program}{w:World}{ts:Array TypeId}{ty:TypeId}{u:Ac}{x:Value}(i:Bx f e b)(j:Bx f p B)(k:Bx f G x)(a:mm3 e p G=δ u):
  ∃g,(Builtin.min_ ts ty #[b,B,x]).run P w=.ok g w/\Bx f u g:=by
 unfold mm3 at a;split at a;cases i;cases j;cases k;simp at a;subst a;exact⟨_,by simp[Builtin.min_,Builtin.min2],.int _ _⟩;cases a
def uO:Ac->Option Nat
 |.int _ i=>if 0<=i then δ i.toNat else ε
 |_=>ε
def Wj(d:Nat):Option Ac->Option Nat
 |none=>δ d
 |some v=>uO v
def hZ(P:Program)(H:Au)(t:TypeId)(v:Ac)(lo hi mx:Option Ac):Option Ac:=
 match v with
 |.str s=>
  match Wj 0 lo,Wj (θ s) hi,mx with
  |some l,δ h,ε=>if kd P t=.str/\l<=h/\h<=θ s then δ (.str ((s.drop l).take (h-l)))else ε
  |_,_,_=>ε
 |.vs sz rows=>
  match Wj 0 lo,Wj (θ rows) hi,Wj (θ rows) mx,eI P t with
  |some l,δ h,δ m,δ (ε,_,sz')=>if sz=sz'/\l<=h/\h<=m/\m<=θ rows/\(mx.isSome=ζ->hi.isSome=ζ)then δ (.vs sz ((rows.drop l).take (h-l)))else ε
  |_,_,_,_=>ε
 |.sl id g sz off len=>
  match Wj 0 lo,Wj len hi,Wj len mx,eI P t with
  |some l,δ h,δ m,δ (ε,_,sz')=>
   if sz=sz'/\0<sz/\l<=h/\h<=m/\m<=len/\TO H id g=ζ/\(mx.isSome=ζ->hi.isSome=ζ)then
    if l=0 then δ (.sl id g sz off h)else if l=h then δ (.vs sz [])else δ (.sl id g sz (off+l*sz) (h-l))
   else ε
  |_,_,_,_=>ε
 |.nils=>
  match Wj 0 lo,Wj 0 hi,Wj 0 mx,eI P t with
  |some 0,δ 0,δ 0,δ (ε,_,_)=>if mx.isSome=ζ->hi.isSome=ζ then δ .nils else ε
  |_,_,_,_=>ε
 |_=>ε
theorem ACc(r:Bx f e b)(h:uO e=δ N):∃k i,b=.int k i/\0<=i/\i.toNat=N:=by
 cases e<;>try (simp[uO]at h;done)
 cases r;grind[uO]
def run_sliceBound{P:Program}{w:World}{code:BoundsCode}(r:Bx f e b)(h:uO e=δ N)(x:N<=t):(Instr.sliceBound b t code).run P w=.ok N w:=by
 obtain⟨k,i,rfl,a,rfl⟩:=ACc r h;have:i<=t:=o!
 simp[Instr.sliceBound,asIntOf,a,this]
def Yr{P:Program}{w:World}{isSlice:Bool}{len cap l h m:Nat}{k j mx:Option Ac}{e b cmx:Option Value}(i:∀v,k=δ v→ ∃c,e=δ c∧Bx f v c)(g:k=ε→e=ε)
  (o:∀v,j=δ v->∃c,b=δ c/\Bx f v c) (t:j=ε->b=ε) (z:∀v,mx=δ v->∃c,cmx=δ c/\Bx f v c) (u:mx=ε->cmx=ε)
  (a:Wj 0 k=δ l) (q:Wj len j=δ h) (D:Wj len mx=δ m) (s:l<=h) (E:h<=m) (J:m<=len) (K:len<=cap) (F:mx.isSome=ζ->j.isSome=ζ):
  (Instr.sliceBounds isSlice len cap e b cmx).run P w=.ok (l,h,if mx.isSome then m else cap) w:=by
 unfold Instr.sliceBounds;cases mx with
 |none=>
  obtain rfl:=u rfl;cases j with
  |none=>
   obtain rfl:=t rfl;simp only[Wj,Ao]at q;subst q;cases k with
   |none=>obtain rfl:=g rfl;simp only[Wj,Ao]at a;simp[a]
   |some v=>obtain⟨d,rfl,r⟩:=i v rfl;have n:=λc=>run_sliceBound (P:=P) (w:=w) (code:=c) r a s;simp[n]
  |some A=>
   obtain⟨B,rfl,y⟩:=o A rfl;have p:=λc=>run_sliceBound (P:=P) (w:=w) (code:=c) y q (show h<=cap by omega);cases k with
   |none=>obtain rfl:=g rfl;simp only[Wj,Ao]at a;simp[a,p]
   |some v=>obtain⟨d,rfl,r⟩:=i v rfl;have n:=λc=>run_sliceBound (P:=P) (w:=w) (code:=c) r a s;simp[p,n]
 |some H=>
  obtain⟨I,rfl,G⟩:=z H rfl;have x:=F rfl;cases j with
  |none=>simp at x
  |some A=>
   obtain⟨B,rfl,y⟩:=o A rfl;have C:=λc=>run_sliceBound (P:=P) (w:=w) (code:=c) G D (show m<=cap by omega);have p:=λc=>run_sliceBound (P:=P) (w:=w) (code:=c) y q E;simp only[Sem.run_bind,C,p,Result.andThen_ok,Option.isSome_some,if_true];cases k with
   |none=>obtain rfl:=g rfl;simp only[Wj,Ao]at a;simp[a]
   |some v=>obtain⟨d,rfl,r⟩:=i v rfl;have n:=λc=>run_sliceBound (P:=P) (w:=w) (code:=c) r a s;simp[n]
theorem Qd{P:Program}(t:eI P a=δ (ε,J,N)):P.underlying a=δ (.slice J)/\∃b,tI P J=δ (b,N):=by unfold eI at t;split at t;simp_all;rename_i c d;cases f:tI P c<;>grind;cases t
theorem ACv{lo V q:Option Ac}{N L A:Option Value}(s:I1 c h H w)(r:Bx (cx c h H w) e b)
  (K:∀e,lo=δ e->∃b,N=δ b/\Bx (cx c h H w) e b) (G:lo=ε->N=ε)
  (J:∀e,V=δ e->∃b,L=δ b/\Bx (cx c h H w) e b) (F:V=ε->L=ε) (R:∀e,q=δ e->∃b,A=δ b/\Bx (cx c h H w) e b) (I:q=ε->A=ε)
  (d:hZ P H a e lo V q=δ p):∃c',(Instr.sliceAt a b N L A).run P w=.ok c' w/\Bx (cx c h H w) p c':=by
 unfold hZ at d;split at d;rename_i s';split at d;rename_i l u S O;split at d;rename_i o;obtain⟨hk,h1,U⟩:=o;simp only[Ao]at d;subst d;obtain rfl:=I rfl;cases r with
 |str t' ht=>
  have x:θ s'=t'.size:=by rw[<-ht];simp
  rw[x]at O U;have o:=Yr (P:=P) (w:=w) (isSlice:=η) (len:=t'.size) (cap:=t'.size) (mx:=ε) (cmx:=ε) K G J F (λ_ h=>by cases h) (λ_=>rfl) S O rfl h1 U (An _) (An _) (λh=>by cases h);refine⟨.string (t'.extract l u),?_,.str _ ?_⟩;simp only[Instr.sliceAt,Instr.slice,Sem.run_bind,run_underlying (uE hk),Result.andThen_ok,Option.isSome_none,Pg,if_false,o,Sem.run_pure];simp_all[vI]
 cases d;cases d;rename_i sz k;split at d;rename_i l u m t a1 S O Z he;split at d;rename_i o;obtain⟨rfl,h1,U,h3,h4⟩:=o;simp only[Ao]at d;subst d;obtain⟨z,v,y⟩:=Qd he;cases r with
 | @vs sz k X cap f C Y ao ha d=>
  have o:=Yr (P:=P) (w:=w) (isSlice:=ζ) (len:=θ k) (cap:=cap) K G J F R I S O Z h1 U h3 C h4;have E:∀{j:Nat}{t:Ac},((k.drop l).take (u-l))[j]?=δ t->k[l+j]?=δ t:=q!
  have x:((k.drop l).take (u-l)).length=u-l:=w!
  refine⟨.slice (if(if q.isSome then m else cap)=l then X else X.map (·.add (l*sz))) (u-l) ((if q.isSome then m else cap)-l),?_,?_⟩;simp only[Instr.sliceAt,Instr.slice,Sem.run_bind,run_underlying z,Result.andThen_ok,o,LG y,Sem.run_pure];have hM:u<=(if q.isSome then m else cap):=by split<;>omega
  generalize (if q.isSome then m else cap)=M at hM;have T:Bx (cx c h H w) (.vs sz ((k.drop l).take (u-l))) (.slice (if M=l then X else X.map (·.add (l*sz))) ((k.drop l).take (u-l)).length (M-l)):=?_;rw[x]at T;exact T;refine .vs (λj i=>f (l+j) i) (by rw[x];omega) Y (λj t hj=>ao _ t (E hj)) (λa4=>?_) λj t i e hj V=>d _ t i e (E hj) V;have a3:l<u:=by rcases Ax l u with h5|h5;exact h5;simp_all[EZ]
  obtain⟨B,n,rfl,hO,hB,hc⟩:=ha (by intro t;rw[t]at h3;simp at h3;omega);refine⟨B,n+l*sz,?_,hO,hB,λj t i e hj V=>?_⟩;grind[Of];have:=hc _ t i e (E hj) V;rw[EI]at this;rw[show n+l*sz+(j*sz+i)=n+(l*sz+j*sz+i)from by omega];exact this
 cases d;cases d;rename_i id g sz n len;split at d;rename_i l u m t a1 S O Z he;split at d;rename_i o;obtain⟨rfl,Y,h1,U,h3,ad,h4⟩:=o;obtain⟨z,v,y⟩:=Qd he;cases r with
 | @sl id g sz n len b W hg a2 hc=>
  rcases hc (s.cur ad)with⟨Q,rfl,rfl,rfl⟩|⟨B,cap,Q,C,D,rfl⟩;have o:=Yr (P:=P) (w:=w) (isSlice:=ζ) (len:=0) (cap:=0) K G J F R I S O Z h1 U h3 (An _) h4;have ax:l=0:=o!
  have ar:u=0:=o!
  have a0:m=0:=o!
  subst ax ar a0;simp only[if_true,Ao]at d;subst d;refine⟨.slice ε 0 0,?_,.sl W hg ⟨_,_,rfl⟩ λ_=>.inl ⟨Q,rfl,rfl,rfl⟩⟩;simp only[Instr.sliceAt,Instr.slice,Sem.run_bind,run_underlying z,Result.andThen_ok,o,LG y,Sem.run_pure];cases q<;>simp;have o:=Yr (P:=P) (w:=w) (isSlice:=ζ) (len:=len) (cap:=cap) K G J F R I S O Z h1 U h3 C h4
  have ap:(Instr.sliceAt a (.slice (δ ⟨B,n,ε⟩) len cap) N L A).run P w=
    .ok (.slice (if(if q.isSome then m else cap)=l then δ ⟨B,n,ε⟩else(δ ⟨B,n,ε⟩:Option Addr).map (·.add (l*sz))) (u-l) ((if q.isSome then m else cap)-l)) w:=by
   simp only[Instr.sliceAt,Instr.slice,Sem.run_bind,run_underlying z,Result.andThen_ok,o,LG y,Sem.run_pure]
  refine⟨_,ap,?_⟩;have hM:u<=(if q.isSome then m else cap)/\(if q.isSome then m else cap)<=cap:=by split<;>omega
  generalize (if q.isSome then m else cap)=M at hM;split at d;rename_i hl;subst hl;simp only[Ao]at d;subst d;refine .sl W hg ⟨_,_,rfl⟩ λ_=>.inr ⟨B,M,Q,hM.1,?_,?_⟩;exact Ct (Nat.add_le_add_left (Mu _ hM.2) _) D;simp[Of];rename_i hl;split at d;rename_i al;subst al;simp only[Ao]at d;subst d;rw[Gp];exact Bx.vs (rows:=[]) (λ_ _=>undef) (Bc _) Y (λ_ _ h=>by simp at h) (λh=>(h rfl).elim) λ_ _ _ _ h=>by simp at h
  rename_i al;simp only[Ao]at d;subst d;refine .sl W hg ⟨_,_,rfl⟩ λ_=>.inr ⟨B,M-l,Q,o!,?_,?_⟩;rw[eN,<-EI];have:l+(M-l)=M:=o!
  rw[this];exact Ct (Nat.add_le_add_left (Mu _ hM.2) _) D;rw[D! o!];simp[Of]
 cases d;cases d;split at d;rename_i t sz S O Z he;split at d;rename_i h4;simp only[Ao]at d;subst d;obtain⟨z,v,y⟩:=Qd he;cases r;have o:=Yr (P:=P) (w:=w) (isSlice:=ζ) (len:=0) (cap:=0) K G J F R I S O Z (An _) (An _) (An _) (An _) h4;refine⟨.slice ε 0 0,?_,.nils⟩;simp only[Instr.sliceAt,Instr.slice,Sem.run_bind,run_underlying z,Result.andThen_ok,o,LG y,Sem.run_pure];cases q<;>simp;cases d;cases d;cases d
def Ac.solid:Ac->Bool
 |.any=>η
 |.tup _=>η
 |_=>ζ
def cells_one(h:b.oneCell'=ζ):b.cells= #[b]:=by cases b<;>first|rfl|(simp[Value.oneCell']at h;done)
theorem Wb(r:Bx f e b)(h:e.solid=ζ):Bx f (.agg e.cells) (.agg b.cells):=by
 have one:∀{u:Ac}{d:Value},Bx f u d->d.oneCell'=ζ->d.cells= #[d]->u.cells=[u]->Bx f (.agg u.cells) (.agg d.cells):=by intro u d A g q z;rw[q,z];refine .agg rfl (λj b s=>?_) λj e b s l=>?_;grind;grind
 cases r with
 |agg o g p=>exact .agg o g p
 |any b=>simp[Ac.solid]at h
 |tup o p=>simp[Ac.solid]at h
 |ptr i m g l=>exact one (.ptr i m g l) g (cells_one g) rfl
 |sl i m g l=>obtain⟨a,cap,rfl⟩:=g;exact one (.sl i m ⟨a,cap,rfl⟩ l) rfl (cells_one rfl) rfl
 |bool v=>exact one (.bool v) rfl rfl rfl
 |int k n=>exact one (.int k n) rfl rfl rfl
 |str t y=>exact one (.str t y) rfl rfl rfl
 |nilp=>exact one .nilp rfl rfl rfl
 |vptr c a v b d=>exact one (.vptr c a v b d) rfl rfl rfl
 |nils=>exact one .nils rfl rfl rfl
 |vs c a v b d x=>exact one (.vs c a v b d x) rfl rfl rfl
 |fn a v b d=>exact one (.fn a v b d) rfl rfl rfl
 |yf i g l=>exact one (.yf i g l) g (cells_one g) rfl
 |mp i g l=>exact one (.mp i g l) g (cells_one g) rfl
 |itp i w g l=>exact one (.itp i w g l) g (cells_one g) rfl
 |nilf=>exact one .nilf rfl rfl rfl
def Wa(cs:List Ac)(off:Nat)(vs:List Ac):List Ac:=cs.take off++vs++cs.drop (off+θ vs)
theorem ka{c:List Ac}(h:N+θ c<=θ d):(Wa d N c).length=θ d:=by grind[Wa]
theorem uc{b:List Ac}(h:N+θ b<=θ d)(j:Nat):(Wa d N b)[j]?=if N<=j/\j<N+θ b then b[j-N]? else d[j]? :=by grind[Wa,List.getElem?_append_left]
inductive Zt where
 |arr (sz:Nat)
 |str (l:List (Nat×Nat))
def Zt.at_:Zt->Nat->Option (Nat×Nat)
 |.arr sz,i=>δ (i*sz,sz)
 |.str l,i=>l[i]?
def Yw(P:Program)(t:TypeId):Option (List Ac):=
 match (P.info? t).bind (·.zero)with
 |some z=>if z.cells.toList.all (·.oneCell')then δ (z.cells.toList.map qh)else ε
 |none=>ε
def uX(P:Program)(t:TypeId):Option Zt:=
 match P.underlying t with
 |some (.struct fs)=>(fs.toList.mapM λf=>(P.info? f.type).map λi=>(f.offset,i.size)).map Zt.str
 |some (.array _ e)=>(P.info? e).map λi=>Zt.arr i.size
 |_=>ε
def qm(p:Zt):List Ac->List (Nat×Ac)->Option (List Ac)
 |cs,[]=>δ cs
 |cs,(i,v)::r=>
  match p.at_ i with
  |some (off,size)=>if v.solid=ζ/\θ v.cells=size/\off+size<=θ cs then qm p (Wa cs off v.cells) r else ε
  |none=>ε
def sj(P:Program)(t:TypeId)(parts:List (Nat×Ac)):Option Ac:=
 match Yw P t,uX P t with
 |some z,δ p=>(qm p z parts).map Ac.agg
 |_,_=>ε
theorem eC(x:Cx)(h:Yw P a=δ d):∃i v,P.info? a=δ i/\i.zero=δ v/\Bx x (.agg d) (.agg v.cells):=by
 unfold Yw at h;cases t:P.info? a with
 |none=>grind
 |some i=>
  cases b:i.zero with
  |none=>grind
  |some v=>rw[t]at h;simp only[AD,b]at h;split at h;rename_i z;simp at h;subst h;refine⟨i,v,rfl,b,.agg k! (λj c e=>?_) λj u c e f=>?_⟩;grind;grind[pX];cases h
theorem foldl_set(a:Nat):∀(l:List Value)(k:Nat)(b:Array Value),a+k+θ l≤b.size→
  ((l.zipIdx k).foldl (λb (p:Value×Nat)=>b.setIfInBounds (a+p.2) p.1) b).size=b.size/\∀j,((l.zipIdx k).foldl (λb (p:Value×Nat)=>b.setIfInBounds (a+p.2) p.1) b)[j]?=if a+k<=j/\j<a+k+θ l then l[j-(a+k)]? else b[j]?
 |[],k,b,_=>by simp;intro j c d;omega
 |v::l,k,b,h=>by simp at h⊢;obtain⟨c,d⟩:=foldl_set a l (k+1) (b.setIfInBounds (a+k) v) w!;grind
theorem AEu{g:List Ac}{x:Array Value}{off:Nat}(r:Bx f (.agg d) (.agg i))(p:Bx f (.agg g) (.agg x))(h:off+θ g≤θ d)(a:Array Value)
  (e:a.size=i.size) (b:∀j,a[j]?=if off<=j/\j<off+x.size then x[j-off]? else i[j]?):Bx f (.agg (Wa d off g)) (.agg a):=by
 cases r with
 |agg m q t=>
  cases p with
  |agg n k o=>refine .agg (by rw[e,m,ka h]) (λj c l=>?_) λj v c l s=>?_;grind;grind[uc]
theorem vc{x:Cx}(p:Zt):∀(b:List (Nat×Ac))(a:List (Nat×Value))(f:List Ac)(d:Array Value)(n:List Ac),a.map (·.1)=b.map (·.1)→
  (∀(j:Nat)(q:Nat×Ac)(o:Nat×Value),b[j]?=δ q->a[j]?=δ o->Bx x q.2 o.2)->Bx x (.agg f) (.agg d)->qm p f b=δ n->
  ∃l,Instr.fill p.at_ d a=δ l/\Bx x (.agg n) (.agg l)
 |[],a,f,d,n,m,_,r,h=>by
  have:a=[]:=t!
  subst this;simp only[qm,Ao]at h;subst h;exact⟨d,rfl,r⟩
 |(i,v)::b,(i',c)::a,f,d,n,m,hr,r,h=>by
  simp at m;obtain⟨rfl,m⟩:=m;simp only[qm]at h;split at h;rename_i e size E;split at h;rename_i u;obtain⟨g,rfl,s⟩:=u;have t:=Wb (hr 0 (i',v) (i',c) rfl rfl) g;have z:c.cells.size=θ v.cells:=by cases t with|agg h _ _=>exact h
  have w:d.size=θ f:=by cases r with|agg h _ _=>exact h
  have k:=foldl_set e c.cells.toList 0 d q!;have B:c.cells.zipIdx.foldl (λf (p:Value×Nat)=>f.setIfInBounds (e+p.2) p.1) d=(c.cells.toList.zipIdx 0).foldl (λf (p:Value×Nat)=>f.setIfInBounds (e+p.2) p.1) d:=by rw[<-Array.foldl_toList,Array.toList_zipIdx]
  have A:=AEu (off:=e) r t s ((c.cells.toList.zipIdx 0).foldl (λf (p:Value×Nat)=>f.setIfInBounds (e+p.2) p.1) d) k.1 (λj=>q!);obtain⟨l,C,D⟩:=vc p b a _ _ n m (λj q o F y=>hr (j+1) q o q! q!) A h;grind[Instr.fill];cases h;cases h
theorem ACA{b:List (Nat×Ac)}{u:Array (Nat×Value)}(E:u.toList.map (·.1)=b.map (·.1))
  (hr:∀(j:Nat)(q:Nat×Ac)(A:Nat×Value),b[j]?=δ q->u.toList[j]?=δ A->Bx f q.2 A.2) (h:sj P a b=δ e):∃c,(Instr.build a u).run P w=.ok c w/\Bx f e c:=by
 unfold sj at h;split at h;rename_i z p F d;cases y:qm p z b with
 |none=>grind
 |some H=>
  rw[y]at h;simp at h;subst h;obtain⟨i,v,D,k,G⟩:=eC f F;obtain⟨m,s,C⟩:=vc p b u.toList z v.cells H E hr G y;refine⟨.agg m,run_build w a u m ?_,C⟩;unfold Program.built;rw[D];unfold uX at d;split at d;rename_i B r;rw[r];cases o:B.toList.mapM (λx=>(P.info? x.type).map λi=>(x.offset,i.size))with
  |none=>grind
  |some l=>simp only[k,o];rw[<-s];congr 1;grind[Zt.at_]
  rename_i n t r;rw[r];cases g:P.info? t with
  |none=>grind
  |some I=>rw[g]at d;simp at d;subst d;simp only[k,g];exact s
  cases d
 cases h
def Cd(P:Program)(env:Env)(H:Au):Op->Option Ac
 |.move x|.assign x=>δ (BO env x)
 |.pick c a b=>
  match BO env c with
  |.bool t=>δ (if t then BO env a else BO env b)
  |_=>ε
 |.load t a=>iM P t H (BO env a)
 |.nilCheck x=>
  match BO env x with
  |.ptr id g off=>if TO H id g then δ (.ptr id g off)else ε
  |.vptr cs=>δ (.vptr cs)
  |.fn (.func f) a b=>δ (.fn (.func f) a b)
  |_=>ε
 |.binOp op t x y _=>yE P op t (BO env x) (BO env y)
 |.unOp op _ x=>unV op (BO env x)
 |.convert s d x=>XD P H s d (BO env x)
 |.fieldAddr s x f=>Vx P H s f (BO env x)
 |.field s x f=>tR P s f (BO env x)
 |.indexAddr t x i=>V2 P H t (BO env x) (BO env i)
 |.index t x i=>kQ P t (BO env x) (BO env i)
 |.slice t x lo hi mx=>hZ P H t (BO env x) (lo.map (BO env)) (hi.map (BO env)) (mx.map (BO env))
 |.extract x i=>
  match BO env x with
  |.tup vs=>vs[i]?
  |_=>ε
 |.makeFunc f a b=>δ (.fn f (a.toList.map (BO env)) (b.toList.map (BO env)))
 |.build t parts=>sj P t (parts.toList.map λp=>(p.1,BO env p.2))
 |.call {callee:=.builtin .len,args:=⟨[x]⟩,argTypes:=⟨[t]⟩}=>pz P H t (BO env x)
 |.call {callee:=.builtin .max,args:=⟨[x,y]⟩,.. }=>mmV ζ [BO env x,BO env y]
 |.call {callee:=.builtin .min,args:=⟨[x,y]⟩,.. }=>mmV η [BO env x,BO env y]
 |.call {callee:=.builtin .min,args:=⟨[x,y,z]⟩,.. }=>mm3 (BO env x) (BO env y) (BO env z)
 |_=>ε
def ACl{P:Program}{N:Nat}{X:Nat→Prop}{h:Gh}{env:Env}{H:Au}{a:Act}{w:World}{o:Oper}{v:Ac}(s:St X h N env H a w)(b:Cd P env H o.op=δ v):
  ∃c,(execOp a.eval o).run P w=.ok (.value c) w/\Bx (cx X h H w) v c:=by
 have k:=λx=>Dk s.env x;have d:∀{m:Sem Value},(∃c,m.run P w=.ok c w/\Bx (cx X h H w) v c)->∃c,(do pure (Next.value (<-m)):Sem Next).run P w=.ok (.value c) w/\Bx (cx X h H w) v c:=by rintro m ⟨c,u,hr⟩;exact⟨c,by simp[u],hr⟩
 unfold execOp;cases e:o.op with
 |move x=>rw[e]at b;simp only[Cd,Ao]at b;subst b;exact⟨_,rfl,k x⟩
 |assign x=>rw[e]at b;simp only[Cd,Ao]at b;subst b;exact⟨_,rfl,k x⟩
 |pick c x y=>rw[e]at b;simp only[Cd]at b;split at b;rename_i t ht;have u:=k c;rw[ht]at u;simp only[Ao]at b;subst b;generalize W:a.eval c=cv at u;cases u;simp only[W,asBool];cases t;exact⟨_,k!,k y⟩;exact⟨_,k!,k x⟩;cases b
 |load t x=>rw[e]at b;simp only[Cd]at b;obtain⟨B,ad,D,E,hl,hr⟩:=yp s.sim (k x) b;exact d ⟨D,by rw[E];simp[Instr.loadAt,Instr.sureAddr,hl],hr⟩
 |nilCheck x=>
  rw[e]at b;simp only[Cd]at b;have z:=k x;split at b;rename_i id g ad E;rw[E]at z;split at b;rename_i M;simp only[Ao]at b;subst b;generalize A:a.eval x=c at z;cases z with
  |ptr Y S n u=>obtain⟨B,al,rfl⟩:=u (s.sim.cur M);exact⟨_,by simp only[A];rfl,.ptr Y S n u⟩
  cases b;rename_i cs E;rw[E]at z;simp only[Ao]at b;subst b;generalize A:a.eval x=c at z;cases z with
  |vptr f n r U V=>exact⟨_,by simp only[A];rfl,.vptr f n r U V⟩
  rename_i f p q E;rw[E]at z;simp only[Ao]at b;subst b;generalize A:a.eval x=c at z;cases z with
  |fn n r U V=>exact⟨_,by simp only[A];rfl,.fn n r U V⟩
  cases b
 |binOp op t x y yt=>rw[e]at b;simp only[Cd]at b;exact d (AFe w (k x) (k y) b)
 |unOp op t x=>rw[e]at b;simp only[Cd]at b;exact d (AIb w (k x) b)
 |convert p q x=>rw[e]at b;simp only[Cd]at b;exact d (ADm s.sim (k x) b)
 |fieldAddr p x f=>rw[e]at b;simp only[Cd]at b;exact d (uy s.sim (k x) b)
 |field p x f=>rw[e]at b;simp only[Cd]at b;exact d (ACN (k x) b)
 |indexAddr t x i=>rw[e]at b;simp only[Cd]at b;exact d (vA s.sim (k x) (k i) b)
 |index t x i=>rw[e]at b;simp only[Cd]at b;exact d (ACT (k x) (k i) b)
 |slice t x lo hi T=>
  rw[e]at b;simp only[Cd]at b;have G:∀(y:Option Operand)(v:Ac),y.map (BO env)=δ v->∃c,y.map a.eval=δ c/\Bx (cx X h H w) v c:=by
   intro y v Q;cases y with
   |none=>cases Q
   |some y=>simp only[Bt,Ao]at Q;subst Q;exact⟨_,rfl,k y⟩
  have C:∀(y:Option Operand),y.map (BO env)=ε->y.map a.eval=ε:=by
   intro y Q;cases y with
   |none=>rfl
   |some y=>cases Q
  exact d (ACv s.sim (k x) (G lo) (C lo) (G hi) (C hi) (G T) (C T) b)
 |extract x i=>
  rw[e]at b;simp only[Cd]at b;have z:=k x;split at b;rename_i vs E;rw[E]at z;generalize u:a.eval x=c at z;cases z with
  | @tup vs R hs Z=>
   have ao:i<θ vs:=by rcases Ax i (θ vs) with r|r;exact r;rw[Cn r]at b;cases b
   have S:R[i]?=δ (R[i]' o!):=Nr o!;refine d ⟨_,?_,Z i v _ b S⟩;simp only[Instr.extract,u,S];rfl
  cases b
 |makeFunc f p q=>
  rw[e]at b;simp only[Cd,Ao]at b;subst b;have L:∀(p:Array Operand)(j:Nat)(v:Ac)(c:Value),(p.toList.map (BO env))[j]?=δ v->(p.map a.eval)[j]?=δ c->Bx (cx X h H w) v c:=by
   intro p j v c J u;rw[CL,Pf]at J;rw[be]at u;cases O:p[j]? with
   |none=>rw[O]at J;cases J
   |some y=>rw[O]at J u;simp only[Bt,Ao]at J u;subst J u;exact k y
  exact d ⟨_,rfl,.fn k! k! (L p) (L q)⟩
 |build t I=>
  rw[e]at b;simp only[Cd]at b;refine d (ACA ?_ ?_ b);simp;intro j q q' K F;rw[CL,Pf]at K;rw[Pf,be]at F;cases O:I[j]? with
  |none=>rw[O]at K;cases K
  |some y=>rw[O]at K F;simp only[Bt,Ao]at K F;subst K F;exact k y.2
 |call c=>
  rw[e]at b;simp only[Cd]at b;split at b<;>rename_i l<;>first
   |(cases b;done)
   |(cases l;done)
   |skip
  injection l with l;subst l;simp only[resolve,invoke,builtin,Sem.run_bind,Sem.run_pure,Result.andThen_ok,QT,Bf,HQ];obtain⟨D,n,r⟩:=AGE (ty:=o.type) s.sim (k _) b;exact⟨D,by rw[n];rfl,r⟩;injection l with l;subst l;simp only[resolve,invoke,builtin,Sem.run_bind,Sem.run_pure,Result.andThen_ok,QT,Bf,HQ];obtain⟨D,n,r⟩:=AEJ (P:=P) (w:=w) (mx:=ζ) (ts:=_) (ty:=o.type) (k _) (k _) b;exact⟨D,by simp only[if_true]at n;rw[n];rfl,r⟩;injection l with l;subst l;simp only[resolve,invoke,builtin,Sem.run_bind,Sem.run_pure,Result.andThen_ok,QT,Bf,HQ];obtain⟨D,n,r⟩:=AEJ (P:=P) (w:=w) (mx:=η) (ts:=_) (ty:=o.type) (k _) (k _) b;exact⟨D,by simp only[Pg,if_false]at n;rw[n];rfl,r⟩;injection l with l;subst l;simp only[resolve,invoke,builtin,Sem.run_bind,Sem.run_pure,Result.andThen_ok,QT,Bf,HQ];obtain⟨D,n,r⟩:=AGJ (P:=P) (w:=w) (ts:=_) (ty:=o.type) (k _) (k _) (k _) b;exact⟨D,by rw[n];rfl,r⟩
 |_=>rw[e]at b;simp[Cd]at b
def Ds{P:Program}{N:Nat}{H:Au}{v:Ac}(b:Cd P g H o.op=δ v)(e:K v H):JV P N o g H K:=by apply C3 (by cases f:o.op<;>first|rfl|(rw[f]at b;simp[Cd]at b));intro X h a w s Q;obtain⟨c,d,hr⟩:=ACl s b;unfold Oper.wp;rw[d,Oper.upon_value];exact⟨c,v,h,H,rfl,e,hr,s.sim,G8.refl _ _ _⟩
section
variable {X:Nat->Prop}{h:Gh}{H:Au}{w:World}
def Gh.at_(h:Gh)(id:Nat)(io:Option Nat)(gen cap:Nat):Gh:=
 ⟨λi=>if i=id then io else h.io i,λi=>if i=id then gen else h.gen i,λi=>if i=id then cap else h.cap i⟩
def Holds(x:Cx)(cs:List Ac)(arr:Array Value)(fz:Nat×Nat):Prop:=
 ∃f:Nat->Value,θ cs<=arr.size/\(∀i,i<arr.size->(τ (fz.1<=i)&&τ (i<fz.2))=η)/\
  ∀(j:Nat)(v:Ac),cs[j]?=δ v->arr[j]?=δ (f j)/\(f j).oneCell'=ζ/\Bx x v (f j)
def P6(r:Bx f (.agg d) (.agg i)):Holds f d i (0,0):=by
 cases r with
 |agg l h k=>
  refine⟨λj=>i.getD j undef,o!,λa _=>k!,λj v c=>?_⟩;have b:j<i.size:=by rcases Ax j (θ d) with g|g;omega;rw[Cn g]at c;cases c
  have x:i[j]?=δ (i[j]):=Nr b;have e:i.getD j undef=i[j]:=by simp[b]
  show i[j]?=δ (i.getD j undef)/\(i.getD j undef).oneCell'=ζ/\Bx f v (i.getD j undef);rw[e];exact⟨x,h j _ x,k j v _ c x⟩
def I1.of_ext'(s:I1 X h H w)(V:G8 h H w O R A)
  (key:∀(id:Nat)(e:Fk),R[id]?=δ e->e≠.dead->(H[id]?=δ e/\O.gen id=h.gen id/\O.io id=h.io id/\O.cap id=h.cap id/\∀B,h.io id=δ B->A.heap[B]?=w.heap[B]?)\/((∃g K,e=.live g K/\AA2 (cx X O R A) id g K)\/(∃L,e=.lp L/\wY (cx X O R A) id L)\/(e.isB=ζ/\BAt O A id e)))
  (inj:∀(id x:Nat)(e W:Fk)(B:Nat),R[id]?=δ e->R[x]?=δ W->e≠.dead->W≠.dead->O.io id=δ B->O.io x=δ B->id=x):I1 X O R A:=by
 have hl:=V.later X;refine⟨λB l=>⟨DB (s.out B l).1 V.size,λN=>?_⟩,λid g K I=>?_,λid L I=>?_,inj,λid e I l=>?_⟩;rcases V.fresh B N with N|N;exact(s.out B l).2 N;have:=(s.out B l).1;omega;rcases key id _ I k! with⟨c,y,q,M,z⟩|⟨Y,D,e,hn⟩|⟨L,e,_⟩|⟨e,_⟩;obtain⟨T,J⟩:=s.live id g K c;refine⟨y.trans T,?_⟩;rcases J with⟨hn,rfl⟩|⟨B,C,T',P,f,d,i,G,U,S,o⟩;exact .inl ⟨q.trans hn,rfl⟩;refine .inr ⟨B,C,T',P,f,q.trans d,(z B d).trans i,G.trans M.symm,U,S,λj v hj=>?_⟩;obtain⟨p1,p2,p3⟩:=o j v hj;exact⟨p1,p2,p3.later hl⟩;injection e with a b;subst a b;exact hn;cases e;cases e;rcases key id _ I k! with⟨c,y,q,M,z⟩|⟨Y,D,e,hn⟩|⟨L',e,hn⟩|⟨e,_⟩;obtain⟨T,B,r,d,i,u,E,F,Q,h5,h6,Z⟩:=s.lp id L c;exact⟨y.trans T,B,r,q.trans d,(z B d).trans i,u,E,F,Q,h5,h6,λt v m=>⟨(Z t v m).1,(Z t v m).2.later hl⟩⟩;cases e;injection e with a;subst a;exact hn;cases e;rcases key id _ I (by rintro rfl;cases l)with⟨c,y,q,M,z⟩|⟨Y,D,e,hn⟩|⟨L',e,hn⟩|⟨_,hn⟩;cases e with
 |mp k es=>obtain⟨B,p,u,E,F,Q⟩:=s.bld id _ c l;exact⟨B,p,q.trans u,y.trans E,(z B u).trans F,Q⟩
 |it n seen=>obtain⟨B,u,E,F⟩:=s.bld id _ c l;exact⟨B,q.trans u,y.trans E,by rw[M];exact(z B u).trans F⟩
 |_=>cases l
 subst e;cases l;subst e;cases l;exact hn
def I1.of_ext(s:I1 X h H w)(m:G8 h H w O R A)
  (key:∀(id:Nat)(e:Fk),R[id]?=δ e->e≠.dead->(H[id]?=δ e/\O.gen id=h.gen id/\O.io id=h.io id/\O.cap id=h.cap id/\∀B,h.io id=δ B->A.heap[B]?=w.heap[B]?)\/((∃g j,e=.live g j/\AA2 (cx X O R A) id g j)\/∃L,e=.lp L/\wY (cx X O R A) id L))
  (inj:∀(id c:Nat)(e k:Fk)(B:Nat),R[id]?=δ e->R[c]?=δ k->e≠.dead->k≠.dead->O.io id=δ B->O.io c=δ B->id=c):I1 X O R A:=
 s.of_ext' m (λi e l f=>(key i e l f).imp id λh=>h.imp id .inl) inj
def Iz{e:Fk}(a:(H++[m])[N]?=δ e):(N<θ H/\H[N]?=δ e)\/(N=θ H/\e=m):=by rcases QX N (θ H) with b|rfl|c;rw[CT b]at a;exact .inl ⟨b,a⟩;rw[Ci (An _),Gp]at a;simp at a;exact .inr ⟨rfl,a.symm⟩;rw[Cn w!]at a;cases a
def JU{e:Fk}(c:N<θ H)(a:(H.set N m)[t]?=δ e):(t≠N/\H[t]?=δ e)\/(t=N/\e=m):=by by_cases b:t=N;subst b;rw[Gy c]at a;simp at a;exact .inr ⟨rfl,a.symm⟩;rw[DW (λe=>b e.symm)]at a;exact .inl ⟨b,a⟩
def G8.push(o:Obj)(cap:Nat)(E:Fk):
  G8 h H w (h.at_ (θ H) (δ w.heap.size) 0 cap) (H++[E]) {w with heap:=w.heap.push o}where
 os:=rfl
 tape:=rfl
 output:=rfl
 size:=k!
 keep B hB _:=by simp[TT,Bl hB]
 n:=k!
 gen id hid:=by simp[Gh.at_,Bl hid]
 same id hid _:=by simp[Gh.at_,Bl hid]
 fresh B ho:=by obtain⟨id,e,b,d,a⟩:=ho;rcases Iz b with⟨c,b⟩|⟨rfl,rfl⟩;exact .inl ⟨id,e,b,d,by simpa[Gh.at_,Bl c]using a⟩;simp[Gh.at_]at a;exact .inr o!
 loops B r hB:=⟨r,by have:=PP hB;simp[TT,Bl this,hB]⟩
def I1.push_any(s:I1 X h H w)(o:Obj)(cap:Nat)(E:Fk)
  (t:E≠.dead->((∃g l,E=.live g l/\AA2 (cx X (h.at_ (θ H) (δ w.heap.size) 0 cap) (H++[E]) {w with heap:=w.heap.push o}) (θ H) g l)\/∃L,E=.lp L/\wY (cx X (h.at_ (θ H) (δ w.heap.size) 0 cap) (H++[E]) {w with heap:=w.heap.push o}) (θ H) L)):
  I1 X (h.at_ (θ H) (δ w.heap.size) 0 cap) (H++[E]) {w with heap:=w.heap.push o}:=by
 refine s.of_ext (G8.push o cap E) (λid e f d=>?_) λid u e v B p q b c i j=>?_;rcases Iz f with⟨a,f⟩|⟨rfl,rfl⟩;refine .inl ⟨f,by simp[Gh.at_,Bl a],by simp[Gh.at_,Bl a],by simp[Gh.at_,Bl a],λB k=>?_⟩;have:=s.io_at f d k;simp[TT,Bl this];exact .inr (t d);rcases Iz p with⟨l1,m⟩|⟨rfl,_⟩<;>rcases Iz q with⟨l2,n⟩|⟨rfl,_⟩;exact s.inj _ _ _ _ B m n b c (by simpa[Gh.at_,Bl l1]using i) (by simpa[Gh.at_,Bl l2]using j);have r:=s.io_at m b (by simpa[Gh.at_,Bl l1]using i);simp[Gh.at_]at j;omega;have r:=s.io_at n c (by simpa[Gh.at_,Bl l2]using j);simp[Gh.at_]at i;omega;rfl
def I1.push(s:I1 X h H w)(a:Array Value)(T:TypeId)(c:Nat×Nat)(g:List Ac)(i:Holds (cx X h H w) g a c):
  I1 X (h.at_ (θ H) (δ w.heap.size) 0 a.size) (H++[.live 0 g]) {w with heap:=w.heap.push (.cells a T c)}:=by
 refine s.push_any _ _ _ λ_=>.inl ⟨0,g,rfl,?_⟩;obtain⟨f,e,d,b⟩:=i;refine⟨by simp[cx,Gh.at_],.inr ⟨w.heap.size,a,T,c,f,by simp[cx,Gh.at_],by show(w.heap.push (.cells a T c))[w.heap.size]?=_;simp,by simp[cx,Gh.at_],e,d,λj v k=>?_⟩⟩;obtain⟨l,m,n⟩:=b j v k;exact⟨l,m,n.later ((G8.push _ _ _).later X)⟩
def I1.upd(s:I1 X h H w){id g g' B:Nat}{K cs':List Ac}{arr:Array Value}{T:TypeId}{fz:Nat×Nat}{w':World}(y:H[id]?=δ (Fk.live g K))(hg:g≤g')
  (z:g'=g->h.io id=δ B/\h.cap id=arr.size) (a:h.io id=δ B\/w.heap.size<=B) (hb:w'.heap[B]?=δ (.cells arr T fz)) (N:∀k,k<w.heap.size->k≠B->w'.heap[k]?=w.heap[k]?)
  (R:w'.os=w.os) (C:w'.tape=w.tape) (G:w'.output=w.output) (A:w.heap.size<=w'.heap.size) (hh:Holds (cx X h H w) cs' arr fz):
  I1 X (h.at_ id (δ B) g' arr.size) (H.set id (.live g' cs')) w'/\G8 h H w (h.at_ id (δ B) g' arr.size) (H.set id (.live g' cs')) w':=by
 have q:id<θ H:=by rcases Ax id (θ H) with o|o;exact o;rw[Cn o]at y;cases y
 have u:h.gen id=g:=(s.live id g K y).1;have S:G8 h H w (h.at_ id (δ B) g' arr.size) (H.set id (.live g' cs')) w':=by refine⟨R,C,G,A,λk O hn=>?_,k!,λi n=>?_,λi n e=>?_,λk ho=>?_,λk r hr=>⟨r,?_⟩⟩;refine N k O λe=>?_;subst e;rcases a with a|a;exact hn ⟨id,_,y,k!,a⟩;omega;by_cases e:i=id;subst e;simp[Gh.at_,u,hg];simp[Gh.at_,e];by_cases Z:i=id;subst Z;simp only[Gh.at_,if_true]at e⊢;have:=z (e.trans u);exact⟨this.1.symm,this.2.symm⟩;simp[Gh.at_,Z];obtain⟨i,d,t,b,o⟩:=ho;rcases JU q t with⟨n,l⟩|⟨rfl,_⟩;exact .inl ⟨i,d,l,b,by simpa[Gh.at_,n]using o⟩;simp[Gh.at_]at o;subst o;rcases a with a|a;exact .inl ⟨i,_,y,k!,a⟩;exact .inr a;have Q:=PP hr;refine(N k Q λe=>?_).trans hr;subst e;rcases a with a|a;rcases(s.live id g K y).2 with⟨hn,_⟩|⟨W,Y,T',ad,f',x,D,_⟩;rw[show(cx X h H w).io id=h.io id from rfl,a]at hn;cases hn;rw[show(cx X h H w).io id=h.io id from rfl,a]at x;injection x with e;subst e;rw[show(cx X h H w).w.heap=w.heap from rfl,hr]at D;cases D;omega
 have hl:=S.later X;have c:∀{i:Nat}{d:Fk},i≠id->H[i]?=δ d->d≠.dead->h.io i=δ B->False:=by intro i d n t b m;rcases a with a|a;exact n (s.inj i id d _ B t y b k! m a);have:=s.io_at t b m;omega
 refine⟨s.of_ext S (λi d t b=>?_) (λi i' d L k t o E F I J=>?_),S⟩;rcases JU q t with⟨n,l⟩|⟨rfl,rfl⟩;refine .inl ⟨l,by simp[Gh.at_,n],by simp[Gh.at_,n],by simp[Gh.at_,n],λW m=>N W (s.io_at l b m) λe=>?_⟩;subst e;exact c n l b m;obtain⟨f,P,M,p⟩:=hh;refine .inr (.inl ⟨g',cs',rfl,by simp[cx,Gh.at_],.inr ⟨B,arr,T,fz,f,by simp[cx,Gh.at_],hb,by simp[cx,Gh.at_],P,M,λj v hj=>?_⟩⟩);obtain⟨p1,p2,p3⟩:=p j v hj;exact⟨p1,p2,p3.later hl⟩;rcases JU q t with⟨U,d⟩|⟨rfl,_⟩<;>rcases JU q o with⟨V,L⟩|⟨rfl,_⟩;exact s.inj _ _ _ _ k d L E F (by simpa[Gh.at_,U]using I) (by simpa[Gh.at_,V]using J);simp[Gh.at_]at J;subst J;exact(c U d E (by simpa[Gh.at_,U]using I)).elim;simp[Gh.at_]at I;subst I;exact(c V L F (by simpa[Gh.at_,V]using J)).elim;rfl
end
def ACP(h:w.heap[N]?=δ (.cells i a y))(B:Nat):w.frozen? ⟨N,B,ε⟩=(τ (y.1<=B)&&τ (B<y.2)):=by unfold World.frozen?;rw[h]
def U4{P:Program}{B off:Nat}{T:TypeId}{h:Nat×Nat}:∀(g:List Value)(i:Nat)(a:Array Value)(w:World),w.heap[B]?=δ (.cells a T h)→off+i+θ g≤a.size→
  (∀j,j<a.size->(τ (h.1<=j)&&τ (j<h.2))=η)->(∀v∈g,v.oneCell'=ζ)->
  ∃d b,(storeCells ⟨B,off,ε⟩ g i).run P w=.ok () d/\d.heap[B]?=δ (.cells b T h)/\b.size=a.size/\(∀j,b[j]?=if off+i<=j/\j<off+i+θ g then g[j-(off+i)]? else a[j]?)/\(∀k,k≠B->d.heap[k]?=w.heap[k]?)/\d.os=w.os/\d.tape=w.tape/\d.output=w.output/\d.heap.size=w.heap.size
 |[],i,a,w,hb,_,_,_=>⟨w,a,rfl,hb,rfl,λj=>by rw[D! k!],λ_ _=>rfl,rfl,rfl,rfl,rfl⟩
 |v::g,i,a,w,hb,hle,hfz,h1=>by
  simp only[Ba]at hle;have o:w.cell? ⟨B,off+i,ε⟩=δ (a[off+i]' o!):=by rw[Pj (w:=w) hb];exact Nr o!
  have p:w.frozen? ⟨B,off+i,ε⟩=η:=by rw[ACP hb];exact hfz _ o!
  have c:(store ⟨B,off+i,ε⟩ v).run P w=.ok () (w.setCell ⟨B,off+i,ε⟩ v):=by rw[run_store P w _ v .plain (h1 v k!),o];simp[p]
  have l:(w.setCell ⟨B,off+i,ε⟩ v).heap[B]?=δ (.cells (a.setIfInBounds (off+i) v) T h):=by simp[World.setCell,bT,hb]
  obtain⟨d,b,r,s,t,x,y,z,A,C,D⟩:=U4 (P:=P) (off:=off) g (i+1) (a.setIfInBounds (off+i) v) (w.setCell ⟨B,off+i,ε⟩ v) l w!
   (by simpa using hfz) (λu q=>h1 u (Ce _ q))
  refine⟨d,b,?_,s,by rw[t];simp,λj=>?_,λk n=>?_,z,A,C,by rw[D];simp[World.setCell]⟩;simp only[storeCells,Of,Sem.run_bind,c,Result.andThen_ok];exact r;rw[x];by_cases m:j=off+i;subst m;rw[D! o!,C! k!,Array.getElem?_setIfInBounds_self_of_lt o!];simp;by_cases f:off+(i+1)<=j/\j<off+(i+1)+θ g;rw[C! f,C! w!,show j-(off+i)=(j-(off+(i+1)))+1 from by omega];rfl;rw[D! f,D! w!,vG (λe=>m e.symm)];rw[y k n];simp[World.setCell,bT,On n]
section
variable {P:Program}{N:Nat}{o:Oper}{env:Env}{H:Au}{K:Ac->Au->Prop}
def JV.alloc(z:o.op=.alloc a)(g:Yw P a=δ d)(f:K (.ptr (θ H) 0 0) (H++[.live 0 d])):JV P N o env H K:=by
 apply C3 (by rw[z];rfl);intro X h t w s Q;obtain⟨i,v,e,c,j⟩:=eC (cx X h H w) g;have b:(execOp t.eval o).run P w=.ok (.value (.pointer (δ ⟨w.heap.size,0,ε⟩))) {w with heap:=w.heap.push (.cells v.cells a)}:=by unfold execOp;rw[z];simp[Instr.alloc,zeroValue,typeInfo,e,c,newVar,newRow]
 unfold Oper.wp;rw[b,Oper.upon_value];refine⟨_,_,_,_,rfl,f,?_,s.sim.push v.cells a (0,0) d (P6 j),G8.push _ _ _⟩;exact .ptr (by simp[cx]) (by simp[cx,Gh.at_]) rfl λ_=>⟨w.heap.size,by simp[cx,Gh.at_],rfl⟩
def JV.box(c:o.op=.box a k)(g:BO env k=e)(f:e.solid=ζ)(x:K (.ptr (θ H) 0 0) (H++[.live 0 e.cells])):JV P N o env H K:=by
 apply C3 (by rw[c];rfl);intro X h t w s Q;have d:=Dk s.env k;rw[g]at d;have i:=Wb d f;have b:(execOp t.eval o).run P w=.ok (.value (.pointer (δ ⟨w.heap.size,0,ε⟩))) {w with heap:=w.heap.push (.cells (t.eval k).cells a)}:=by unfold execOp;rw[c];simp[Instr.box,newVar,newRow]
 unfold Oper.wp;rw[b,Oper.upon_value];refine⟨_,_,_,_,rfl,x,?_,s.sim.push _ a (0,0) e.cells (P6 i),G8.push _ _ _⟩;exact .ptr (by simp[cx]) (by simp[cx,Gh.at_]) rfl λ_=>⟨w.heap.size,by simp[cx,Gh.at_],rfl⟩
def JV.store{id g off:Nat}{v:Ac}{cs:List Ac}{b:Bool}(ho:o.op=.store a k L)(hx:BO env k=.ptr id g off)(hy:BO env L=v)(hs:v.solid=ζ)
  (he:H[id]?=δ (Fk.live g cs)) (ht:tI P a=δ (b,θ v.cells)) (J:off+θ v.cells<=θ cs) (V:K .any (H.set id (.live g (Wa cs off v.cells)))):JV P N o env H K:=by
 apply C3 (by rw[ho];rfl);intro X h y w s Q;have Z:=Dk s.env k;rw[hx]at Z;have Y:=Dk s.env L;rw[hy]at Y;have rz:=Wb Y hs;obtain⟨I,F⟩:=s.sim.live id g cs he;obtain⟨B,i,S⟩:∃B,h.io id=δ B/\y.eval k=.pointer (δ ⟨B,off,ε⟩):=by
  generalize y.eval k=c at Z;cases Z with
  |ptr al O h1 hc=>obtain⟨B,i,rfl⟩:=hc I;exact⟨B,i,rfl⟩
 rcases F with⟨hn,_⟩|⟨B',D,T,R,f,z,hb,E,ad,G,m⟩;rw[show(cx X h H w).io id=h.io id from rfl,i]at hn;cases hn;rw[show(cx X h H w).io id=h.io id from rfl,i]at z;injection z with e;subst e;generalize U:y.eval L=c at Y rz;obtain⟨M,A,W⟩:c.cells.size=θ v.cells/\(∀(j:Nat)(d:Value),c.cells[j]?=δ d->d.oneCell'=ζ)/\(∀(j:Nat)(u:Ac)(d:Value),v.cells[j]?=δ u->c.cells[j]?=δ d->Bx (cx X h H w) u d):=by cases rz with|agg p q r=>exact⟨p,q,r⟩
 obtain⟨w',n,p1,p2,p3,p4,p5,p6,p7,p8,p9⟩:=U4 (P:=P) (off:=off) c.cells.toList 0 D w hb w! G (λd hd=>by obtain⟨j,C⟩:=DU hd;exact A j d (by simpa using C));have t:(execOp y.eval o).run P w=.ok .skip w':=by unfold execOp;rw[ho];simp only[S,U,Instr.storeAt,Instr.sureAddr,Sem.run_bind,Sem.run_pure,Result.andThen_ok,storeVar,LG ht];rw[D! (by simp[M])];simp only[Result.andThen_ok,p1]
 have hh:Holds (cx X h H w) (Wa cs off v.cells) n R:=by
  refine⟨λj=>if off<=j/\j<off+θ v.cells then c.cells.getD (j-off) undef else f j,by rw[ka J];omega,by rw[p3];exact G,λj u C=>?_⟩;rw[uc J]at C;rw[p4];simp only[Ol,Dx,M,Pf];split at C;rename_i l;rw[C! l,C! l];have hl:j-off<c.cells.size:=o!
  have O:c.cells[j-off]?=δ (c.cells[j-off]):=Nr hl;have e:c.cells.getD (j-off) undef=c.cells[j-off]:=by simp[hl]
  rw[e];exact⟨O,A _ _ O,W _ u _ C O⟩;rename_i l;rw[D! l,D! l];exact m j u C
 obtain⟨q1,q2⟩:=s.sim.upd (g':=g) (B:=B) (arr:=n) (T:=T) (fz:=R) (w':=w') he (An _) (λ_=>⟨i,by rw[p3];exact E.symm⟩) (.inl i) p2 (λx _ V=>p5 x V) p6 p7 p8 (by rw[p9];exact An _) hh;unfold Oper.wp;rw[t,Oper.upon_skip];exact⟨_,_,_,_,rfl,V,.any _,q1,q2⟩
end
section
variable {X:Nat->Prop}{h:Gh}{H:Au}{w w':World}
def G8.grow(b:w'.os=w.os)(f:w'.tape=w.tape)(d:w'.output=w.output)(e:w.heap.size<=w'.heap.size)(c:∀k,k<w.heap.size->w'.heap[k]?=w.heap[k]?):G8 h H w h H w':=⟨b,f,d,e,λB a _=>c B a,An _,λ_ _=>An _,λ_ _ _=>⟨rfl,rfl⟩,λ_ h=>.inl h,λB r a=>⟨r,(c B (PP a)).trans a⟩⟩
def I1.grow(s:I1 X h H w)(c:w'.os=w.os)(i:w'.tape=w.tape)(f:w'.output=w.output)(g:w.heap.size<=w'.heap.size)(e:∀k,k<w.heap.size->w'.heap[k]?=w.heap[k]?):I1 X h H w':=s.of_ext (G8.grow c i f g e) (λ_ _ d b=>.inl ⟨d,rfl,rfl,rfl,λB a=>e B (s.io_at d b a)⟩) s.inj
def G8.virt:G8 h H w (h.at_ (θ H) ε 0 0) (H++[.live 0 []]) w where
 os:=rfl
 tape:=rfl
 output:=rfl
 size:=An _
 keep B _ _:=rfl
 n:=k!
 gen id hid:=by simp[Gh.at_,Bl hid]
 same id hid _:=by simp[Gh.at_,Bl hid]
 fresh B ho:=by obtain⟨id,e,b,d,a⟩:=ho;rcases Iz b with⟨c,b⟩|⟨rfl,rfl⟩;exact .inl ⟨id,e,b,d,by simpa[Gh.at_,Bl c]using a⟩;simp[Gh.at_]at a
 loops B r hB:=⟨r,hB⟩
theorem I1.virt(s:I1 X h H w):I1 X (h.at_ (θ H) ε 0 0) (H++[.live 0 []]) w:=by refine s.of_ext G8.virt (λid e f m=>?_) λid n e o B j k a b c d=>?_;rcases Iz f with⟨l,f⟩|⟨rfl,rfl⟩;grind[Gh.at_];exact .inr (.inl ⟨0,[],rfl,by simp[cx,Gh.at_],.inl ⟨by simp[cx,Gh.at_],rfl⟩⟩);rcases Iz j with⟨l1,g⟩|⟨rfl,_⟩<;>rcases Iz k with⟨l2,i⟩|⟨rfl,_⟩;exact s.inj _ _ _ _ B g i a b (by simpa[Gh.at_,Bl l1]using c) (by simpa[Gh.at_,Bl l2]using d);simp[Gh.at_]at d;simp[Gh.at_]at c;rfl
def I1.bump(s:I1 X h H w){id g:Nat}{cs:List Ac}(n:H[id]?=δ (Fk.live g cs))(hn:h.io id=ε):
  I1 X (h.at_ id ε (g+1) (h.cap id)) (H.set id (.live (g+1) [])) w/\G8 h H w (h.at_ id ε (g+1) (h.cap id)) (H.set id (.live (g+1) [])) w:=by
 have a:id<θ H:=by rcases Ax id (θ H) with b|b;exact b;rw[Cn b]at n;cases n
 have c:h.gen id=g:=(s.live id g cs n).1;have own:∀B,owned (h.at_ id ε (g+1) (h.cap id)) (H.set id (.live (g+1) [])) B->owned h H B:=by rintro B ⟨i,e,j,l,b⟩;rcases JU a j with⟨f,d⟩|⟨rfl,_⟩;exact⟨i,e,d,l,by simpa[Gh.at_,f]using b⟩;simp[Gh.at_]at b
 have u:G8 h H w (h.at_ id ε (g+1) (h.cap id)) (H.set id (.live (g+1) [])) w:=by refine⟨rfl,rfl,rfl,An _,λk A hn=>rfl,k!,λi f=>?_,λi f e=>?_,λB C=>.inl (own B C),λB r y=>⟨r,y⟩⟩;by_cases e:i=id;subst e;simp[Gh.at_,c];simp[Gh.at_,e];by_cases m:i=id;subst m;simp[Gh.at_,c]at e;simp[Gh.at_,m]
 refine⟨s.of_ext u (λi e j l=>?_) (λi F e m k j b o p q t=>?_),u⟩;rcases JU a j with⟨f,d⟩|⟨rfl,rfl⟩;exact .inl ⟨d,by simp[Gh.at_,f],by simp[Gh.at_,f],by simp[Gh.at_,f],λB z=>rfl⟩;exact .inr (.inl ⟨g+1,[],rfl,by simp[cx,Gh.at_],.inl ⟨by simp[cx,Gh.at_],rfl⟩⟩);rcases JU a j with⟨D,v⟩|⟨rfl,_⟩<;>rcases JU a b with⟨E,x⟩|⟨rfl,_⟩;exact s.inj _ _ _ _ k v x o p (by simpa[Gh.at_,D]using q) (by simpa[Gh.at_,E]using t);simp[Gh.at_]at t;simp[Gh.at_]at q;rfl
end
def J6(H:Au)(sz:Nat):Ac->Option (Nat×List Ac)
 |.vs sz' rows=>if sz=sz' then δ (θ rows,rows.flatMap Ac.cells)else ε
 |.sl id g sz' off len=>
  match H[id]? with
  |some (.live g' cs)=>if g=g'/\sz=sz'/\off+len*sz<=θ cs then δ (len,(cs.drop off).take (len*sz))else ε
  |_=>ε
 |.nils=>δ (0,[])
 |_=>ε
theorem OX{P:Program}{X:Nat→Prop}{h:Gh}{H:Au}{w:World}{v:Ac}{c:Value}{sz m:Nat}{J:List Ac}(s:I1 X h H w)(r:Bx (cx X h H w) v c)(N:0<sz)(hr:J6 H sz v=δ (m,J)):
  ∃a cap S,c=.slice a m cap/\θ J=m*sz/\mW (cx X h H w) J S/\(∀u∈S,u.oneCell'=ζ)/\(Builtin.lenOf c).run P w=.ok m w/\(Builtin.firstCells sz m c).run P w=.ok S.toArray w:=by
 cases r with
 |nils=>simp only[J6,Ao,EX]at hr;obtain⟨rfl,rfl⟩:=hr;exact⟨ε,0,[],rfl,k!,⟨rfl,λ_ _ _ h=>by cases h⟩,(λ_ h=>by cases h),rfl,rfl⟩
 | @vs R b a cap f y Z D ha hv=>
  simp only[J6]at hr;split at hr;rename_i F;subst F;simp only[Ao,EX]at hr;obtain⟨rfl,rfl⟩:=hr;have q:=qP D;cases b with
  |nil=>refine⟨a,cap,[],rfl,k!,⟨rfl,λ_ _ _ h=>by cases h⟩,(λ_ h=>by cases h),rfl,?_⟩;cases a<;>simp[Builtin.firstCells,loadCells,loadCellsFrom]
  |cons e0 E=>
   obtain⟨B,k,rfl,hO,hB,L⟩:=ha k!;generalize e0::E=b at*;have K:∀j,j<θ b*sz->∃e v,b[j/sz]?=δ e/\e.cells[j%sz]?=δ v:=by intro j o;have F:j/sz<θ b:=(Nat.div_lt_iff_lt_mul N).2 o;have I:b[j/sz]?=δ (b[j/sz]):=Ar F;grind[Nat.mod_lt,List.getElem?_eq_getElem]
   refine⟨_,cap,(List.range (θ b*sz)).map λj=>f (j/sz) (j%sz),rfl,q,⟨by simp[q],λj v d o G=>?_⟩,λu O=>?_,rfl,?_⟩;grind[flat_get,Nat.lt_or_ge,List.getElem?_eq_none,List.getElem?_range,Option.some.injEq];grind;have:=run_loadCells (P:=P) w ⟨B,k,ε⟩ (θ b*sz) (λj=>f (j/sz) (j%sz)) λj o=>by obtain⟨e,v,I,Q⟩:=K j o;rw[Of];have V:=(L _ e _ v I Q).1;rw[Nat.div_add_mod' j sz]at V;exact V
   grind[Builtin.firstCells]
  cases hr
 | @sl id g R k len c ao hg F L=>
  simp only[J6]at hr;split at hr;rename_i g' l I;split at hr;rename_i x;obtain⟨rfl,rfl,ap⟩:=x;simp only[Ao,EX]at hr;obtain⟨rfl,rfl⟩:=hr;obtain⟨A,z⟩:=s.live id g l I;rcases L A with⟨n,rfl,rfl,rfl⟩|⟨B,cap,n,y,M,rfl⟩;exact⟨ε,0,[],rfl,k!,⟨k!,λ_ _ _ _ h=>by cases h⟩,(λ_ h=>by cases h),rfl,rfl⟩;rcases z with⟨hn,_⟩|⟨U,ad,T,fz,f,p,hb,W,Y,al,i⟩;rw[hn]at n;cases n;have:U=B:=by rw[n]at p;injection p with e;exact e.symm
  subst this;refine⟨_,cap,(List.range (len*sz)).map λj=>f (k+j),rfl,w!,⟨w!,λj v d o G=>?_⟩,λu O=>?_,rfl,?_⟩;have C:j<len*sz:=by grind[Nat.lt_or_ge,List.getElem?_eq_none]
  rw[bd,C! C,Km]at o;rw[CL,Q6 C]at G;simp only[Bt,Ao]at G;subst G;exact(i _ v o).2.2;simp only[Bs,Hw]at O;obtain⟨j,o,rfl⟩:=O;have t:l[k+j]?=δ (l[k+j]' o!):=Ar o!;exact(i _ _ t).2.1;have:=run_loadCells (P:=P) w ⟨U,k,ε⟩ (len*sz) (λj=>f (k+j)) λj o=>by have t:l[k+j]?=δ (l[k+j]' o!):=Ar o!;rw[Of,Pj (w:=w) hb];exact(i _ _ t).1
  simpa[Builtin.firstCells]using this;cases hr;cases hr
 |_=>simp only[J6]at hr;cases hr
theorem AAS(a b:Nat)(h:b<a):Builtin.nextslicecap a b<=2*a+2048:=by grind[Builtin.nextslicecap,Builtin.growBy]
def Rz(P:Program)(e:TypeId):Bool:=
 match P.info? e with
 |some i=>decide (i.bytes<=1048576)&&(match i.zero with|some z=>decide (z.cells.size=i.size)|none=>η)
 |none=>η
section
variable {P:Program}{N:Nat}{o:Oper}{env:Env}{H:Au}{K:Ac->Au->Prop}
theorem UH(h:Rz P a=ζ):∃i z,P.info? a=δ i/\i.bytes<=1048576/\i.zero=δ z/\z.cells.size=i.size:=by grind[Rz]
theorem lg(h:tI P a=δ (s,N))(t:P.info? a=δ q):q.size=N:=by unfold tI at h;grind
theorem JV.buildSlice{t e:TypeId}{len sz:Nat}{f:Array (Nat×Operand)}{W:List Ac}(ho:o.op=.buildSlice t len f)(he:eI P t=δ (ε,e,sz))(a0:0<sz)(a5:Rz P e=ζ)
  (C:f.toList.map (·.1)=List.range len) (a7:f.toList.map (λp=>BO env p.2)=W) (O:∀v∈W,v.solid=ζ/\θ v.cells=sz) (L:len<=4096/\sz<=4096) (hk:K (.vs sz W) H):JV P N o env H K:=by
 apply C3 (by rw[ho];rfl);intro X h a w s Q;obtain⟨a1,b,hi⟩:=Qd he;obtain⟨i,z,D,_,hz,a8⟩:=UH a5;have A:=lg hi D;have V:θ W=len:=by have n:=E! θ C;grind[θ]
 let g:List Value:=f.toList.map λp=>a.eval p.2;have U:θ g=len:=by grind[θ]
 have M:∀(j:Nat)(v:Ac)(c:Value),W[j]?=δ v->g[j]?=δ c->Bx (cx X h H w) (.agg v.cells) (.agg c.cells)/\θ v.cells=sz:=by
  intro j v c G Y;have hm:=O v (BN G);refine⟨?_,hm.2⟩;subst a7;simp only[g,CL]at G Y;cases Z:f.toList[j]? with
  |none=>rw[Z]at G;cases G
  |some p=>rw[Z]at G Y;simp only[Bt,Ao]at G Y;subst G Y;exact Wb (Dk s.env p.2) hm.1
 have y:∀c∈g,c.cells.size=sz:=by
  intro c Y;obtain⟨j,B⟩:=DU Y;have E:j<θ W:=by grind[Nat.lt_or_ge,List.getElem?_eq_none]
  obtain⟨n,r⟩:=M j _ c (Ar E) B;cases n<;>grind
 have R:(f.map λ(q:Nat×Operand)=>(q.1,a.eval q.2)).toList=(g.zipIdx 0).map λx=>(x.2,x.1):=by
  apply I6;intro j;simp only[Array.toList_map,CL,List.getElem?_zipIdx,DT,g];cases Z:f.toList[j]? with
  |none=>rfl
  |some p=>
   have n:(f.toList.map (·.1))[j]?=δ p.1:=by rw[CL,Z];rfl
   rw[C]at n;have E:j<len:=by rcases Ax j len with r|r;exact r;rw[Cn (by simpa using r)]at n;cases n
   rw[Q6 E]at n;simp only[Ao]at n;simp[n]
 have a4:(g.flatMap λc=>c.cells.toList).length=len*sz:=by
  clear R;have:∀l:List Value,(∀c∈l,c.cells.size=sz)->(l.flatMap λc=>c.cells.toList).length=θ l*sz:=by
   intro l;induction l with
   |nil=>simp
   |cons c l ih=>intro V;simp only[I7,AY,Dx,V c k!,ih (λd I=>V d (Ce _ I)),Ba,EI];omega
  rw[this g y,U]
 have al:∀(j:Nat)(c:Value)(q:Nat)(d:Value),g[j]?=δ c->c.cells[q]?=δ d->(g.flatMap λc=>c.cells.toList)[j*sz+q]?=δ d:=by
  have:∀(l:List Value),(∀c∈l,c.cells.size=sz)->∀(j:Nat)(c:Value)(q:Nat)(d:Value),l[j]?=δ c->c.cells[q]?=δ d->(l.flatMap λc=>c.cells.toList)[j*sz+q]?=δ d:=by
   intro l;induction l with
   |nil=>intro _ j c q d B;simp at B
   |cons c0 l ih=>
    intro V j c q d B I;simp only[I7];have h0:=V c0 k!;cases j with
    |zero=>simp at B;subst B;rw[X5,DT,CT (by rcases Ax q c0.cells.size with r|r;simpa using r;rw[sh r]at I;cases I)];simpa using I
    |succ j=>rw[Ci (by rw[Dx,h0,EI];omega),Dx,h0];rw[show(j+1)*sz+q-sz=j*sz+q from by rw[EI];omega];exact ih (λd I=>V d (Ce _ I)) j c q d (by simpa using B) I
  exact this g y
 have F:∃m:Array Value,(execOp a.eval o).run P w=.ok (.value (.slice (δ ⟨w.heap.size,0,ε⟩) len len)) {w with heap:=w.heap.push (.cells m e)}/\m.toList=g.flatMap λc=>c.cells.toList:=by
  unfold execOp;rw[ho];by_cases h0:len=0;subst h0;have:g=[]:=EZ U;refine⟨#[],?_,by rw[this];rfl⟩;have Z:f= #[]:=by have n:=E! θ C;simp at n;exact n
  simp[Instr.buildSlice,run_underlying a1,LG hi,Z,Instr.fill,newRow,show Array.range 0= #[]from rfl];refine⟨(g.flatMap λc=>c.cells.toList).toArray,?_,rfl⟩;have ap:¬len*i.size=0:=by rw[A];exact Nat.mul_ne_zero h0 o!
  have a6:¬len*i.size>2^24:=by rw[A];have:=mf L.1 L.2;omega
  have hf:=Go.Great.fill_whole (s:=sz) a0 g ((Array.range (len*i.size)).map (z.cells[· %z.cells.size]!)) y (by simp[U,A]);have:=run_buildSlice (P:=P) w t e len (f.map λ(q:Nat×Operand)=>(q.1,a.eval q.2)) _ i z a1 D hz a6 ap (by rw[R,A]at*;exact hf);simp only[Sem.run_bind];rw[show(f.map λx=>match x with|(i,x)=>(i,a.eval x))=(f.map λ(q:Nat×Operand)=>(q.1,a.eval q.2))from rfl,this];rfl
 obtain⟨m,F,ad⟩:=F;unfold Oper.wp;rw[F,Oper.upon_value];have ax:=s.sim.grow (w':={w with heap:=w.heap.push (.cells m e)}) rfl rfl rfl k! (λk hk=>by simp[TT,Bl hk]);have J:=G8.grow (h:=h) (H:=H) (w:=w) (w':={w with heap:=w.heap.push (.cells m e)}) rfl rfl rfl k! (λk hk=>by simp[TT,Bl hk]);refine⟨_,_,h,H,rfl,hk,?_,ax,J⟩;subst V;refine .vs (λj q=>((g.getD j undef).cells.getD q undef)) (An _) a0 (λj v B=>(O v (BN B)).2) (λao=>⟨w.heap.size,0,rfl,?_,by simp[cx],λj v q u B hq=>?_⟩) λj v q u B hq=>?_;rintro(hX|ho);have:=(s.sim.out _ hX).1;omega;obtain⟨id,e1,n,ao,r⟩:=ho;have:=s.sim.io_at n ao r;omega;all_goals
  have E:j<θ g:=by rcases Ax j (θ W) with r|r;omega;rw[Cn r]at B;cases B
  have S:g[j]?=δ (g[j]):=Ar E;have a3:g.getD j undef=g[j]:=by simp[Ns,S]
  obtain⟨r1,r2⟩:=M j v _ B S;rw[a3];cases r1 with
  |agg hs n G=>
   have ar:q<(g[j]).cells.size:=by rcases Ax q (θ v.cells) with r|r;omega;rw[Cn r]at hq;cases hq
   have T:(g[j]).cells[q]?=δ ((g[j]).cells[q]):=Nr ar;have a2:(g[j]).cells.getD q undef=(g[j]).cells[q]:=by simp[ar]
   rw[a2];first
    |exact(G q u _ hq T).later (J.later X)
    |(refine⟨?_,n q _ T⟩
      have hb:(w.heap.push (.cells m e))[w.heap.size]?=δ (.cells m e (0,0)):=k!
      rw[DT];show World.cell? {w with heap:=w.heap.push (.cells m e)} _=_;rw[Pj (w:={w with heap:=w.heap.push (.cells m e)}) hb,<-Pf,ad];exact al j _ q _ S T)
end
section
variable {P:Program}
def Yx(z:Array Value)(n:Nat):(Builtin.zeroCells z n).size=n*z.size:=by simp[Builtin.zeroCells]
def ml{t ty e:TypeId}(g:P.underlying t=δ (.slice e))(j:P.info? e=δ q){base:Option Addr}{n cap m:Nat}{w w':World}
  (d:(Builtin.lenOf b).run P w=.ok m w) (f:(Builtin.firstCells q.size m b).run P w=.ok x.toArray w) (c:n+m<=cap)
  (i:(match base with
   |some a=>storeCells (a.add (n*q.size)) x
   |none=>pure ():Sem Unit).run P w=.ok () w'):
  (Builtin.append_ #[t,t] ty #[.slice base n cap,b]).run P w=.ok (.slice base (n+m) cap) w':=by
 cases base<;>simp only at i<;>simp[Builtin.append_,run_underlying g,sizeOf,typeInfo,j,d,f,c,i];simp at i;exact i
def qW{t ty e:TypeId}(g:P.underlying t=δ (.slice e))(p:P.info? e=δ q)(r:q.zero=δ b)(l:q.bytes≤1048576){base:Option Addr}{n cap m:Nat}{os j:List Value}
  (f:(Builtin.lenOf B).run P w=.ok m w) (z:(Builtin.firstCells q.size n (.slice base n cap)).run P w.drew=.ok os.toArray w.drew) (hn:(Builtin.firstCells q.size m B).run P w.drew=.ok j.toArray w.drew)
  (i:cap<n+m) (h:n+m<=16777216):
  ∃a,n+m<=a/\(Builtin.append_ #[t,t] ty #[.slice base n cap,B]).run P w=.ok (.slice (δ ⟨w.heap.size,0,ε⟩) (n+m) a) {w.drew with heap:=w.drew.heap.push (.cells (os.toArray++j.toArray++Builtin.zeroCells b.cells (a-(n+m))) e)}:=by
 have d:¬(Builtin.nextslicecap (n+m) cap*q.bytes>2^48):=by have s:=AAS (n+m) cap i;have u:Builtin.nextslicecap (n+m) cap*q.bytes<=33556480*1048576:=mf o! l;omega
 refine⟨(Question.appendCap (n+m) cap e).cut (w.tape w.drawn (.appendCap (n+m) cap e)),by simp[Question.cut],?_⟩;have k:IntKind.i64.max=9223372036854775807:=g!
 have c:¬((9223372036854775807:Int)<(n:Int)+(m:Int)/\q.bytes=0):=o!
 have o:(Question.appendCap (n+m) cap e).forced=η:=rfl;simp[Builtin.append_,sizeOf,typeInfo,zeroValue,run_underlying g,p,r,f,d,newRow,k];rw[D! o!,D! c,D! (by rw[o];simp),z];simp only[Result.andThen_ok];rw[hn];simp only[Result.andThen_ok,Result.ok.injEq];refine⟨rfl,?_⟩;rw[<-List.append_toArray,Array.append_assoc];rfl
end
section
variable {P:Program}{N:Nat}{o:Oper}{env:Env}{H:Au}{K:Ac->Au->Prop}
def Q2{d:Operand→Value}(e:o.op=.call {callee:=.builtin .append,args:= #[k,L],argTypes:= #[a,a]})
  (h:(Builtin.append_ #[a,a] o.type #[d k,d L]).run P w=.ok b A):(execOp d o).run P w=.ok (.value b) A:=by
 unfold execOp;rw[e];simp only[resolve,invoke,builtin,Sem.run_bind,Sem.run_pure,Result.andThen_ok,QT,Bf,HQ];rw[h];rfl
def I1.drew{X:Nat->Prop}{h:Gh}{H:Au}{w:World}(s:I1 X h H w):I1 X h H w.drew:=s.grow rfl rfl rfl (An _) λ_ _=>rfl
def G8.drew{h:Gh}{H:Au}{w:World}:G8 h H w h H w.drew:=G8.grow rfl rfl rfl (An _) λ_ _=>rfl
def vn{as bs:List Ac}{os a:List Value}{n:Array Value}(ra:mW f as os)(g:mW f bs a)(k:∀u∈os,u.oneCell'=ζ)(l:∀u∈a,u.oneCell'=ζ):
  Holds f (as++bs) (os.toArray++a.toArray++n) (0,0):=by
 refine⟨λj=>(os++a).getD j undef,?_,λi _=>k!,λj v d=>?_⟩;simp[ra.1,g.1];have x:j<(os++a).length:=by rcases Ax j (as++bs).length with b|b;simp[ra.1,g.1]at*;omega;rw[Cn b]at d;cases d
 have c:(os++a)[j]?=δ ((os++a)[j]):=Ar x;have e:(os++a).getD j undef=(os++a)[j]:=by rw[Ns,c];rfl
 show _=δ ((os++a).getD j undef)/\((os++a).getD j undef).oneCell'=ζ/\Bx f v ((os++a).getD j undef);rw[e];refine⟨?_,?_,?_⟩;rw[X6 (by simpa using x),List.append_toArray,lC];exact c;have m:(os++a)[j]∈os++a:=Jl x;rcases Ak.1 m with h|h;exact k _ h;exact l _ h;rcases Ax j (θ as) with b|b;rw[CT b]at d;rw[CT (by rw[ra.1];exact b)]at c;exact ra.2 j v _ d c;rw[Ci b]at d;rw[Ci (by rw[ra.1];exact b),ra.1]at c;exact g.2 _ v _ d c
theorem JV.append_nil{D T:Operand}{t e:TypeId}{sz m:Nat}{d:List Ac}(I:o.op=.call {callee:=.builtin .append,args:= #[D,T],argTypes:= #[t,t]})(he:eI P t=δ (ε,e,sz))(v:0<sz)(J:Rz P e=ζ)
  (hs:BO env D=.nils) (M:J6 H sz (BO env T)=δ (m,d)) (V:m<=16777216) (U:K (.sl (θ H) 0 sz 0 m) (H++[.live 0 d])):JV P N o env H K:=by
 apply C3 (by rw[I];rfl);intro X h a w s Q;obtain⟨B,b,hi⟩:=Qd he;obtain⟨i,z,f,G,hz,O⟩:=UH J;have j:=lg hi f;have R:=Dk s.env D;rw[hs]at R;have y:a.eval D=.slice ε 0 0:=by generalize a.eval D=c at R;cases R;rfl
 have S:=Dk s.env T;unfold Oper.wp;rcases Vo m with W|W;subst W;obtain⟨Z,x,E,F,A,g,p,l,q⟩:=OX (P:=P) s.sim S v M;have u:d=[]:=EZ o!;subst u;have L:E=[]:=EZ g.1;subst L;have k:=ml (ty:=o.type) (base:=ε) (n:=0) (cap:=0) (w':=w) B f l (by rw[j];exact q) o! rfl;rw[Q2 I (by rw[y];exact k),Oper.upon_value];exact⟨_,_,_,_,rfl,U,.sl (by simp[cx]) q! ⟨_,_,rfl⟩ λ_=>.inl ⟨by simp[cx,Gh.at_],rfl,rfl,rfl⟩,s.sim.virt,G8.virt⟩;have Y:=s.sim.drew;obtain⟨Z,x,E,F,A,g,p,l,q⟩:=OX (P:=P) Y (S.later (G8.drew.later X)) v M;obtain⟨_,_,_,_,_,_,_,r,_⟩:=OX (P:=P) s.sim S v M;obtain⟨C,hC,k⟩:=qW (ty:=o.type) (base:=ε) (n:=0) (cap:=0) (os:=[]) B f hz G r (by rfl) (by rw[j];exact q) o! o!;rw[Q2 I (by rw[y];exact k),Oper.upon_value];have hh:Holds (cx X h H w.drew) d (#[]++E.toArray++Builtin.zeroCells z.cells (C-(0+m))) (0,0):=vn (as:=[]) (os:=[]) ⟨rfl,λ_ _ _ h=>by cases h⟩ g (λ_ h=>by cases h) p;refine⟨_,_,_,_,rfl,U,?_,Y.push _ e (0,0) d hh,G8.drew.trans (G8.push _ _ _)⟩;rw[DT];refine .sl (by simp[cx]) q! ⟨_,_,rfl⟩ λ_=>.inr ⟨w.heap.size,C,by simp[cx,Gh.at_],o!,?_,rfl⟩;have e1:θ E=m*sz:=by rw[g.1,A]
 simp only[cx,Gh.at_,if_true,Array.size_append,eJ,Yx,O,j,e1];have:(C-(0+m))*sz+m*sz=C*sz:=by rw[<-EI];congr 1;omega
 grind
end
end Go.Ab
