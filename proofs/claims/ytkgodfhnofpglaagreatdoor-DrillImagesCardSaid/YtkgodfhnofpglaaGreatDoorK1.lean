/- Texts of wip, joined and shortened by wip/tools/pack.py; nothing is assumed. -/
import Derived.Calls
import Derived.Below
import Derived.RangeFuncRecord
import Derived.OrdersIn
import Derived.Lib.FrozenHead
import Derived.Orders
import Derived.Laws.Cells
import Derived.Laws.Entries
import Derived.Laws.StructEq
import Derived.ChangeKeysEq
import Derived.Laws.BytesString
import Derived.Laws.Tables
import Derived.Great.FillDense
import Derived.Great.BuildSlice
namespace Go
theorem n!{A B:Prop}(h:¬A:=by decide):A->B:=λa=>absurd a h
theorem o!{P:Prop}(h:P:=by omega):P:=h
theorem d!{P:Prop}(h:P:=by dsimp only;omega):P:=h
theorem g!{P:Prop}(h:P:=by decide):P:=h
theorem k!{P:Prop}(h:P:=by simp):P:=h
theorem q!{P:Prop}(h:P:=by grind):P:=h
theorem w!{P:Prop}(h:P:=by simp;omega):P:=h
theorem v!{P:Prop}(h:P:=by assumption):P:=h
theorem u!{P:Prop}(h:P:=by dsimp only;decide):P:=h
theorem t!{P:Prop}(h:P:=by simp_all):P:=h
end Go
noncomputable section
set_option linter.all false
open Option renaming some->D
open Option renaming none->A
open Option renaming some->δ,none->ε
open Bool renaming true->ζ,false->η
open List renaming length->θ,replicate->ς
open BitVec renaming ofInt->κ
open Decidable renaming decide->τ
namespace Go
abbrev Ω.{u}(a:Type u):=Option a
abbrev Ψ.{u}(a:Type u):=List a
def A!:=@cond_false
def B!:=@cond_true
def C!:=@if_pos
theorem n?{α:Type _}{as bs:List α}:(as++bs).length=as.length+bs.length:=List.length_append
theorem m?{α:Type _}{l:List α}{i:Nat}(h:i<l.length):l[i]? =some l[i]:=List.getElem?_eq_getElem h
theorem p?{α β:Type _}{a:α}{f:α->Option β}:(some a).bind f=f a:=rfl
theorem t?{α:Type _}(as bs cs:List α):as++bs++cs=as++(bs++cs):=List.append_assoc as bs cs
theorem u?{α:Type _}{l:List α}{i:Nat}(h:l.length<=i):l[i]? =none:=List.getElem?_eq_none h
theorem r?{α:Type _}{i:Nat}{l:List α}:(l.take i).length=min i l.length:=List.length_take
theorem s?(n:Nat):(n:Int).toNat=n:=Int.toNat_natCast n
theorem a!{α:Type _}{a b:α}:a∈[b]<->a=b:=List.mem_singleton
def D!:=@if_neg
def E!:=@congrArg
def F!:=@decide_eq_false
def G!:=@decide_eq_true
def H!:=@bne_self_eq_false
def I!:=@beq_eq_false_iff_ne
def J!:=@beq_iff_eq
def K!:=@decide_eq_true_eq
def L!:=@beq_self_eq_true
def M!:=@of_decide_eq_true
theorem N!{a b:Prop}(h:a)(k: ¬a):b:=absurd h k
theorem O!:True:=trivial
def mh:=@Array.eq_empty_of_size_eq_zero
def mi:=@Array.extract_size
def QS:=@Array.getD_eq_getD_getElem?
def Xl:=@Array.getElem?_append_left
def rU:=@Array.getElem?_append_right
def Nr:=@Array.getElem?_eq_getElem
def rV:=@Array.getElem?_eq_none
def xM:=@Array.getElem?_eq_none_iff
def au:=@Array.getElem?_eq_some_iff
def aw:=@Array.getElem?_map
def aj:=@Array.getElem?_modify
def TC:=@Array.getElem?_push
def uU:=@Array.getElem?_setIfInBounds_ne
def PX:=@Array.getElem?_toList
def Dk:=@Array.length_toList
def uV:=@Array.mem_of_getElem?
def oJ:=@Array.size_setIfInBounds
def uW:=@BitVec.eq_of_getLsbD_eq
def oK:=@BitVec.ofInt_natCast
def oL:=@BitVec.toNat_ofNat
def uX:=@Bool.and_eq_false_iff
def BN:=@Bool.and_eq_true
def XP:=@Bool.and_self
def Qu:=@Bool.and_true
def oM:=@Bool.eq_false_iff
def PY:=@Bool.false_eq_true
def VT:=@Bool.not_eq_true'
def Ca:=@Bool.not_true
def VU:=@Bool.or_eq_true
def TD:=@Decidable.byContradiction
def FC:=@Int.eq_ofNat_of_zero_le
def kC:=@Int.fdiv_eq_ediv_of_nonneg
def AX:=@Int.le_refl
def kD:=@Int.le_trans
def kE:=@Int.lt_or_le
def oN:=@Int.mul_ediv_add_emod
def Cz:=@Int.toNat_natCast
def Ir:=@Int.toNat_of_nonneg
def oO:=@List.Pairwise.imp_of_mem
def oP:=@List.Perm.eq_of_pairwise
def oQ:=@List.Perm.refl
def kF:=@List.all_cons
def Fo:=@List.all_eq_true
def oR:=@List.all_nil
def ak:=@List.any_eq_true
def A5:=@List.append_assoc
def ML:=@List.append_inj
def Dl:=@List.append_nil
def am:=@List.cons_append
def XQ:=@List.drop_append
def oS:=@List.drop_append_of_le_length
def MM:=@List.drop_drop
def Qv:=@List.drop_eq_getElem_cons
def kG:=@List.drop_eq_nil_of_le
def Qw:=@List.drop_left
def oT:=@List.drop_left'
def Qx:=@List.drop_of_length_le
def oU:=@List.drop_sublist
def VV:=@List.drop_zero
def EJ:=@List.eq_nil_of_length_eq_zero
def Is:=@List.ext_getElem?
def uY:=@List.extract_eq_take_drop
def uZ:=@List.filterMap_append
def oV:=@List.filterMap_cons
def Gr:=@List.filter_append
def PZ:=@List.filter_cons
def ua:=@List.filter_cons_of_neg
def ub:=@List.filter_cons_of_pos
def kH:=@List.filter_nil
def an:=@List.flatMap_append
def It:=@List.flatMap_cons
def oW:=@List.flatMap_nil
def oX:=@List.flatten_cons
def kI:=@List.foldl_append
def kJ:=@List.foldl_cons
def Qy:=@List.getD_eq_getElem?_getD
def CO:=@List.getElem?_append_left
def Ce:=@List.getElem?_append_right
def oY:=@List.getElem?_cons_succ
def aq:=@List.getElem?_cons_zero
def Iu:=@List.getElem?_drop
def As:=@List.getElem?_eq_getElem
def Cf:=@List.getElem?_eq_none
def Fp:=@List.getElem?_eq_some_iff
def B6:=@List.getElem?_map
def Ci:=@List.getElem?_of_mem
def Qz:=@List.getElem?_range
def XS:=@List.getElem?_set
def DD:=@List.getElem?_set_ne
def GJ:=@List.getElem?_set_self
def XT:=@List.getElem?_take
def JY:=@List.getElem?_take_of_lt
def XU:=@List.getElem?_toArray
def Pa:=@List.getElem_mem
def Af:=@List.length_append
def Cg:=@List.length_cons
def EY:=@List.length_drop
def av:=@List.length_eq_zero_iff
def FT:=@List.length_filter_le
def B7:=@List.length_map
def CU:=@List.length_nil
def Fz:=@List.length_replicate
def dh:=@List.length_set
def BJ:=@List.length_take
def di:=@List.length_take_le
def Mr:=@List.map_append
def Ms:=@List.map_congr_left
def Bn:=@List.map_cons
def lj:=@List.map_drop
def dj:=@List.map_id
def QM:=@List.map_map
def Hg:=@List.map_nil
def QN:=@List.map_toArray
def Ao:=@List.mem_append
def Ff:=@List.mem_append_left
def Mt:=@List.mem_append_right
def A1:=@List.mem_cons
def CN:=@List.mem_cons_of_mem
def Ip:=@List.mem_cons_self
def BU:=@List.mem_filter
def Sq:=@List.mem_filterMap
def Gf:=@List.mem_flatMap
def VM:=@List.mem_iff_getElem
def HC:=@List.mem_iff_getElem?
def Bk:=@List.mem_map
def Sr:=@List.mem_map_of_mem
def BM:=@List.mem_of_getElem?
def Xe:=@List.mem_of_mem_drop
def Iq:=@List.mem_of_mem_take
def VN:=@List.mem_or_eq_of_mem_set
def Hh:=@List.mem_range
def A7:=@List.mem_singleton
def rS:=@List.mem_zipIdx_iff_getElem?
def CY:=@List.nil_append
def QO:=@List.nodup_append
def Gg:=@List.nodup_cons
def Jy:=@List.nodup_iff_pairwise_ne
def QP:=@List.nodup_nil
def lm:=@List.not_mem_nil
def EU:=@List.pairwise_iff_getElem
def QQ:=@List.pairwise_map
def ln:=@List.perm_ext_iff_of_nodup
def lq:=@List.replicate_succ
def Ss:=@List.set_append_right
def Xf:=@List.set_set
def rT:=@List.singleton_append
def dm:=@List.size_toArray
def VO:=@List.sum_cons
def CI:=@List.take_add_one
def dn:=@List.take_append
def De:=@List.take_append_drop
def dp:=@List.take_append_of_le_length
def Xg:=@List.take_left
def Fg:=@List.take_left'
def Hi:=@List.take_length
def BK:=@List.take_of_length_le
def Ks:=@List.take_take
def dr:=@Nat.add_assoc
def Xh:=@Nat.add_comm
def D5:=@Nat.add_mul
def Su:=@Nat.add_sub_cancel_left
def Jz:=@Nat.add_zero
def HD:=@Nat.beq_refl
def Cy:=@Nat.eq_of_beq_eq_true
def VP:=@Nat.eq_zero_or_pos
def Oa:=@Nat.le_of_ble_eq_true
def Ai:=@Nat.le_refl
def C9:=@Nat.le_trans
def C2:=@Nat.lt_of_lt_of_le
def Ar:=@Nat.lt_or_ge
def Ob:=@Nat.lt_trichotomy
def QR:=@Nat.min_eq_left
def VQ:=@Nat.mod_eq_of_lt
def Xi:=@Nat.mod_lt
def lu:=@Nat.mul_le_mul
def Mu:=@Nat.mul_le_mul_right
def BX:=@Nat.ne_of_lt
def dt:=@Nat.pow_le_pow_right
def Gi:=@Nat.sub_self
def Xj:=@Nat.sub_zero
def DA:=@Nat.zero_add
def Bo:=@Nat.zero_le
def Xk:=@Nat.zero_mul
def Oc:=@Ne.symm
def DB:=@Option.bind_eq_some_iff
def AD:=@Option.bind_some
def lw:=@Option.getD_some
def du:=@Option.isSome_iff_exists
def VS:=@Option.map_eq_some_iff
def ly:=@Option.map_none
def Bd:=@Option.map_some
def BH:=@Option.some.inj
def Al:=@Option.some.injEq
def lz:=@Option.toList_some
def DX:=@Prod.ext
def EI:=@Prod.mk.injEq
def mA:=@Sum.elim_inr
end Go
namespace Go.Ab
inductive AV where
 |bool (b:Bool)
 |int (k:IntKind) (n:Int)
 |str (s:List UInt8)
 |nilp
 |ptr (id g off:Nat)
 |vptr (cs:List AV)
 |nils
 |vs (sz:Nat) (rows:List AV)
 |sl (id g sz off len:Nat)
 |fn (f:Fn) (first caps:List AV)
 |yf (id:Nat)
 |mp (id:Nat)
 |itp (id m:Nat)
 |nilf
 |agg (cs:List AV)
 |tup (vs:List AV)
 |any
 deriving Inhabited
def AV.cells:AV->List AV
 |.agg cs=>cs
 |v=>[v]
structure Cx where
 w:World
 n:Nat
 io:Nat->Option Nat
 gen:Nat->Nat
 cap:Nat->Nat
 O:Nat->Prop
inductive Bi(x:Cx):AV->Value->Prop where
 |bool (b:Bool):Bi x (.bool b) (.bool b)
 |int (k:IntKind) (n:Int):Bi x (.int k n) (.int k n)
 |str {s:List UInt8} (t:ByteArray) (h:t.data.toList=s):Bi x (.str s) (.string t)
 |nilp:Bi x .nilp (.pointer none)
 |ptr {id g off:Nat}{c:Value} (hid:id<x.n) (hg:g≤x.gen id) (h1:c.oneCell'=true)
   (hc:x.gen id=g->∃B,x.io id=some B/\c=.pointer (some ⟨B,off,none⟩)):Bi x (.ptr id g off) c
 |vptr {cs:List AV}{B off:Nat} (f:Nat→Value) (hO:¬x.O B) (hB:B<x.w.heap.size)
   (hc:∀(j:Nat)(v:AV),cs[j]?=some v->x.w.cell? ⟨B,off+j,none⟩=some (f j)/\(f j).oneCell'=true)
   (hv:∀(j:Nat)(v:AV),cs[j]?=some v->Bi x v (f j)):Bi x (.vptr cs) (.pointer (some ⟨B,off,none⟩))
 |nils:Bi x .nils (.slice none 0 0)
 |vs {sz:Nat}{rows:List AV}{a:Option Addr}{cap:Nat} (f:Nat→Nat→Value) (hcap:rows.length≤cap) (hsz:0<sz)
   (hrow:∀(j:Nat)(e:AV),rows[j]?=some e->e.cells.length=sz)
   (ha:rows≠ []->∃B off,a=some ⟨B,off,none⟩/\¬x.O B/\B<x.w.heap.size/\
    ∀(j:Nat)(e:AV)(i:Nat)(v:AV),rows[j]?=some e->e.cells[i]?=some v->x.w.cell? ⟨B,off+(j*sz+i),none⟩=some (f j i)/\(f j i).oneCell'=true)
   (hv:∀(j:Nat)(e:AV)(i:Nat)(v:AV),rows[j]?=some e->e.cells[i]?=some v->Bi x v (f j i)):Bi x (.vs sz rows) (.slice a rows.length cap)
 |sl {id g sz off len:Nat}{c:Value} (hid:id<x.n) (hg:g≤x.gen id) (h1:∃a cap,c=.slice a len cap)
   (hc:x.gen id=g->(x.io id=none/\len=0/\off=0/\c=.slice none 0 0)\/
    ∃B cap,x.io id=some B/\len<=cap/\off+cap*sz<=x.cap id/\c=.slice (some ⟨B,off,none⟩) len cap):Bi x (.sl id g sz off len) c
 |fn {f:Fn}{first caps:List AV}{first' caps':Array Value} (h1:first'.size=first.length) (h2:caps'.size=caps.length)
   (hv1:∀(j:Nat)(v:AV)(c:Value),first[j]?=some v->first'[j]?=some c->Bi x v c) (hv2:∀(j:Nat)(v:AV)(c:Value),caps[j]?=some v->caps'[j]?=some c->Bi x v c):
   Bi x (.fn f first caps) (.func f first' caps')
 |yf {id:Nat}{c:Value} (hid:id<x.n) (h1:c.oneCell'=true) (hc:x.gen id=0->∃B,x.io id=some B/\c=.func (.yield B) #[] #[]):Bi x (.yf id) c
 |mp {id:Nat}{c:Value} (hid:id<x.n) (h1:c.oneCell'=true) (hc:x.gen id=0->∃B,x.io id=some B/\c=.map (some B)):Bi x (.mp id) c
 |itp {id m:Nat}{c:Value} (hid:id<x.n) (hm:m<x.n) (h1:c.oneCell'=true) (hc:x.gen id=0->∃B,x.io id=some B/\c=.pointer (some ⟨B,0,none⟩)/\(x.gen m=0->x.io m=some (x.cap id))):Bi x (.itp id m) c
 |nilf:Bi x .nilf .nilFunc
 |agg {cs:List AV}{cs':Array Value} (h:cs'.size=cs.length) (h1:∀(j:Nat)(c:Value),cs'[j]?=some c→c.oneCell'=true)
   (hv:∀(j:Nat)(v:AV)(c:Value),cs[j]?=some v->cs'[j]?=some c->Bi x v c):Bi x (.agg cs) (.agg cs')
 |tup {vs:List AV}{vs':Array Value} (h:vs'.size=vs.length)
   (hv:∀(j:Nat)(v:AV)(c:Value),vs[j]?=some v->vs'[j]?=some c->Bi x v c):Bi x (.tup vs) (.tuple vs')
 |any (c:Value):Bi x .any c
structure Cx.Later(x y:Cx):Prop where
 size:x.w.heap.size<=y.w.heap.size
 keep:∀B,B<x.w.heap.size->¬x.O B->∀off,y.w.cell? ⟨B,off,none⟩=x.w.cell? ⟨B,off,none⟩
 own:∀B,B<x.w.heap.size->y.O B->x.O B
 n:x.n<=y.n
 gen:∀id,id<x.n->x.gen id<=y.gen id
 same:∀id,id<x.n->y.gen id=x.gen id->y.io id=x.io id/\y.cap id=x.cap id
variable {N t:Nat}{w G:World}{b W:TypeId}{c I:Value}{P:Program}{d x T:AV}{e:Nat→Prop}{o:Oper}{f v:List AV}{i:Cx}{a:Act}{l:List Nat}{j:Option Nat}{L:Array Bool}{k:Array Value}{m Y:Operand}{n:Option (List Deferred)}{q:Array Oper}{r:Code}{s:Bool}{X:Nat->Prop}{y:TypeInfo}{C:List Value}{E:Nat×Nat}{F:Nat->Nat}{M:IntKind}{O:FuncId}{R:BinOp}{U:Prop}{V:Func}{Z:Obj}
theorem lP(h:G.heap[N]?=w.heap[N]?)(a:Nat):G.cell? ⟨N,a,ε⟩=w.cell? ⟨N,a,ε⟩:=by grind[World.cell?]
theorem Bi.later{x y:Cx}(h:x.Later y)(r:Bi x d c):Bi y d c:=by
 induction r with
 |bool b=>exact .bool b
 |int k n=>exact .int k n
 |str t J=>exact .str t J
 |nilp=>exact .nilp
 |ptr a w v m=>refine .ptr (C2 a h.n) (C9 w (h.gen _ a)) v λe=>?_;have v:=h.gen _ a;have l:=h.same _ a o!;grind
 |vptr f q g m K p=>refine .vptr f (λo=>q (h.own _ g o)) (C2 g h.size) (λj d H=>?_) p;rw[h.keep _ g q];grind
 |nils=>exact .nils
 |vs f s C u G K p=>refine .vs f s C u (λA_=>?_) p;obtain⟨B,F,e,q,g,m⟩:=G A_;refine⟨B,F,e,(λo=>q (h.own _ g o)),C2 g h.size,λj e i d H N=>?_⟩;rw[h.keep _ g q];grind
 |sl a w v m=>refine .sl (C2 a h.n) (C9 w (h.gen _ a)) v λe=>?_;have v:=h.gen _ a;have l:=h.same _ a o!;grind
 |fn v l _ _ D_ E=>exact .fn v l D_ E
 |yf a v m=>refine .yf (C2 a h.n) v λe=>?_;have v:=h.gen _ a;have l:=h.same _ a o!;grind
 |mp a v m=>refine .mp (C2 a h.n) v λe=>?_;have v:=h.gen _ a;have l:=h.same _ a o!;grind
 |itp a z v m=>refine .itp (C2 a h.n) (C2 z h.n) v λe=>?_;have v:=h.gen _ a;have l:=h.same _ a o!;obtain⟨B,g,I,O⟩:=m o!;refine⟨B,l.1.trans g,I,λe=>?_⟩;have L:=h.gen _ z;have M:=h.same _ z o!;grind
 |nilf=>exact .nilf
 |agg h v _ p=>exact .agg h v p
 |tup h _ p=>exact .tup h p
 |any c=>exact .any c
abbrev Env:=List (Nat×AV)
structure lK where
 n:Nat
 env:Env
 params:Array Tmp
 assign:Code
 body:Code
 state:LoopState
 pending:Option Code
inductive E5 where
 |dead
 |live (g:Nat) (cells:List AV)
 |lp (L:lK)
 |mp (k:IntKind) (es:List (Int×AV))
 |it (n:Nat) (seen:List Nat)
 deriving Inhabited
def E5.isB:E5->Bool
 |.mp _ _=>ζ
 |.it _ _=>ζ
 |_=>η
abbrev Ap:=List E5
structure Gh where
 io:Nat->Option Nat
 gen:Nat->Nat
 cap:Nat->Nat
def owned(h:Gh)(H:Ap)(B:Nat):Prop:=∃id e,H[id]?=δ e/\e≠E5.dead/\h.io id=δ B
def cx(X:Nat->Prop)(h:Gh)(H:Ap)(w:World):Cx:=⟨w,θ H,h.io,h.gen,h.cap,λB=>X B\/owned h H B⟩
def AAT(x:Cx)(id g:Nat)(cs:List AV):Prop:=
 x.gen id=g/\((x.io id=ε/\cs=[])\/∃(B:Nat)(arr:Array Value)(T:TypeId)(fz:Nat×Nat)(f:Nat->Value),x.io id=δ B/\x.w.heap[B]?=δ (.cells arr T fz)/\arr.size=x.cap id/\
  θ cs<=arr.size/\(∀i,i<arr.size->(τ (fz.1<=i)&&τ (i<fz.2))=η)/\
  ∀(j:Nat)(v:AV),cs[j]?=δ v->arr[j]?=δ (f j)/\(f j).oneCell'=ζ/\Bi x v (f j))
def vn(x:Cx)(id:Nat)(L:lK):Prop:=
 x.gen id=0/\∃(B:Nat)(r:Loop),x.io id=δ B/\x.w.heap[B]?=δ (.loop r)/\r.state=L.state/\r.pending=L.pending/\r.params=L.params/\r.assign=L.assign/\r.body=L.body/\r.tmps.size=L.n/\
  ∀t v,(t,v)∈L.env->t<L.n/\Bi x v (r.tmps.getD t undef)
def BAt(h:Gh)(w:World)(id:Nat):E5->Prop
 |.mp k es=>∃(B:Nat)(arr:Array MapEntry),h.io id=δ B∧h.gen id=0∧w.heap[B]?=δ (.map arr arr.size)∧arr.size=θ es∧
   ∀(j:Nat)(p:Int×AV),es[j]?=δ p->∃e:MapEntry,arr[j]?=δ e/\e.born=j/\e.key=.int k p.1/\∀x,Bi x p.2 e.val
 |.it n seen=>∃B,h.io id=δ B/\h.gen id=0/\w.heap[B]?=δ (.mapIter (δ (h.cap id)) n seen.toArray n)
 |_=>True
structure IC(X:Nat->Prop)(h:Gh)(H:Ap)(w:World):Prop where
 out:∀B,X B->B<w.heap.size/\¬owned h H B
 live:∀(id g:Nat)(cs:List AV),H[id]?=some (E5.live g cs)->AAT (cx X h H w) id g cs
 lp:∀(id:Nat)(L:lK),H[id]?=some (E5.lp L)->vn (cx X h H w) id L
 inj:∀(id id':Nat)(e e':E5)(B:Nat),H[id]?=some e->H[id']?=some e'->e≠.dead->e'≠.dead->h.io id=some B->h.io id'=some B->id=id'
 bld:∀(id:Nat)(e:E5),H[id]?=some e->e.isB=true->BAt h w id e
variable {H S:Ap}{h Q:Gh}{g:Env}{p:E5}{K:AV->Ap->Prop}{B:AV→Ap→Prop}
def IC.bldKeep(s:IC e h H w)
  (key: ∀(id:Nat) (X:E5),S[id]? =some X->X.isB=true->H[id]? =some X/\Q.io id=h.io id/\Q.gen id=h.gen id/\Q.cap id=h.cap id/\ ∀B (o:Obj),h.io id=some B->w.heap[B]? =some o->(∀z,o≠ .deferred z)->G.heap[B]? =w.heap[B]?):
  ∀(id:Nat) (X:E5),S[id]? =some X->X.isB=true->BAt Q G id X:=by
 intro id X v q;obtain⟨m,g,a,f,r⟩:=key id X v q;have b:=s.bld id X m q;cases X with
 |mp k x=>obtain⟨B,j,c,l,d,u⟩:=b;exact⟨B,j,g.trans c,a.trans l,(r B _ c d (λz=>k!)).trans d,u⟩
 |it n seen=>obtain⟨B,c,l,d⟩:=b;exact⟨B,g.trans c,a.trans l,by rw[f];exact(r B _ c d (λz=>k!)).trans d⟩
 |_=>trivial
def OT(x:Cx)(env:Env)(a:Act):Prop:=∀t v,(t,v)∈env->t<a.tmps.size/\Bi x v (a.tmps.getD t undef)
structure St(X:Nat->Prop)(h:Gh)(N:Nat)(env:Env)(H:Ap)(a:Act)(w:World):Prop where
 sim:IC X h H w
 env:OT (cx X h H w) env a
 size:a.tmps.size=N
structure Gq(h:Gh)(H:Ap)(w:World)(h':Gh)(H':Ap)(w':World):Prop where
 os:w'.os=w.os
 tape:w'.tape=w.tape
 output:w'.output=w.output
 size:w.heap.size<=w'.heap.size
 keep:∀B,B<w.heap.size->¬owned h H B->w'.heap[B]?=w.heap[B]?
 n:H.length<=H'.length
 gen:∀id,id<H.length->h.gen id<=h'.gen id
 same:∀id,id<H.length->h'.gen id=h.gen id->h'.io id=h.io id/\h'.cap id=h.cap id
 fresh:∀B,owned h' H' B->owned h H B\/w.heap.size<=B
 loops:∀(B:Nat)(r:Loop),w.heap[B]?=some (.loop r)->∃r':Loop,w'.heap[B]?=some (.loop r')
def Gq.refl(h:Gh)(H:Ap)(w:World):Gq h H w h H w:=⟨rfl,rfl,rfl,Ai _,λ_ _ _=>rfl,Ai _,λ_ _=>Ai _,λ_ _ _=>⟨rfl,rfl⟩,λ_ h=>.inl h,λ_ r h=>⟨r,h⟩⟩
theorem Gq.trans{c j k:Gh}{f g i:Ap}{l m o:World}(a:Gq c f l j g m)(b:Gq j g m k i o):Gq c f l k i o where
 os:=b.os.trans a.os
 tape:=b.tape.trans a.tape
 output:=b.output.trans a.output
 size:=C9 a.size b.size
 keep B hB hn:=(b.keep B (C2 hB a.size) λd=>by rcases a.fresh B d with h|h;grind;omega).trans (a.keep B hB hn)
 n:=C9 a.n b.n
 gen id hid:=C9 (a.gen id hid) (b.gen id (C2 hid a.n))
 same id hid e:=by have q:=a.gen id hid;have s:=b.gen id (C2 hid a.n);have u:=a.same id hid o!;have v:=b.same id (C2 hid a.n) o!;grind
 fresh B d:=by rcases b.fresh B d with h|h;exact a.fresh B h;exact .inr (C9 a.size h)
 loops B r h:=by obtain⟨p,c⟩:=a.loops B r h;exact b.loops B p c
def Gq.later{h c:Gh}{H b:Ap}{w d:World}(e:Gq h H w c b d)(X:Nat->Prop):(cx X h H w).Later (cx X c b d)where
 size:=e.size
 keep B hB hO off:=lP (e.keep B hB λa=>hO (.inr a)) off
 own B hB a:=by rcases a with a|a;exact .inl a;rcases e.fresh B a with h|h;exact .inr h;simp only[cx]at hB;omega
 n:=e.n
 gen:=e.gen
 same:=e.same
def OT.later{x y:Cx}(l:x.Later y)(h:OT x g a):OT y g a:=λt v m=>⟨(h t v m).1,(h t v m).2.later l⟩
def ET(P:Program)(F:FuncId)(args:List AV)(H:Ap)(Q:AV->Ap->Prop):Prop:=
 ∀(X:Nat->Prop)(h:Gh)(w:World)(cargs:Array Value),IC X h H w->cargs.size=θ args->
  (∀(j:Nat)(v:AV)(c:Value),args[j]?=δ v->cargs[j]?=δ c->Bi (cx X h H w) v c)->
  Calls P F cargs w λe w'=>∃c v h' H',e=.returned c/\Q v H'/\IC X h' H' w'/\Bi (cx X h' H' w') v c/\Gq h H w h' H' w'
def FR(r:Option Nat):Fence:={Fence.wide with round:=r}
def VJ(a:Act)(w:World)(a':Act)(w':World):Prop:=
 ∃ds,a'.defers=ds++a.defers/\ds.Nodup/\∀d∈ds,∃D,d={target:=.collected D,args:= #[]}/\w.heap.size<=D/\w'.heap[D]?=δ (.deferred (δ []))
def ZE(r:Option Nat)(w:World):Prop:=∀l,r=δ l->∃x:Loop,w.heap[l]?=δ (.loop x)
def VJ.same{b:Act}{w c:World}(h:b.defers=a.defers):VJ a w b c:=⟨[],by simp[h],.nil,λ_ h=>by cases h⟩
def IC.deferred(s:IC X h H w)(j:w.heap[N]?=δ (.deferred n)):¬owned h H N:=by
 rintro⟨id,e,l,o,b⟩;cases e with
 |dead=>exact o rfl
 |live g p=>rcases(s.live id g p l).2 with⟨hn,_⟩|⟨B,m,T,t,f,a,i,_⟩;rw[show(cx X h H w).io id=h.io id from rfl,b]at hn;cases hn;rw[show(cx X h H w).io id=h.io id from rfl,b]at a;injection a with e;subst e;rw[show(cx X h H w).w.heap=w.heap from rfl,j]at i;cases i
 |lp L=>obtain⟨_,B,r,a,i,_⟩:=s.lp id L l;rw[show(cx X h H w).io id=h.io id from rfl,b]at a;injection a with e;subst e;rw[show(cx X h H w).w.heap=w.heap from rfl,j]at i;cases i
 |mp k q=>obtain⟨B,m,c,_,d,_⟩:=s.bld id _ l rfl;rw[b]at c;injection c with e;subst e;rw[j]at d;cases d
 |it D_ seen=>obtain⟨B,c,_,d⟩:=s.bld id _ l rfl;rw[b]at c;injection c with e;subst e;rw[j]at d;cases d
theorem qw(h:w.heap[N]?=δ Z):N<w.heap.size:=q!
def Gq.defs(x:Gq h H w Q S G)(s:IC X h H w)(a:w.heap[N]?=δ (.deferred n)):G.heap[N]?=δ (.deferred n):=(x.keep N (qw a) (s.deferred a)).trans a
theorem VJ.trans{X:Nat->Prop}{h j b:Gh}{H f n:Ap}{a a1 a2:Act}{w e m:World}(o:VJ a w a1 e)(s:IC X j f e)(z:Gq h H w j f e)(x:Gq j f e b n m)(p:VJ a1 e a2 m):VJ a w a2 m:=by obtain⟨g,B,t,v⟩:=o;obtain⟨i,C,u,y⟩:=p;refine⟨i++g,q!,QO.2 ⟨u,t,λd r A_ q E=>?_⟩,λd c=>?_⟩;grind;rcases Ao.1 c with c|c;obtain⟨D_,k,b,l⟩:=y d c;exact⟨D_,k,C9 z.size b,l⟩;obtain⟨D_,k,b,l⟩:=v d c;exact⟨D_,k,b,x.defs s l⟩
def ZE.later{h c:Gh}{H b:Ap}{w a:World}(k:ZE j w)(x:Gq h H w c b a):ZE j a:=λl e=>by obtain⟨y,d⟩:=k l e;exact x.loops l y d
def JU(P:Program)(N:Nat)(c:Code)(env:Env)(H:Ap)(Q:Exit->Env->Ap->Prop):Prop:=
 ∀(r:Option Nat)(X:Nat->Prop)(h:Gh)(a:Act)(w:World),St X h N env H a w->ZE r w->
  c.wpIn (FR r) 0 P (λe a' w'=>∃h' env' H',Q e env' H'/\St X h' N env' H' a' w'/\Gq h H w h' H' w'/\VJ a w a' w') a w
def ET.mono{P:Program}{F:FuncId}{args:List AV}{H:Ap}{d:AV->Ap->Prop}(h:ET P F args H K)(i:∀v b,K v b->d v b):ET P F args H d:=λX g w a s j hr=>(h X g w a s j hr).mono λ_ _ ⟨c,v,f,b,e,q,r⟩=>⟨c,v,f,b,e,i _ _ q,r⟩
def JU.mono{P:Program}{N:Nat}{H:Ap}{Q f:Exit->Env->Ap->Prop}(h:JU P N r g H Q)(j:∀e b d,Q e b d->f e b d):JU P N r g H f:=λc X l a w s k=>wpIn_mono (h c X l a w s k) λ_ _ _ ⟨i,b,d,q,c⟩=>⟨i,b,d,j _ _ _ q,c⟩
def dY(K:Env->Ap->Prop)(Q:Exit->Env->Ap->Prop):Exit->Env->Ap->Prop
 |.normal,env,H=>K env H
 |e,env,H=>Q e env H
def oe(id:Nat)(Q:Exit->Env->Ap->Prop):Exit->Env->Ap->Prop
 |.exit id',env,H=>if id'=id then Q .normal env H else Q (.exit id') env H
 |e,env,H=>Q e env H
section rules
variable {P:Program}{N:Nat}{env:Env}{H:Ap}{Q:Exit->Env->Ap->Prop}
def JU.skip(h:Q .normal env H):JU P N .skip env H Q:=λ_ _ _ _ _ s _=>wpIn_skip ⟨_,_,_,h,s,Gq.refl _ _ _,.same rfl⟩
def JU.ret(h:Q .ret env H):JU P N .ret env H Q:=λ_ _ _ _ _ s _=>wpIn_ret ⟨_,_,_,h,s,Gq.refl _ _ _,.same rfl⟩
def JU.exit(h:Q (.exit t) env H):JU P N (.exit t) env H Q:=λ_ _ _ _ _ s _=>wpIn_exit ⟨_,_,_,h,s,Gq.refl _ _ _,.same rfl⟩
def JU.seq{x y:Code}(h:JU P N x env H (dY (λb d=>JU P N y b d Q) Q)):JU P N (.seq x y) env H Q:=by
 intro r X g a w s k;refine wpIn_seq (wpIn_mono (h r X g a w s k) ?_);rintro e n v ⟨j,b,d,q,f,c,i⟩;cases e with
 |normal=>apply wpIn_mono (q r X j n v f (k.later c));rintro e a2 z ⟨p,env2,m,t,u,l,o⟩;exact⟨p,env2,m,t,u,c.trans l,i.trans f.sim c l o⟩
 |_=>exact⟨j,b,d,q,f,c,i⟩
theorem JU.block{id:Nat}(h:JU P N r env H (oe id Q)):JU P N (.block id r) env H Q:=by intro c X g a w s k;refine wpIn_block (wpIn_mono (h c X g a w s k) ?_);rintro e f j ⟨i,b,d,q,c⟩;cases e<;>grind[oe,Exit.inBlock]
def E4(N n0:Nat)(env:Env)(H:Ap)(env2:Env)(H2:Ap):Prop:=
 n0<=θ H2/\∀(X:Nat->Prop)(h:Gh)(a:Act)(w:World),St X h N env H a w->
  ∃h2,St X h2 N env2 H2 a w/\(∀id,id<n0->h2.gen id=h.gen id/\h2.io id=h.io id/\h2.cap id=h.cap id)/\∀B,owned h2 H2 B->owned h H B
def E4.ext{j d:Gh}{f:Ap}(hn:θ f=N)(o:N≤θ S)
  (k:∀id,id<N->d.gen id=h.gen id/\d.io id=h.io id/\d.cap id=h.cap id) (m:∀B,owned d S B->owned h H B) (x:Gq j f G h H w):Gq j f G d S w where
 os:=x.os
 tape:=x.tape
 output:=x.output
 size:=x.size
 keep:=x.keep
 n:=o!
 gen id hid:=by rw[(k id o!).1];exact x.gen id hid
 same id hid e:=by obtain⟨a,b,c⟩:=k id o!;rw[a]at e;rw[b,c];exact x.same id hid e
 fresh B hB:=x.fresh B (m B hB)
 loops:=x.loops
theorem E4.refl(N:Nat)(env:Env)(H:Ap):E4 N (θ H) env H env H:=⟨Ai _,λ_ h _ _ s=>⟨h,s,λ_ _=>⟨rfl,rfl,rfl⟩,λ_ h=>h⟩⟩
def JU.weak(f:E4 N (θ H) env H g S)(h:JU P N r g S Q):JU P N r env H Q:=by intro c X d a w s k;obtain⟨m,t,n,o⟩:=f.2 X d a w s;apply wpIn_mono (h c X m a w t k);rintro e v x ⟨l,b,i,q,p,u,j⟩;exact⟨l,b,i,q,p,(E4.ext rfl f.1 n o (Gq.refl d H w)).trans u,j⟩
end rules
def Env.get:Env->Nat->AV
 |[],_=>.any
 |(k,v)::r,t=>if k=t then v else Env.get r t
def Env.put(env:Env)(t:Nat)(v:AV):Env:=(t,v)::env.filter λp=>decide (p.1≠t)
def Env.putO(env:Env):Option Nat->AV->Env
 |some t,v=>env.put t v
 |none,_=>env
theorem Nv{env:Env}{t:Nat}:Env.get env t=.any\/(t,Env.get env t)∈env:=by induction env<;>grind[Env.get]
def qC:Value->AV
 |.bool b=>.bool b
 |.int k n=>.int k n
 |.string s=>.str s.data.toList
 |.pointer ε=>.nilp
 |.slice ε 0 0=>.nils
 |.nilFunc=>.nilf
 |_=>.any
def ABg:Value->AV
 |.agg cs=>if cs.toList.all (·.oneCell')then .agg (cs.toList.map qC)else .any
 |v=>qC v
theorem ox(x:Cx)(v:Value):Bi x (qC v) v:=by unfold qC;split;exact .bool _;exact .int _ _;exact .str _ rfl;exact .nilp;exact .nils;exact .nilf;exact .any _
theorem xg(x:Cx)(v:Value):Bi x (ABg v) v:=by unfold ABg;split;rename_i b;split;rename_i h;refine .agg k! (λj c a=>?_) λj v c a d=>?_;grind;grind[ox];exact .any _;exact ox x _
def BI(env:Env):Operand->AV
 |.tmp t=>env.get t
 |.const v=>ABg v
 |.global _=>.any
 |.func f=>.fn (.func f) [] []
def DY(h:OT i g a)(o:Operand):Bi i (BI g o) (a.eval o):=by
 cases o with
 |tmp t=>rcases Nv (env:=g) (t:=t)with e|m;simp only[BI,e];exact .any _;exact(h _ _ m).2
 |const v=>exact xg i v
 |global x=>exact .any _
 |func f=>exact .fn rfl rfl (λ_ _ _ h=>by simp at h) (λ_ _ _ h=>by simp at h)
theorem OT.put(h:OT i g a){d:Nat}{v:AV}(x:d<a.tmps.size)(j:Bi i v c):OT i (g.put d v) (a.put (δ d) c):=by
 intro t u m;simp only[Act.put];rcases A1.1 m with e|m;simp_all;rw[BU]at m;obtain⟨m,b⟩:=m;have b:t≠d:=q!
 obtain⟨f,k⟩:=h t u m;have:(a.tmps.setIfInBounds d c).getD t undef=a.tmps.getD t undef:=by rw[QS,QS,uU (λe=>b e.symm)]
 grind
def OT.putO(h:OT i g a){v:AV}(b:∀t,j=δ t->t<a.tmps.size)(e:Bi i v c):OT i (g.putO j v) (a.put j c):=by
 cases j with
 |none=>exact h
 |some j=>exact h.put (b j rfl) e
def dS(a:Act)(d:Option Nat)(c:Value):(a.put d c).tmps.size=a.tmps.size:=by cases d<;>simp[Act.put]
def JI(P:Program)(N:Nat)(o:Oper)(env:Env)(H:Ap)(K:AV->Ap->Prop):Prop:=
 ∀(r:Option Nat)(X:Nat->Prop)(h:Gh)(a:Act)(w:World),St X h N env H a w->∀Q:Exit->Act->World->Prop,
  Oper.wpIn (FR r) 0 P o a w (λa' w'=>∃c v h' H',a'=a.put o.dst c/\K v H'/\Bi (cx X h' H' w') v c/\IC X h' H' w'/\Gq h H w h' H' w') Q
def JI.mono{P:Program}{N:Nat}{H:Ap}{d:AV->Ap->Prop}(h:JI P N o g H K)(i:∀v b,K v b->d v b):JI P N o g H d:=λr X j a w s Q=>Oper.wpIn_mono (λ_ _ ⟨c,v,f,b,e,k,r⟩=>⟨c,v,f,b,e,i _ _ k,r⟩) (h r X j a w s Q)
def Op.plain:Op->Bool
 |.defer _=>η
 |_=>ζ
def Ct(n:Op.plain o.op=ζ)(h:∀(X:Nat→Prop)(h:Gh)(a:Act)(w:World),St X h N g H a w→ ∀Q:Exit→Act→World→Prop,
  Oper.wp P o a w (λp b=>∃c v i e,p=a.put o.dst c/\B v e/\Bi (cx X i e b) v c/\IC X i e b/\Gq h H w i e b) Q):JI P N o g H B:=by
 intro r X K a w s Q;have d:=h X K a w s Q;refine⟨λ_ _=>O!,?_⟩;rw[Oper.semAt_eq _ _ _ (λc j=>by rw[j]at n;cases n)];unfold Oper.wp at d;generalize (execOp a.eval o).run P w=res at d;have j:∀{f:FuncId}{args:Array Value}{b:World}{R:Ending->World->Prop},Calls P f args b R->CallsIn (FR r) (0-1) P f args b R:=by
  intro f args b R t;have m:CallsIn Fence.wide (0-1) P f args b R:=callsIn_wide.2 t;cases r with
  |none=>exact m
  |some l=>exact m
 cases res with
 |ok v b=>
  cases v with
  |enter f args=>exact⟨(λh=>by cases h),j d⟩
  |row row args=>refine⟨(λh=>by cases h),λc q _=>?_⟩;obtain⟨v,k,u,y⟩:=d c q;exact⟨v,k,u,stepsIn_wide.2 y⟩
  |round l f tmps assign body=>exact d.elim
  |_=>exact d
 |halt x b=>cases x<;>exact d
def V6(ops:Array Oper)(env:Env)(j:Nat):AV:=
 match (ops[j]?).bind (·.dst)with
 |some d=>env.get d
 |none=>.any
def Xb(ops:Array Oper)(g:Option (Nat×Bool))(env:Env)(A_ B:Prop):Prop:=
 match g with
 |none=>A_
 |some (j,want)=>
  match V6 ops env j with
  |.bool b=>(b=want->A_)/\(b=(!want)->B)
  |.tup []=>B
  |_=>False
def On(n:Nat)(ops:List Oper):Bool:=ops.all λo=>match o.dst with|some d=>decide (d<n)|none=>ζ
theorem xw(s:OT i g a){B:Prop}(h:Xb q o.guard g U B):
  (Region.wanted o (yielded q a.tmps)=ζ/\U)\/(Region.wanted o (yielded q a.tmps)=η/\B):=by
 unfold Xb at h;unfold Region.wanted;cases v:o.guard with
 |none=>grind
 |some p=>
  obtain⟨j,k⟩:=p;rw[v]at h;simp only at h⊢;cases A_:V6 q g j with
  |bool b=>
   rw[A_]at h;simp only at h;have r:yielded q a.tmps j=δ b:=by
    unfold V6 at A_;unfold yielded;cases n:(q[j]?).bind (·.dst)with
    |none=>grind
    |some d=>
     rw[n]at A_;simp only at A_;simp only[AD];rcases Nv (env:=g) (t:=d)with e|m;grind;rw[A_]at m;obtain⟨x,hr⟩:=s _ _ m;have:a.tmps[d]?=δ (.bool b):=by
      have f:a.tmps.getD d undef=.bool b:=by generalize a.tmps.getD d undef=c at hr;cases hr;rfl
      rw[QS]at f;grind[Array.getElem?_eq_getElem]
     rw[this]
   rw[r];by_cases u:b=k;grind;refine .inr ⟨by simp[u],h.2 ?_⟩;cases b<;>cases k<;>simp_all
  |tup w=>
   cases w with
   |cons _ _=>grind
   |nil=>
    rw[A_]at h;simp only at h;refine .inr ⟨?_,h⟩;have r:yielded q a.tmps j=ε:=by
     unfold V6 at A_;unfold yielded;cases n:(q[j]?).bind (·.dst)with
     |none=>rfl
     |some d=>
      rw[n]at A_;simp only at A_;simp only[AD];rcases Nv (env:=g) (t:=d)with e|m;grind;rw[A_]at m;obtain⟨x,hr⟩:=s _ _ m;have f:∃l,a.tmps.getD d undef=.tuple l:=by generalize a.tmps.getD d undef=c at hr;cases hr;exact⟨_,rfl⟩
      obtain⟨l,f⟩:=f;have:a.tmps[d]?=δ (.tuple l):=t!
      rw[this]
    rw[r];rfl
  |_=>grind
section
variable {P:Program}{N:Nat}{env:Env}{H:Ap}{Q:Exit->Env->Ap->Prop}
def JU.cond{y:Code}{b:Bool}(d:BI env m=.bool b)(h:b=ζ->JU P N r env H Q)(f:b=η->JU P N y env H Q):JU P N (.cond m r y) env H Q:=by
 intro c X g a w s k;have hr:=DY s.env m;rw[d]at hr;have e:a.eval m=.bool b:=by generalize a.eval m=v at hr;cases hr;rfl
 apply wpIn_cond e;cases b;exact f rfl c X g a w s k;exact h rfl c X g a w s k
end
mutual
def AV.idsAll(p:Nat->Bool):AV->Bool
 |.ptr id _ _=>p id
 |.sl id _ _ _ _=>p id
 |.yf id=>p id
 |.mp id=>p id
 |.itp id m=>p id&&p m
 |.vptr cs=>AV.idsAllL p cs
 |.vs _ rows=>AV.idsAllL p rows
 |.fn _ a b=>AV.idsAllL p a&&AV.idsAllL p b
 |.agg cs=>AV.idsAllL p cs
 |.tup cs=>AV.idsAllL p cs
 |.bool _|.int _ _|.str _|.nilp|.nils|.nilf|.any=>ζ
def AV.idsAllL(p:Nat->Bool):List AV->Bool
 |[]=>ζ
 |v::r=>AV.idsAll p v&&AV.idsAllL p r
end
mutual
def AV.ren(ρ:Nat->Nat):AV->AV
 |.ptr id g off=>.ptr (ρ id) g off
 |.sl id g sz off len=>.sl (ρ id) g sz off len
 |.yf id=>.yf (ρ id)
 |.mp id=>.mp (ρ id)
 |.itp id m=>.itp (ρ id) (ρ m)
 |.vptr cs=>.vptr (AV.renL ρ cs)
 |.vs sz rows=>.vs sz (AV.renL ρ rows)
 |.fn f a b=>.fn f (AV.renL ρ a) (AV.renL ρ b)
 |.agg cs=>.agg (AV.renL ρ cs)
 |.tup cs=>.tup (AV.renL ρ cs)
 |.bool b=>.bool b
 |.int k n=>.int k n
 |.str s=>.str s
 |.nilp=>.nilp
 |.nils=>.nils
 |.nilf=>.nilf
 |.any=>.any
def AV.renL(ρ:Nat->Nat):List AV->List AV
 |[]=>[]
 |v::r=>AV.ren ρ v::AV.renL ρ r
end
theorem OK(a:Nat->Nat)(l:List AV):AV.renL a l=l.map (AV.ren a):=by induction l<;>grind[AV.renL]
theorem Dg(p:Nat->Bool)(l:List AV):AV.idsAllL p l=ζ↔∀v∈l,v.idsAll p=ζ:=by induction l<;>grind[AV.idsAllL]
theorem Mp{p:Nat->Bool}(h:AV.idsAllL p f=ζ)(a:f[N]?=δ d):d.idsAll p=ζ:=by grind[Dg]
theorem vV(a:Nat->Nat)(v:AV):(v.ren a).cells=v.cells.map (AV.ren a):=by cases v<;>simp[AV.ren,AV.cells,OK]
def Ud{p:Nat->Bool}(h:d.idsAll p=ζ):∀u∈d.cells,u.idsAll p=ζ:=by
 cases d<;>simp only[AV.cells,A7]<;>first
  |(intro u a;subst a;exact h)
  |(simp only[AV.idsAll]at h;exact(Dg _ _).1 h)
theorem Bi.ren{x y:Cx}{p:Nat→Bool}{ρ:Nat→Nat}(F:∀id,p id=ζ→id<x.n→ρ id<y.n∧y.gen (ρ id)=x.gen id∧y.io (ρ id)=x.io id∧y.cap (ρ id)=x.cap id)
  (Y:y.w=x.w) (hO:∀B,y.O B->x.O B) {v:AV}  (r:Bi x v c):v.idsAll p=ζ->Bi y (v.ren ρ) c:=by
 induction r with
 |bool b=>exact λ_=>.bool b
 |int k n=>exact λ_=>.int k n
 |str t L=>exact λ_=>.str t L
 |nilp=>exact λ_=>.nilp
 | @ptr id g H c A_ T E z=>intro q;obtain⟨a,b,d,e⟩:=F id q A_;refine .ptr a (by rw[b];exact T) E λC=>?_;rw[b]at C;rw[d];exact z C
 | @vptr cs B H f K S z X M=>intro q;simp only[AV.idsAll]at q;simp only[AV.ren,OK];refine .vptr f (λo=>K (hO B o)) (by rw[Y];exact S) (λj v l=>?_) λj v l=>?_;grind;grind[Option.some.injEq,Mp]
 |nils=>exact λ_=>.nils
 | @vs sz D_ a cap f P W af ha X M=>
  intro q;simp only[AV.idsAll]at q;simp only[AV.ren,OK];have I:∀{j:Nat}{e:AV},(D_.map (AV.ren ρ))[j]?=δ e->∃u,D_[j]?=δ u/\e=u.ren ρ:=by grind[Option.some.injEq]
  have G:∀{u:AV}{i:Nat}{v:AV},(u.ren ρ).cells[i]?=δ v->∃t,u.cells[i]?=δ t/\v=t.ren ρ:=by grind[vV,Option.some.injEq]
  have J:(D_.map (AV.ren ρ)).length=θ D_:=k!
  rw[<-J];refine .vs f (by rw[J];exact P) W (λj e l=>?_) (λV=>?_) λj e i v l U=>?_;grind[vV,List.length_map];obtain⟨B,H,e,K,S,z⟩:=ha (by simpa using V);refine⟨B,H,e,λo=>K (hO B o),by rw[Y];exact S,λj e i v l U=>?_⟩;obtain⟨u,s,rfl⟩:=I l;obtain⟨t,L,rfl⟩:=G U;rw[Y];exact z j u i t s L;obtain⟨u,s,rfl⟩:=I l;obtain⟨t,L,rfl⟩:=G U;exact M j u i t s L (Ud (Mp q s) _ (BM L))
 | @sl id g sz H len c A_ T E z=>intro q;obtain⟨a,b,d,e⟩:=F id q A_;refine .sl a (by rw[b];exact T) E λC=>?_;rw[b]at C;rw[d,e];exact z C
 | @fn f first N Q R E h2 al ao Z ad=>
  intro q;simp only[AV.idsAll,BN]at q;simp only[AV.ren,OK];refine .fn (by simpa using E) (by simpa using h2) (λj v c l z=>?_) λj v c l z=>?_;rw[B6]at l;cases s:first[j]? with
  |none=>rw[s]at l;cases l
  |some u=>rw[s]at l;simp only[Bd,Al]at l;subst l;exact Z j u c s z (Mp q.1 s)
  rw[B6]at l;cases s:N[j]? with
  |none=>rw[s]at l;cases l
  |some u=>rw[s]at l;simp only[Bd,Al]at l;subst l;exact ad j u c s z (Mp q.2 s)
 | @yf id c A_ E z=>intro q;obtain⟨a,b,d,e⟩:=F id q A_;refine .yf a E λC=>?_;rw[b]at C;rw[d];exact z C
 | @mp id c A_ E z=>intro q;obtain⟨a,b,d,e⟩:=F id q A_;refine .mp a E λC=>?_;rw[b]at C;rw[d];exact z C
 | @itp id m c A_ hm E z=>intro q;simp only[AV.idsAll,BN]at q;obtain⟨a,b,d,e⟩:=F id q.1 A_;obtain⟨a2,b2,d2,e2⟩:=F m q.2 hm;refine .itp a a2 E λC=>?_;rw[b]at C;rw[d,b2,d2,e];exact z C
 |nilf=>exact λ_=>.nilf
 | @agg cs ag h E X M=>
  intro q;simp only[AV.idsAll]at q;simp only[AV.ren,OK];refine .agg (by simpa using h) E λj v c l z=>?_;rw[B6]at l;cases s:cs[j]? with
  |none=>rw[s]at l;cases l
  |some u=>rw[s]at l;simp only[Bd,Al]at l;subst l;exact M j u c s z (Mp q s)
 | @tup vs ap h X M=>
  intro q;simp only[AV.idsAll]at q;simp only[AV.ren,OK];refine .tup (by simpa using h) λj v c l z=>?_;rw[B6]at l;cases s:vs[j]? with
  |none=>rw[s]at l;cases l
  |some u=>rw[s]at l;simp only[Bd,Al]at l;subst l;exact M j u c s z (Mp q s)
 |any c=>exact λ_=>.any c
mutual
theorem AAC{p:Nat->Bool}{d:Nat->Nat}(c:∀id,p id=ζ->d id=id):∀v:AV,v.idsAll p=ζ->v.ren d=v
 |.ptr id g off,h=>by simp only[AV.ren,c id h]
 |.sl id g sz off len,h=>by simp only[AV.ren,c id h]
 |.yf id,h=>by simp only[AV.ren,c id h]
 |.mp id,h=>by simp only[AV.ren,c id h]
 |.itp id m,h=>by simp only[AV.idsAll,BN]at h;simp only[AV.ren,c id h.1,c m h.2]
 |.vptr cs,h=>by simp only[AV.ren,XL c cs h]
 |.vs sz rows,h=>by simp only[AV.ren,XL c rows h]
 |.fn f a b,h=>by simp only[AV.idsAll,BN]at h;simp only[AV.ren,XL c a h.1,XL c b h.2]
 |.agg cs,h=>by simp only[AV.ren,XL c cs h]
 |.tup cs,h=>by simp only[AV.ren,XL c cs h]
 |.bool _,_=>rfl
 |.int _ _,_=>rfl
 |.str _,_=>rfl
 |.nilp,_=>rfl
 |.nils,_=>rfl
 |.nilf,_=>rfl
 |.any,_=>rfl
theorem XL{p:Nat->Bool}{b:Nat->Nat}(a:∀id,p id=ζ->b id=id):∀l:List AV,AV.idsAllL p l=ζ->AV.renL b l=l
 |[],_=>rfl
 |v::r,h=>by simp only[AV.idsAllL,BN]at h;simp only[AV.renL,AAC a v h.1,XL a r h.2]
end
def tI(P:Program)(t:TypeId):Option (Bool×Nat):=
 match P.info? t,P.underlying t with
 |some i,δ d=>δ ((match d with|.struct _|.array _ _=>ζ|_=>η),i.size)
 |_,_=>ε
def XY(h:tI P b=δ (s,N))(w:World):(isAgg b).run P w=.ok s w:=by unfold tI at h;split at h;rename_i i d c a;unfold isAgg;simp only[Sem.run_bind,run_underlying a,Result.andThen_ok];split<;>simp_all;cases h
def LD{P:Program}(h:tI P b=δ (s,N))(w:World):(sizeOf b).run P w=.ok N w:=by unfold tI at h;split at h;rename_i i d a c;simp at h;simp[sizeOf,typeInfo,a,h.2];cases h
def Pw(H:Ap):AV->Nat->Option (List AV)
 |.ptr id g off,n=>
  match H[id]? with
  |some (.live g' cs)=>if g=g'/\off+n<=θ cs then δ ((cs.drop off).take n)else ε
  |_=>ε
 |.vptr cs,n=>if n<=θ cs then δ (cs.take n)else ε
 |_,_=>ε
def lf(x:Cx)(vs:List AV)(cs:List Value):Prop:=θ cs=θ vs/\∀(j:Nat)(v:AV)(c:Value),vs[j]?=δ v->cs[j]?=δ c->Bi x v c
theorem OZ(B a j:Nat):(⟨B,a,ε⟩:Addr).add j=⟨B,a+j,ε⟩:=by grind[Addr.add]
theorem Pc{w:World}(h:w.heap[N]?=δ (.cells k b E))(B:Nat):w.cell? ⟨N,B,ε⟩=k[B]? :=by grind[World.cell?]
theorem tZ(s:IC e h H w)(r:Bi (cx e h H w) d c)(hr:Pw H d N=δ f):
  ∃(B a:Nat)(k:List Value),c=.pointer (δ ⟨B,a,ε⟩)/\θ k=N/\(∀j u,k[j]?=δ u->w.cell? ((⟨B,a,ε⟩:Addr).add j)=δ u/\u.oneCell'=ζ)/\lf (cx e h H w) f k:=by
 cases r with
 | @ptr id g a c O Z V x=>
  simp only[Pw]at hr;split at hr;rename_i U k L;split at hr;rename_i m;obtain⟨rfl,F⟩:=m;simp only[Al]at hr;subst hr;obtain⟨t,q⟩:=s.live id g k L;obtain⟨B,o,rfl⟩:=x t;rcases q with⟨hn,_⟩|⟨D_,I,T,S,n,l,K,E,A_,M,i⟩;rw[hn]at o;cases o;have:D_=B:=by rw[show(cx e h H w).io id=δ B from o]at l;injection l with v;exact v.symm
  subst this;refine⟨D_,a,(List.range N).map (λj=>n (a+j)),rfl,k!,?_,?_,?_⟩;intro j u p;have b:j<N:=by grind[Nat.lt_or_ge,List.getElem?_eq_none]
  have Q:u=n (a+j):=by grind[List.getElem?_range]
  subst Q;have y:k[a+j]?=δ (k[a+j]' o!):=As o!;obtain⟨J,P,_⟩:=i _ _ y;rw[OZ,Pc (w:=w) K];exact⟨J,P⟩;grind[List.length_map,List.length_range,List.length_take,List.length_drop];grind[Nat.lt_or_ge,List.getElem?_eq_none,List.getElem?_range,Option.some.injEq];cases hr;cases hr
 | @vptr k B a n Y W x R=>
  simp only[Pw]at hr;split at hr;rename_i A_;simp only[Al]at hr;subst hr;refine⟨B,a,(List.range N).map n,rfl,k!,?_,?_,?_⟩;intro j u p;have b:j<N:=by grind[Nat.lt_or_ge,List.getElem?_eq_none]
  rw[B6,Qz b]at p;simp only[Bd,Al]at p;subst p;rw[OZ];exact x j _ (As o!);grind[List.length_map,List.length_range,List.length_take];intro j u G p z;have b:j<N:=by rcases Ar j N with C|X;exact C;simp_all[Cf]
  rw[XT,C! b]at p;rw[B6,Qz b]at z;simp only[Bd,Al]at z;subst z;exact R j u p;cases hr
 |_=>simp only[Pw]at hr;cases hr
def gp(P:Program)(t:TypeId)(H:Ap)(v:AV):Option AV:=
 match tI P t with
 |some (ζ,n)=>(Pw H v n).map AV.agg
 |some (η,_)=>(Pw H v 1).bind List.head?
 |none=>ε
theorem yG(s:IC e h H w)(r:Bi (cx e h H w) d c)(t:gp P b H d=δ x):
  ∃B v l,c=.pointer (δ ⟨B,v,ε⟩)/\(loadVar b ⟨B,v,ε⟩).run P w=.ok l w/\Bi (cx e h H w) x l:=by
 unfold gp at t;split at t;rename_i n g;cases hr:Pw H d n with
 |none=>grind
 |some o=>rw[hr]at t;simp at t;subst t;obtain⟨B,v,f,rfl,X,k,a⟩:=tZ s r hr;refine⟨B,v,.agg f.toArray,rfl,?_,?_⟩;unfold loadVar;simp only[Sem.run_bind,XY g,Result.andThen_ok,if_true,LD g];subst X;rw[run_loadCells_list w ⟨B,v,ε⟩ f λj d i=>(k j d i).1];rfl;refine .agg (by simpa using a.1) (λj c i=>?_) λj d c i p=>?_;grind;exact a.2 j d c i q!
 rename_i n g;cases hr:Pw H d 1 with
 |none=>grind
 |some o=>
  rw[hr]at t;simp at t;obtain⟨B,v,f,rfl,X,k,a⟩:=tZ s r hr;match f,X with
  |[c0],_=>
   match o,a.1 with
   |[u0],_=>simp at t;subst t;refine⟨B,v,c0,rfl,?_,a.2 0 _ _ rfl rfl⟩;unfold loadVar;have m:=(k 0 c0 rfl).1;simp only[Addr.add,if_true]at m;simp[XY g,m]
 cases t
def mZ(P:Program)(env:Env)(H:Ap):ResultVar->Option AV
 |.tmp t=>δ (env.get t)
 |.cell a t=>gp P t H (env.get a)
def Sk(P:Program)(env:Env)(H:Ap):List ResultVar->Option (List AV)
 |[]=>δ []
 |r::rs=>
  match mZ P env H r,Sk P env H rs with
  |some v,δ vs=>δ (v::vs)
  |_,_=>ε
def gr(P:Program)(fn:Func)(env:Env)(H:Ap):Option AV:=
 match Sk P env H fn.results.toList with
 |some [v]=>δ v
 |some vs=>δ (.tup vs)
 |none=>ε
def jT(h:OT i g a)(t:Nat):Bi i (g.get t) (a.tmps.getD t undef):=DY h (.tmp t)
def td(tmps:Array Value):ResultVar->Sem Value
 |.tmp t=>pure (tmps.getD t undef)
 |.cell a t=>do loadVar t (<-asAddr (tmps.getD a undef))
def AAE(b:Func)(tmps:Array Value):results b tmps=(do
  let a<-b.results.mapM (td tmps);pure (if h:a.size=1 then a[0]else .tuple a)):=rfl
theorem qV{P:Program}{N:Nat}{X:Nat→Prop}{h:Gh}{env:Env}{H:Ap}{a:Act}{w:World}(s:St X h N env H a w):∀(g:List ResultVar)(i:List AV),Sk P env H g=δ i→
  ∃f,Sem.run P (g.mapM (td a.tmps)) w=.ok f w/\lf (cx X h H w) i f
 |[],i,hv=>by simp only[Sk,Al]at hv;subst hv;exact⟨[],rfl,rfl,λ_ _ _ h=>by cases h⟩
 |r::g,i,hv=>by
  simp only[Sk]at hv;split at hv;rename_i v l k n;simp at hv;subst hv;obtain⟨f,o,b⟩:=qV s g l n;have e:∃c,Sem.run P (td a.tmps r) w=.ok c w/\Bi (cx X h H w) v c:=by
   cases r with
   |tmp t=>simp only[mZ,Al]at k;subst k;exact⟨_,rfl,jT s.env t⟩
   |cell x t=>obtain⟨B,y,m,p,q,hr⟩:=yG s.sim (jT s.env x) k;refine⟨m,?_,hr⟩;simp only[td,p];simp[asAddr,q]
  obtain⟨c,z,hr⟩:=e;refine⟨c::f,?_,by simpa using b.1,?_⟩;simp_all;intro j u d C A_;cases j with
  |zero=>grind
  |succ j=>exact b.2 j u d q! q!
  cases hv
theorem AB5(s:St e h N g H a w)(v:gr P V g H=δ d):
  ∃c,(results V a.tmps).run P w=.ok c w/\Bi (cx e h H w) d c:=by
 unfold gr at v;cases X:Sk P g H V.results.toList with
 |none=>grind
 |some l=>
  rw[X]at v;obtain⟨f,m,b⟩:=qV s _ l X;have n:Sem.run P (V.results.mapM (td a.tmps)) w=.ok f.toArray w:=by grind[Array.mapM_eq_mapM_toList,Sem.run_map,Result.andThen_ok]
  rw[AAE];simp only[Sem.run_bind,n];simp only[Result.andThen_ok,Sem.run_pure,Result.ok.injEq,and_true,exists_eq_left'];match l,b with
  |[],b=>simp at v;subst v;have:f=[]:=EJ (by simpa using b.1);subst this;exact .tup rfl λj d c i _=>by cases i
  |[v0],b=>
   simp at v;subst v;match f,b.1 with
   |[c0],_=>exact b.2 0 _ _ rfl rfl
  |v0::v1::r,b=>
   simp at v;subst v;have k:f.toArray.size≠1:=by rw[dm,b.1];simp
   rw[dif_neg k];exact .tup (by simpa using b.1) λj d c i o=>b.2 j d c i q!
def OU(n0:Nat)(v:AV)(H:Ap)(v2:AV)(H2:Ap):Prop:=
 n0<=θ H2/\∀(X:Nat->Prop)(h:Gh)(w:World)(c:Value),IC X h H w->Bi (cx X h H w) v c->
  ∃h2,IC X h2 H2 w/\Bi (cx X h2 H2 w) v2 c/\(∀id,id<n0->h2.gen id=h.gen id/\h2.io id=h.io id/\h2.cap id=h.cap id)/\∀B,owned h2 H2 B->owned h H B
def OU.refl(v:AV)(H:Ap)(hn:N<=θ H):OU N v H v H:=⟨hn,λ_ h _ _ s r=>⟨h,s,r,λ_ _=>⟨rfl,rfl,rfl⟩,λ_ h=>h⟩⟩
def AIX(P:Program)(fn:Func)(n0:Nat)(Q:AV->Ap->Prop):Exit->Env->Ap->Prop
 |.normal,env,H|.ret,env,H=>∃v v2 H2,gr P fn env H=δ v/\OU n0 v H v2 H2/\Q v2 H2
 |_,_,_=>False
def env0:Nat->List AV->Env
 |_,[]=>[]
 |i,v::r=>(i,v)::env0 (i+1) r
theorem xm{t:Nat}{v:AV}:∀{i:Nat}{l:List AV},(t,v)∈env0 i l->i<=t/\l[t-i]?=δ v
 |i,u::r,h=>by simp only[env0,A1]at h;rcases h with⟨rfl,rfl⟩|h;simp;obtain⟨a,b⟩:=xm h;grind
theorem lD{y:Option (List Deferred)}(b:w.heap[N]?=δ (.deferred n))(B a:Nat):(w.putObj N (.deferred y)).cell? ⟨B,a,ε⟩=w.cell? ⟨B,a,ε⟩:=by grind[World.cell?,World.putObj_heap_same,World.putObj_heap_other]
def IC.shut(s:IC e h H w){x y:Option (List Deferred)}(J:w.heap[N]?=δ (.deferred x)):
  (cx e h H w).Later (cx e h H (w.putObj N (.deferred y)))/\IC e h H (w.putObj N (.deferred y)):=by
 have C:(cx e h H w).Later (cx e h H (w.putObj N (.deferred y))):=⟨by simp[cx],λB _ _ G=>lD J B G,λ_ _ h=>h,Ai _,λ_ _=>Ai _,λ_ _ _=>⟨rfl,rfl⟩⟩
 have d:∀{B:Nat}{o:Obj},w.heap[B]?=δ o->(∀z,o≠.deferred z)->(w.putObj N (.deferred y)).heap[B]?=δ o:=by intro B o a F;by_cases i:B=N;subst i;rw[J]at a;injection a with D_;exact(F x D_.symm).elim;rw[World.putObj_heap_other i,a]
 refine⟨C,λB a=>⟨by simpa using(s.out B a).1,(s.out B a).2⟩,λid g K l=>?_,λid L l=>?_,s.inj,s.bldKeep λid D_ l _=>⟨l,rfl,rfl,rfl,λB o _ a F=>(d a F).trans a.symm⟩⟩;obtain⟨A_,n⟩:=s.live id g K l;refine⟨A_,?_⟩;rcases n with⟨hn,rfl⟩|⟨B,p,T,M,f,c,q,k,E,u,b⟩;exact .inl ⟨hn,rfl⟩;refine .inr ⟨B,p,T,M,f,c,d q (λz=>k!),k,E,u,λj v U=>?_⟩;obtain⟨V,W,Y⟩:=b j v U;exact⟨V,W,Y.later C⟩;obtain⟨A_,B,r,c,q,X,O,P,Q,R,S,I⟩:=s.lp id L l;exact⟨A_,B,r,c,d q (λz=>k!),X,O,P,Q,R,S,λt v m=>⟨(I t v m).1,(I t v m).2.later C⟩⟩
theorem Gq.shut(x:Gq h H w Q S G){y z:Option (List Deferred)}(d:w.heap.size<=N)(e:G.heap[N]?=δ (.deferred z)):Gq h H w Q S (G.putObj N (.deferred y))where
 os:=x.os
 tape:=x.tape
 output:=x.output
 size:=by simpa using x.size
 keep B hB hn:=by rw[World.putObj_heap_other o!];exact x.keep B hB hn
 n:=x.n
 gen:=x.gen
 same:=x.same
 fresh:=x.fresh
 loops B r hB:=by obtain⟨f,Q⟩:=x.loops B r hB;grind[World.putObj_heap_other]
def nt{P:Program}{A_:Func}{N:Nat}{X:Nat→Prop}{g h:Gh}{H b p:Ap}{z:World}{v t:AV}{f:Env}{a:Act}{Q:AV→Ap→Prop}(o:gr P A_ f b=δ v)(j:OU (θ H) v b t p)(B:Q t p):
  ∀(i:List Deferred)(w:World),i.Nodup->(∀d∈i,∃D_,d={target:=.collected D_,args:= #[]}/\z.heap.size<=D_/\w.heap[D_]?=δ (.deferred (δ [])))->
   St X h N f b a w->Gq g H z h b w->
   LeavesInM Fence.wide 0 P A_ a.tmps (λe u=>∃c v h b,e=.returned c/\Q v b/\IC X h b u/\Bi (cx X h b u) v c/\Gq g H z h b u) i .returning w
 |[],w,_,_,s,x=>by obtain⟨c,m,l⟩:=AB5 s o;obtain⟨J,n,r,I,K⟩:=j.2 X h w c s.sim l;exact⟨c,m,c,t,J,p,rfl,B,n,r,E4.ext rfl j.1 I K x⟩
 |d::i,w,hnd,hds,s,x=>by obtain⟨D_,rfl,G,q⟩:=hds d k!;simp only[Gg]at hnd;refine⟨k!,.inl ⟨D_,_,rfl,run_takeDeferred q,?_⟩⟩;have C:=s.sim.shut (y:=ε) q;refine nt o j B i _ hnd.2 (λF k=>?_) ⟨C.2,s.env.later C.1,s.size⟩ (x.shut G q);obtain⟨E,rfl,o,j⟩:=hds F (CN _ k);refine⟨E,rfl,o,?_⟩;rw[World.putObj_heap_other,j];rintro rfl;exact hnd.1 k
theorem J9(E:P.funcs[O]?=δ V)(C:V.body=δ r)(hn:θ f≤V.ntmps)
  (I:JU P V.ntmps r (env0 0 f) H (AIX P V (θ H) B)):ET P O f H B:=by
 intro X g w a s M hr;have D_:OT (cx X g H w) (env0 0 f) {tmps:=a++Array.replicate (V.ntmps-a.size) undef,defers:=[]}:=by
  intro t v m;obtain⟨_,N⟩:=xm m;have G:t<θ f:=q!
  have L:a[t]?=δ (a[t]' o!):=Nr o!;have:(a++Array.replicate (V.ntmps-a.size) undef).getD t undef=a[t]' o!:=by simp_all[Xl]
  grind
 refine(callsIn_wide (n:=0)).1 (callsIn_of_wp_marks E C trivial (wpIn_mono (I ε X g {tmps:=a++Array.replicate (V.ntmps-a.size) undef,defers:=[]} w ⟨s,D_,w!⟩ (λl e=>by cases e)) ?_));rintro e z i ⟨u,j,d,q,J,K,A_,c,y,x⟩;have k:∀v h b,gr P V j d=δ v->OU (θ H) v d h b->B h b->LeavesInM Fence.wide 0 P V z.tmps (λe i=>∃r v u d,e=.returned r/\B v d/\IC X u d i/\Bi (cx X u d i) v r/\Gq g H w u d i) z.defers .returning i:=by intro v h b o p F;rw[c,Dl];exact nt o p F A_ i y x J K
 cases e with
 |normal=>obtain⟨v,h,b,o,p,F⟩:=q;exact k v h b o p F
 |ret=>obtain⟨v,h,b,o,p,F⟩:=q;exact k v h b o p F
 |_=>exact q.elim
def Enters(P:Program)(F:FuncId):Bool:=
 match P.funcs[F]? with
 |some fn=>fn.body.isSome&& !(fn.name== "runtime.NumGoroutine")
 |none=>false
def gR(h:Enters P O=ζ)(args:Array Value)(w:World):(callFunc O args).run P w=.ok (.enter O args) w:=by unfold Enters at h;split at h;rename_i a c;unfold callFunc;cases b:a.body<;>simp_all;cases h
def E5.ren(ρ:Nat->Nat):E5->E5
 |.dead=>.dead
 |.live g cs=>.live g (AV.renL ρ cs)
 |.lp L=>.lp {L with env:=L.env.map λp=>(p.1,p.2.ren ρ)}
 |.mp k es=>.mp k es
 |.it n s=>.it n s
def E5.idsAll(p:Nat->Bool):E5->Bool
 |.dead=>ζ
 |.live _ cs=>AV.idsAllL p cs
 |.lp L=>L.env.all λq=>q.2.idsAll p
 |.mp _ _=>ζ
 |.it _ _=>ζ
def ZB(H:Ap)(bs:List Nat):Ap:=bs.map λb=>(H.getD b .dead).ren (bs.idxOf ·)
def Sv(H:Ap)(bs:List Nat)(j:Nat):Nat:=if j<θ bs then bs.getD j 0 else θ H+(j-θ bs)
def ah(ρ:Nat->Nat):Ap->List Nat->Ap->Ap
 |H,b::bs,e::es=>ah ρ (H.set b (e.ren ρ)) bs es
 |H,_,_=>H
def Uf(H:Ap)(bs:List Nat)(Hc:Ap):Ap:=ah (Sv H bs) H bs Hc++(Hc.drop (θ bs)).map (E5.ren (Sv H bs))
def Sa(c:Nat->Nat):∀(bs:List Nat)(H a:Ap),(ah c H bs a).length=θ H
 |[],H,a=>by cases a<;>rfl
 |b::bs,H,[]=>rfl
 |b::bs,H,e::es=>by simp only[ah];rw[Sa c bs];simp
def gS(c:Nat->Nat){id:Nat}:∀(bs:List Nat)(H a:Ap),id∉bs->(ah c H bs a)[id]?=H[id]?
 |[],H,a,_=>by cases a<;>rfl
 |b::bs,H,[],_=>rfl
 |b::bs,H,e::es,h=>by simp only[A1,not_or]at h;simp only[ah];rw[gS c bs _ _ h.2,DD (λe=>h.1 e.symm)]
def vY(a:Nat->Nat):∀(bs:List Nat)(H c:Ap)(j b:Nat),bs.Nodup->bs[j]?=δ b->b<θ H->θ bs<=θ c->(ah a H bs c)[b]?=(c[j]?).map (E5.ren a)
 |[],_,_,_,_,_,hj,_,_=>by simp at hj
 |b0::bs,H,[],_,_,_,_,_,hl=>by simp at hl
 |b0::bs,H,e::es,j,b,hnd,hj,hb,hl=>by
  simp only[Gg]at hnd;simp only[ah];cases j with
  |zero=>simp at hj;subst hj;rw[gS a bs _ _ hnd.1];simp[hb]
  |succ j=>simp at hj;rw[vY a bs _ es j b hnd.2 hj (by simpa using hb) (by simpa using hl)];simp
def nm(h:N∈l):l.idxOf N<θ l:=List.idxOf_lt_length_of_mem h
theorem gH(h:N∈l):l[l.idxOf N]?=δ N:=q!
theorem pJ(a:l.Nodup)(h:l[N]?=δ t):l.idxOf t=N:=q!
section
variable {X:Nat->Prop}{h:Gh}{H:Ap}{w:World}{bs:List Nat}
mutual
theorem qK:∀v:AV,v.idsAll (λ_=>ζ)=ζ
 |.itp _ _=>rfl
 |.ptr _ _ _=>rfl
 |.sl _ _ _ _ _=>rfl
 |.yf _=>rfl
 |.mp _=>rfl
 |.vptr c=>PA c
 |.vs _ d=>PA d
 |.fn _ a b=>by simp only[AV.idsAll,PA a,PA b,XP]
 |.agg c=>PA c
 |.tup c=>PA c
 |.bool _|.int _ _|.str _|.nilp|.nils|.nilf|.any=>rfl
theorem PA:∀l:List AV,AV.idsAllL (λ_=>ζ) l=ζ
 |[]=>rfl
 |v::r=>by simp only[AV.idsAllL,qK v,PA r,XP]
end
def Xs(X:Nat->Prop)(h:Gh)(H:Ap)(bs:List Nat)(B:Nat):Prop:=X B\/∃id e,id∉bs/\H[id]?=δ e/\e≠E5.dead/\h.io id=δ B
def WH(h:Gh)(bs:List Nat):Gh:=⟨λj=>(bs[j]?).bind h.io,λj=>((bs[j]?).map h.gen).getD 0,λj=>((bs[j]?).map h.cap).getD 0⟩
def ya:p.ren F=.dead↔p=.dead:=by cases p<;>simp[E5.ren]
theorem kj(d:(ZB H bs)[N]?=δ p)(c:p≠.dead):∃b a,bs[N]?=δ b/\H[b]?=δ a/\a≠.dead/\p=a.ren (bs.idxOf ·):=by grind[ZB,E5.ren]
theorem AEL(e:(ZB H bs)[N]?=δ (E5.live t f)):∃b a,bs[N]?=δ b/\H[b]?=δ (E5.live t a)/\f=AV.renL (bs.idxOf ·) a:=by obtain⟨b,d,h,j,_,i⟩:=kj e k!;cases d<;>grind[E5.ren]
theorem dR(d:owned (WH h bs) (ZB H bs) N):∃b e,b∈bs/\H[b]?=δ e/\e≠E5.dead/\h.io b=δ N:=by obtain⟨j,e,f,c,a⟩:=d;grind[kj,WH]
theorem ww(x:Nat)(c:τ (x∈bs)=ζ)(_:x<(cx X h H w).n):
  bs.idxOf x<(cx (Xs X h H bs) (WH h bs) (ZB H bs) w).n/\(cx (Xs X h H bs) (WH h bs) (ZB H bs) w).gen (bs.idxOf x)=(cx X h H w).gen x/\(cx (Xs X h H bs) (WH h bs) (ZB H bs) w).io (bs.idxOf x)=(cx X h H w).io x/\(cx (Xs X h H bs) (WH h bs) (ZB H bs) w).cap (bs.idxOf x)=(cx X h H w).cap x:=by
 have a:x∈bs:=q!
 have b:=gH a;refine⟨by simpa[cx,ZB]using nm a,?_,?_,?_⟩<;>simp[cx,WH,b]
def AEM(B:Nat)(a:(cx (Xs X h H bs) (WH h bs) (ZB H bs) w).O B):(cx X h H w).O B:=by rcases a with(a|⟨id,e,_,d,c,f⟩)|a;exact .inl a;exact .inr ⟨id,e,d,c,f⟩;obtain⟨b,e,_,d,c,f⟩:=dR a;exact .inr ⟨b,e,d,c,f⟩
theorem PG{w:World}(h:w.heap[N]?=δ Z):N<w.heap.size:=q!
theorem IC.io_at(s:IC X h H w)(c:H[N]?=δ p)(e:p≠.dead)(b:h.io N=δ t):t<w.heap.size:=by
 cases p with
 |dead=>grind
 |live g l=>obtain⟨_,hn|⟨d,i,T,B,f,a,j,_⟩⟩:=s.live N g l c;rw[show(cx X h H w).io N=h.io N from rfl,b]at hn;grind;rw[show(cx X h H w).io N=h.io N from rfl,b]at a;injection a with p;subst p;exact PG j
 |lp L=>obtain⟨_,d,r,a,j,_⟩:=s.lp N L c;rw[show(cx X h H w).io N=h.io N from rfl,b]at a;injection a with p;subst p;exact PG j
 |mp k q=>obtain⟨d,i,m,_,o,_⟩:=s.bld N _ c rfl;grind[PG]
 |it n seen=>obtain⟨d,m,_,o⟩:=s.bld N _ c rfl;grind[PG]
def cF:(p.ren F).isB=p.isB:=by cases p<;>rfl
def BAt.ren{h h':Gh}{w w':World}{id id':Nat}{ρ:Nat->Nat}(b:BAt h w id p)(g:h'.io id'=h.io id)(a:h'.gen id'=h.gen id)(f:h'.cap id'=h.cap id)(l: ∀B (o:Obj),h.io id=some B->w.heap[B]? =some o->w'.heap[B]? =w.heap[B]?):BAt h' w' id' (p.ren ρ):=by
 cases p with
 |mp k e=>obtain⟨B,i,c,j,d,m⟩:=b;exact⟨B,i,g.trans c,a.trans j,(l B _ c d).trans d,m⟩
 |it n seen=>obtain⟨B,c,j,d⟩:=b;exact⟨B,g.trans c,a.trans j,by rw[f];exact(l B _ c d).trans d⟩
 |_=>trivial
theorem IC.sub(s:IC X h H w)(K:bs.Nodup)(hb:∀b∈bs,((H.getD b .dead).idsAll λid=>decide (id∈bs))=ζ):IC (Xs X h H bs) (WH h bs) (ZB H bs) w where
 out B n:=by have M:¬(∃b e,b∈bs/\H[b]?=δ e/\e≠E5.dead/\h.io b=δ B)->¬owned (WH h bs) (ZB H bs) B:=λhn ho=>hn (dR ho);rcases n with n|⟨id,e,Z,d,o,k⟩;exact⟨(s.out B n).1,M λ⟨b,e,_,d,o,k⟩=>(s.out B n).2 ⟨b,e,d,o,k⟩⟩;exact⟨s.io_at d o k,M λ⟨b,e',hm,x,Q,C⟩=>Z (s.inj id b e e' B d x o Q k C▸hm)⟩
 live j g cs hj:=by
  obtain⟨b,A_,a,D_,rfl⟩:=AEL hj;obtain⟨Y,J⟩:=s.live b g A_ D_;refine⟨by simpa[cx,WH,a]using Y,?_⟩;rcases J with⟨hn,rfl⟩|⟨B,N,T,fz,f,y,c,G,ad,W,l⟩;exact .inl ⟨by simpa[cx,WH,a]using hn,rfl⟩;refine .inr ⟨B,N,T,fz,f,by simpa[cx,WH,a]using y,c,by simpa[cx,WH,a]using G,by rw[OK,B7];exact ad,W,?_⟩;intro i v z;rw[OK,B6]at z;cases hu:A_[i]? with
  |none=>rw[hu]at z;cases z
  |some u=>rw[hu]at z;simp only[Bd,Al]at z;subst z;obtain⟨d,k,x⟩:=l i u hu;refine⟨d,k,Bi.ren (p:=λid=>decide (id∈bs)) (λid=>ww id) rfl AEM x ?_⟩;have:=hb b (BM a);grind[Mp,E5.idsAll]
 lp j L hj:=by
  obtain⟨b,P,a,D_,o,I⟩:=kj hj k!;cases P with
  |dead=>exact(o rfl).elim
  |live g cs=>simp[E5.ren]at I
  |mp=>simp[E5.ren]at I
  |it=>simp[E5.ren]at I
  |lp L0=>simp only[E5.ren,E5.lp.injEq]at I;subst I;obtain⟨Y,B,r,y,c,d,k,x,C,h5,h6,h7⟩:=s.lp b L0 D_;refine⟨by simpa[cx,WH,a]using Y,B,r,by simpa[cx,WH,a]using y,c,d,k,x,C,h5,h6,λt v m=>?_⟩;obtain⟨q,hq,e⟩:=Bk.1 m;simp only[EI]at e;obtain⟨rfl,rfl⟩:=e;refine⟨(h7 q.1 q.2 hq).1,Bi.ren (p:=λid=>decide (id∈bs)) (λid=>ww id) rfl AEM (h7 q.1 q.2 hq).2 ?_⟩;have:=hb b (BM a);grind[E5.idsAll,List.all_eq_true]
 inj i i' e e' B d k hn1 hn2 x C:=by obtain⟨b,c0,E,R,U,_⟩:=kj d hn1;obtain⟨b',O,F,S,V,_⟩:=kj k hn2;have e:=s.inj b b' c0 O B R S U V (by simpa[WH,E]using x) (by simpa[WH,F]using C);subst e;rw[<-pJ K E,<-pJ K F]
 bld j e hj n:=by obtain⟨b,P,a,D_,o,rfl⟩:=kj hj (by rintro rfl;cases n);rw[cF]at n;exact(s.bld b P D_ n).ren (by simp[WH,a]) (by simp[WH,a]) (by simp[WH,a]) (λ_ _ _ _=>rfl)
def NW(h:Gh)(H:Ap)(bs:List Nat)(hc:Gh):Gh:=
 let pick {α:Type} (f fc:Nat->α) (id:Nat):α:=if id∈bs then fc (bs.idxOf id)else if id<θ H then f id else fc (θ bs+(id-θ H))
 ⟨pick h.io hc.io,pick h.gen hc.gen,pick h.cap hc.cap⟩
def lV:(Uf H bs S).length=θ H+(θ S-θ bs):=by simp[Uf,Sa]
def YS(h:bs.Nodup)(k:θ bs≤θ S)(a:(Uf H bs S)[N]?=δ p):
  (N∉bs/\N<θ H/\H[N]?=δ p)\/∃j f,N=Sv H bs j/\S[j]?=δ f/\p=f.ren (Sv H bs):=by
 unfold Uf at a;rcases Ar N (θ H) with b|b;rw[CO (by rw[Sa];exact b)]at a;by_cases g:N∈bs;have i:=gH g;rw[vY _ bs H S _ N h i b k]at a;cases d:S[bs.idxOf N]? with
 |none=>rw[d]at a;cases a
 |some f=>rw[d]at a;simp only[Bd,Al]at a;refine .inr ⟨bs.idxOf N,f,?_,d,a.symm⟩;unfold Sv;rw[C! (nm g),Qy,i];rfl
 rw[gS _ bs H S g]at a;exact .inl ⟨g,b,a⟩;rw[Ce (by rw[Sa];exact b),Sa,B6,Iu]at a;cases d:S[θ bs+(N-θ H)]? with
 |none=>rw[d]at a;cases a
 |some f=>rw[d]at a;simp only[Bd,Al]at a;refine .inr ⟨_,f,?_,d,a.symm⟩;unfold Sv;rw[D! o!];omega
theorem bA{hc:Gh}(f:bs.Nodup)(a:∀b∈bs,b<θ H)(j:Nat)(g:j<θ S):
  Sv H bs j<(Uf H bs S).length/\(NW h H bs hc).gen (Sv H bs j)=hc.gen j/\(NW h H bs hc).io (Sv H bs j)=hc.io j/\(NW h H bs hc).cap (Sv H bs j)=hc.cap j:=by
 rw[lV];unfold Sv;split;grind[NW];have c:θ H+(j-θ bs)∉bs:=λc=>by have:=a _ c;omega
 have e:θ bs+(θ H+(j-θ bs)-θ H)=j:=o!
 simp only[NW,c,if_false,show¬(θ H+(j-θ bs)<θ H)from by omega,e,and_true];omega
theorem mX(c:bs.Nodup)(k:∀b∈bs,b<θ H)(r:θ bs≤θ S)(s:owned (NW h H bs Q) (Uf H bs S) N):
  (∃id e,id∉bs/\H[id]?=δ e/\e≠E5.dead/\h.io id=δ N)\/owned Q S N:=by
 obtain⟨id,e,o,l,a⟩:=s;rcases YS c r o with⟨u,p,t⟩|⟨j,m,rfl,q,d⟩;grind[NW];have i:j<θ S:=q!
 rw[(bA (h:=h) (hc:=Q) c k j i).2.2.1]at a;exact .inr ⟨j,m,q,λn=>l (d.trans (ya.2 n)),a⟩
theorem Gq.back(l:bs.Nodup)(k:∀b∈bs,b<θ H)(x:Gq (WH h bs) (ZB H bs) w Q S G):Gq h H w (NW h H bs Q) (Uf H bs S) G:=by
 have r:θ bs<=θ S:=by have:=x.n;simpa[ZB]using this
 refine⟨x.os,x.tape,x.output,x.size,λB p hn=>x.keep B p λa=>?_,?_,?_,?_,?_,x.loops⟩;obtain⟨b,e,_,g,f,i⟩:=dR a;exact hn ⟨b,e,g,f,i⟩;rw[lV];omega;intro id c;by_cases d:id∈bs;have q:=gH d;have:=x.gen (bs.idxOf id) (by simpa[ZB]using nm d);grind[NW,WH];simp[NW,d,c];intro id c;by_cases d:id∈bs;have q:=gH d;have:=x.same (bs.idxOf id) (by simpa[ZB]using nm d);grind[NW,WH];simp[NW,d,c];intro B a;rcases mX l k r a with⟨id,e,_,g,f,i⟩|a;exact .inl ⟨id,e,g,f,i⟩;rcases x.fresh B a with a|a;obtain⟨b,e,_,g,f,i⟩:=dR a;exact .inl ⟨b,e,g,f,i⟩;grind
def Bi.back(g:bs.Nodup)(f:∀b∈bs,b<θ H)(l:θ bs≤θ S)
  (r:Bi (cx (Xs X h H bs) Q S w) d c):Bi (cx X (NW h H bs Q) (Uf H bs S) w) (d.ren (Sv H bs)) c:=by
 refine Bi.ren (x:=cx (Xs X h H bs) Q S w) (y:=cx X (NW h H bs Q) (Uf H bs S) w) (ρ:=Sv H bs) (p:=λ_=>ζ) (λj _ k=>bA (h:=h) (hc:=Q) g f j k) rfl (λB a=>?_) r (qK d);rcases a with a|a;exact .inl (.inl a);rcases mX g f l a with a|a;exact .inl (.inr a);exact .inr a
theorem IC.back(s:IC X h H w)(l:bs.Nodup)(z:∀b∈bs,b<θ H)(x:Gq (WH h bs) (ZB H bs) w Q S G)
  (sc:IC (Xs X h H bs) Q S G):IC X (NW h H bs Q) (Uf H bs S) G:=by
 have Y:θ bs<=θ S:=by have:=x.n;simpa[ZB]using this
 have xb:=Gq.back (h:=h) l z x;have M:∀{id:Nat}{e:E5}{B:Nat}{o:Obj},id∉bs->H[id]?=δ e->e≠.dead->h.io id=δ B->w.heap[B]?=δ o->G.heap[B]?=δ o:=by intro id e B o y E ag c d;refine(x.keep B (PG d) λho=>?_).trans d;obtain⟨b,e',al,I,h0,C⟩:=dR ho;exact y (s.inj id b e e' B E I ag h0 c C▸al)
 have lt:∀{j:Nat}{D_:E5},S[j]?=δ D_->j<θ S:=by intro j D_ F;rcases Ar j (θ S) with A_|A_;exact A_;grind[List.getElem?_eq_none]
 refine⟨λB O=>⟨C2 (s.out B O).1 x.size,λho=>?_⟩,λid g cs U=>?_,λid L U=>?_,λid ao e e' B N A_ ad af I C=>?_,λid e U O=>?_⟩;rcases mX l z Y ho with⟨id,e,_,N,h0,A_⟩|ho;exact(s.out B O).2 ⟨id,e,N,h0,A_⟩;exact(sc.out B (.inl O)).2 ho;rcases YS l Y U with⟨y,k,E⟩|⟨j,D_,rfl,F,a⟩;obtain⟨W,K⟩:=s.live id g cs E;refine⟨by simpa[cx,NW,y,k]using W,?_⟩;rcases K with⟨hn,rfl⟩|⟨B,n,T,fz,f,c,d,J,Z,V,p⟩;exact .inl ⟨by simpa[cx,NW,y,k]using hn,rfl⟩;refine .inr ⟨B,n,T,fz,f,by simpa[cx,NW,y,k]using c,M y E k! c d,by simpa[cx,NW,y,k]using J,Z,V,λi v P=>?_⟩;obtain⟨N,A_,I⟩:=p i v P;exact⟨N,A_,I.later (xb.later X)⟩;cases D_ with
 |dead=>simp[E5.ren]at a
 |lp L=>simp[E5.ren]at a
 |mp=>simp[E5.ren]at a
 |it=>simp[E5.ren]at a
 |live g0 R=>
  simp only[E5.ren,E5.live.injEq]at a;obtain⟨rfl,rfl⟩:=a;obtain⟨_,r1,r2,r3⟩:=bA (h:=h) (hc:=Q) l z j (lt F);obtain⟨W,K⟩:=sc.live j g R F;refine⟨r1.trans W,?_⟩;rcases K with⟨hn,rfl⟩|⟨B,n,T,fz,f,c,d,J,Z,V,p⟩;exact .inl ⟨r2.trans hn,rfl⟩;refine .inr ⟨B,n,T,fz,f,r2.trans c,d,J.trans r3.symm,by rw[OK,B7];exact Z,V,λi v P=>?_⟩;rw[OK,B6]at P;cases hu:R[i]? with
  |none=>rw[hu]at P;cases P
  |some u=>rw[hu]at P;simp only[Bd,Al]at P;subst P;obtain⟨N,A_,I⟩:=p i u hu;exact⟨N,A_,Bi.back l z Y I⟩
 rcases YS l Y U with⟨y,k,E⟩|⟨j,D_,rfl,F,a⟩;obtain⟨W,B,r,c,d,N,A_,I,C,h5,h6,h7⟩:=s.lp id L E;exact⟨by simpa[cx,NW,y,k]using W,B,r,by simpa[cx,NW,y,k]using c,M y E k! c d,N,A_,I,C,h5,h6,λt v m=>⟨(h7 t v m).1,(h7 t v m).2.later (xb.later X)⟩⟩;cases D_ with
 |dead=>simp[E5.ren]at a
 |live g0 R=>simp[E5.ren]at a
 |mp=>simp[E5.ren]at a
 |it=>simp[E5.ren]at a
 |lp L0=>simp only[E5.ren,E5.lp.injEq]at a;subst a;obtain⟨_,r1,r2,r3⟩:=bA (h:=h) (hc:=Q) l z j (lt F);obtain⟨W,B,r,c,d,N,A_,I,C,h5,h6,h7⟩:=sc.lp j L0 F;refine⟨r1.trans W,B,r,r2.trans c,d,N,A_,I,C,h5,h6,λt v m=>?_⟩;obtain⟨q,hq,e⟩:=Bk.1 m;simp only[EI]at e;obtain⟨rfl,rfl⟩:=e;exact⟨(h7 q.1 q.2 hq).1,Bi.back l z Y (h7 q.1 q.2 hq).2⟩
 have key:∀{id:Nat}{e:E5},(Uf H bs S)[id]?=δ e→e≠.dead→(NW h H bs Q).io id=δ B→
   (id∉bs/\H[id]?=δ e/\h.io id=δ B)\/∃j D_,id=Sv H bs j/\S[j]?=δ D_/\D_≠.dead/\Q.io j=δ B:=by
  intro id e U ag c;rcases YS l Y U with⟨y,k,E⟩|⟨j,D_,rfl,F,a⟩;exact .inl ⟨y,E,by simpa[NW,y,k]using c⟩;exact .inr ⟨j,D_,rfl,F,λh0=>ag (a.trans (ya.2 h0)),by rw[<-(bA (h:=h) (hc:=Q) l z j (lt F)).2.2.1];exact c⟩
 rcases key N ad I with⟨m1,a1,b1⟩|⟨j1,g1,e1,a1,d1,b1⟩<;>rcases key A_ af C with⟨m2,a2,b2⟩|⟨j2,g2,e2,a2,d2,b2⟩;exact s.inj _ _ _ _ B a1 a2 ad af b1 b2;exact((sc.out B (.inr ⟨_,_,m1,a1,ad,b1⟩)).2 ⟨j2,g2,a2,d2,b2⟩).elim;exact((sc.out B (.inr ⟨_,_,m2,a2,af,b2⟩)).2 ⟨j1,g1,a1,d1,b1⟩).elim;rw[e1,e2,sc.inj _ _ _ _ B a1 a2 d1 d2 b1 b2];rcases YS l Y U with⟨y,k,E⟩|⟨j,D_,rfl,F,rfl⟩;have b:=s.bld id e E O;have a:e.ren (λx=>x)=e:=by cases e<;>simp_all[E5.ren,E5.isB]
 have:=b.ren (h':=NW h H bs Q) (w':=G) (id':=id) (ρ:=λx=>x) (by simp[NW,y,k]) (by simp[NW,y,k]) (by simp[NW,y,k]) (λB o c hb=>(M y E (by rintro rfl;cases O) c hb).trans hb.symm);rwa [a]at this;rw[cF]at O;obtain⟨_,r1,r2,r3⟩:=bA (h:=h) (hc:=Q) l z j (lt F);exact(sc.bld j D_ F O).ren r2 r1 r3 (λ_ _ _ _=>rfl)
end
def nD(env:Env)(c:Call)(first caps:List AV):List AV:=first++c.args.toList.map (BI env)++caps
def fI(P:Program)(s f:Nat):Option (Nat×TypeId×Nat):=
 match P.underlying s with
 |some (.struct fs)=>
  match fs[f]? with
  |some fd=>
   match tI P fd.type with
   |some (_,n)=>δ (fd.offset,fd.type,n)
   |none=>ε
  |none=>ε
 |_=>ε
def eI(P:Program)(t:TypeId):Option (Option Nat×TypeId×Nat):=
 match P.underlying t with
 |some (.array len e)=>(tI P e).map λi=>(δ len,e,i.2)
 |some (.slice e)=>(tI P e).map λi=>(ε,e,i.2)
 |_=>ε
inductive Kd where
 |bool|int (k:IntKind)|str|bytes|other
 deriving DecidableEq
def kd(P:Program)(t:TypeId):Kd:=
 match P.underlying t with
 |some .bool=>.bool
 |some (.int k)=>.int k
 |some .string=>.str
 |some (.slice e)=>match P.underlying e with|some (.int .u8)=>.bytes|_=>.other
 |_=>.other
def S8(H:Ap)(id g:Nat):Bool:=
 match H[id]? with
 |some (.live g' _)=>g'==g
 |_=>η
def IC.cur{w:World}(s:IC X h H w)(a:S8 H N t=ζ):h.gen N=t:=by unfold S8 at a;split at a;rename_i c b d;have:=(s.live N c b d).1;simp at a;exact this.trans a;cases a
def shift(H:Ap)(k:Nat):AV->Option AV
 |.ptr id g off=>if S8 H id g then δ (.ptr id g (off+k))else ε
 |.vptr cs=>if k<=θ cs then δ (.vptr (cs.drop k))else ε
 |_=>ε
theorem vc(s:IC e h H w)(r:Bi (cx e h H w) d c)(b:shift H N d=δ x):
  ∃B a,c=.pointer (δ ⟨B,a,ε⟩)/\Bi (cx e h H w) x (.pointer (δ ((⟨B,a,ε⟩:Addr).add N))):=by
 cases r with
 | @ptr id g a c k o t l=>simp only[shift]at b;split at b;rename_i v;simp at b;subst b;obtain⟨B,i,rfl⟩:=l (s.cur v);refine⟨B,a,rfl,.ptr k o rfl λ_=>⟨B,i,by rw[OZ]⟩⟩;cases b
 | @vptr q B a f n m l X=>simp only[shift]at b;split at b;simp at b;subst b;refine⟨B,a,rfl,?_⟩;rw[OZ];refine .vptr (λj=>f (N+j)) n m (λj d p=>?_) λj d p=>?_;grind;grind;cases b
 |_=>grind[shift]
def Vb(P:Program)(H:Ap)(s f:Nat)(v:AV):Option AV:=
 match fI P s f with
 |some (off,_,n)=>if n=0 then ε else shift H off v
 |none=>ε
def uM(sim:IC e h H w)(r:Bi (cx e h H w) d c)(f:Vb P H N t d=δ x):
  ∃i,(Instr.fieldAt N c t).run P w=.ok i w/\Bi (cx e h H w) x i:=by
 unfold Vb at f;split at f;rename_i k s n a;split at f;cases f;rename_i hn;obtain⟨B,o,rfl,hr⟩:=vc sim r f;unfold fI at a;split at a;rename_i p g;split at a;rename_i l X;split at a;rename_i b m j;obtain⟨rfl,rfl,rfl⟩:=a;refine⟨_,?_,hr⟩;simp[Instr.fieldAt,run_underlying g,X,Instr.sureAddr,fieldPlace,LD j,hn];cases a;cases a;cases a;cases f
def Vg(P:Program)(H:Ap)(t:TypeId)(v:AV)(i:AV):Option AV:=
 match eI P t,i with
 |some (δ len,_,sz),.int _ i=>if 0<=i/\i<len then shift H (i.toNat*sz) v else ε
 |some (ε,_,sz),.int _ i=>
  match v with
  |.vs sz' rows=>if 0<=i/\sz=sz' then(rows[i.toNat]?).map λe=>.vptr e.cells else ε
  |.sl id g sz' off len=>if 0<=i/\i<len/\sz=sz'/\S8 H id g=ζ then δ (.ptr id g (off+i.toNat*sz))else ε
  |_=>ε
 |_,_=>ε
theorem uQ(sim:IC e h H w)(r:Bi (cx e h H w) d c)(v:Bi (cx e h H w) x I)
  (l:Vg P H b d x=δ T):∃O,(Instr.indexAt b c I).run P w=.ok O w/\Bi (cx e h H w) T O:=by
 unfold Vg at l;split at l;rename_i len t sz k n u;cases v;split at l;rename_i A_;obtain⟨B,o,rfl,hr⟩:=vc sim r l;unfold eI at u;split at u;rename_i F y i;cases m:tI P y with
 |none=>rw[m]at u;cases u
 |some p=>rw[m]at u;simp only[Bd,Al,EI]at u;obtain⟨rfl,rfl,rfl⟩:=u;refine⟨_,?_,hr⟩;simp[Instr.indexAt,asIntOf,run_underlying i,Instr.sureAddr,A_,LD m]
 rename_i y i;cases m:tI P y<;>grind;cases u;cases l;rename_i t sz k n u;cases v;have i:∃x,P.underlying b=δ (.slice t)/\tI P t=δ x/\x.2=sz:=by
  unfold eI at u;split at u;rename_i F y i;cases m:tI P y with
  |none=>rw[m]at u;cases u
  |some p=>rw[m]at u;simp at u
  rename_i y i;cases m:tI P y with
  |none=>rw[m]at u;cases u
  |some p=>rw[m]at u;simp only[Bd,Al,EI]at u;obtain⟨_,rfl,rfl⟩:=u;exact⟨p,i,m,rfl⟩
  cases u
 obtain⟨p,i,m,rfl⟩:=i;cases r with
 | @vs N q a cap f C Y S W Z=>
  simp only at l;split at l;rename_i A_;obtain⟨G,rfl⟩:=A_;cases X:q[n.toNat]? with
  |none=>rw[X]at l;cases l
  |some R=>
   rw[X]at l;simp only[Bd,Al]at l;subst l;have s:n.toNat<θ q:=by rcases Ar n.toNat (θ q) with Q|Q;exact Q;rw[Cf Q]at X;cases X
   obtain⟨B,z,rfl,V,U,J⟩:=W (by intro t;rw[t]at s;simp at s);refine⟨.pointer (δ ⟨B,z+n.toNat*p.2,ε⟩),?_,.vptr (λj=>f n.toNat j) V U (λj d M=>?_) λj d M=>Z _ R _ d X M⟩;have E:n<θ q:=o!
   simp[Instr.indexAt,asIntOf,run_underlying i,G,E,LD m,OZ];have:=J _ R j d X M;rw[dr];exact this
  cases l
 | @sl id g N z len c K X h1 J=>simp only at l;split at l;rename_i A_;obtain⟨G,s,rfl,D_⟩:=A_;simp only[Al]at l;subst l;rcases J (sim.cur D_)with⟨_,hl,_,_⟩|⟨B,cap,L,C,_,rfl⟩;omega;refine⟨.pointer (δ ⟨B,z+n.toNat*p.2,ε⟩),?_,.ptr K X rfl λ_=>⟨B,L,rfl⟩⟩;simp[Instr.indexAt,asIntOf,run_underlying i,G,s,LD m,OZ];cases l
 |_=>cases l
 cases l
def tW(P:Program)(t:TypeId)(cs:List AV)(off:Nat):Option AV:=
 match tI P t with
 |some (ζ,n)=>if off+n<=θ cs then δ (.agg ((cs.drop off).take n))else ε
 |some (η,_)=>cs[off]?
 |none=>ε
theorem yT{P:Program}{w:World}(l:k.size=θ f)(o:∀(j:Nat)(c:Value),k[j]?=δ c→c.oneCell'=ζ)
  (m:∀(j:Nat)(v:AV)(c:Value),f[j]?=δ v->k[j]?=δ c->Bi i v c) (a:tW P b f N=δ d):∃c,(part b k N).run P w=.ok c w/\Bi i d c:=by
 unfold tW at a;split at a;rename_i n e;split at a;rename_i x;simp at a;subst a;refine⟨.agg (k.extract N (N+n)),by simp[part,XY e,LD e],.agg w! (λj c h=>?_) λj v c h g=>?_⟩;grind[Array.getElem?_extract];grind;cases a;rename_i n e;have t:N<θ f:=q!
 have g:k[N]?=δ (k[N]' o!):=Nr o!;exact⟨_,by simp[part,XY e,g],m N d _ a g⟩;cases a
def sP(P:Program)(s f:Nat)(v:AV):Option AV:=
 match fI P s f,v with
 |some (off,t,_),.agg cs=>tW P t cs off
 |_,_=>ε
def ABi(r:Bi i d c)(v:sP P N t d=δ x):∃b,(Instr.field N c t).run P w=.ok b w/\Bi i x b:=by
 unfold sP at v;split at v;rename_i o f n s a;cases r with
 | @agg s j g k m=>obtain⟨b,l,hr⟩:=yT (P:=P) (w:=w) g k m v;unfold fI at a;split at a;rename_i q h;split at a;rename_i p e;split at a;simp at a;obtain⟨rfl,rfl,rfl⟩:=a;exact⟨b,by simp[Instr.field,run_underlying h,e,asAgg,l],hr⟩;cases a;cases a;cases a
 cases v
def jn(P:Program)(t:TypeId)(v i:AV):Option AV:=
 match v,i with
 |.agg cs,.int _ i=>
  match eI P t with
  |some (δ len,e,sz)=>if 0<=i/\i<len then tW P e cs (i.toNat*sz)else ε
  |_=>ε
 |.str s,.int _ i=>if kd P t=.str/\0<=i then(s[i.toNat]?).map λb=>.int .u8 b.toNat else ε
 |_,_=>ε
theorem tA{P:Program}(h:kd P b=.str):P.underlying b=δ .string:=by unfold kd at h;grind
theorem AHA(h:kd P b=.int M):P.underlying b=δ (.int M):=by unfold kd at h;grind
theorem ABm(r:Bi i d c)(B:Bi i x I)(a:jn P b d x=δ T):∃f,(Instr.index b c I).run P w=.ok f w/\Bi i T f:=by
 unfold jn at a;split at a;rename_i C k n;cases B;split at a;rename_i len e sz t;split at a;rename_i g;cases r with
 | @agg C D_ m F J=>
  obtain⟨f,G,hr⟩:=yT (P:=P) (w:=w) m F J a;unfold eI at t;split at t;rename_i A_ E o;cases z:tI P E with
  |none=>grind
  |some p=>rw[z]at t;simp only[Bd,Al,EI]at t;obtain⟨rfl,rfl,rfl⟩:=t;exact⟨f,by simp[Instr.index,asIntOf,run_underlying o,g,LD z,G],hr⟩
  simp_all;cases t
 cases a;cases a;rename_i s k n;cases B;cases r with
 | @str s h u=>
  split at a;rename_i g;subst u;cases y:h.data.toList[n.toNat]? with
  |none=>grind
  |some v=>
   rw[y]at a;simp only[Bd,Al]at a;subst a;have j:h[n.toNat]?=δ v:=by
    obtain⟨H,t⟩:=Fp.1 y;have l:n.toNat<h.size:=by simpa using H
    rw[getElem?_pos h n.toNat l];exact E! δ t
   exact⟨.int .u8 v.toNat,by simp[Instr.index,asIntOf,run_underlying (tA g.1),g.2,j],.int _ _⟩
  cases a
 cases a
def ACE(P:Program)(g:TypeId->Option (List Kd)):List Field->Nat->Option (List Kd)
 |[],_=>some []
 |f::r,off=>
  if f.offset=off/\(f.name== "_")=false then
   match g f.type with
   |some ks=>if ks.length=P.cellsOf f.type then(ACE P g r (off+ks.length)).map (ks++ ·)else none
   |none=>none
  else none
def wE(P:Program):Nat->TypeId->Option (List Kd)
 |0,_=>ε
 |d+1,t=>
  match P.underlying t with
  |some .bool=>δ [.bool]
  |some (.int k)=>δ [.int k]
  |some .string=>δ [.str]
  |some (.array n e)=>
   match wE P d e with
   |some ks=>if θ ks=P.cellsOf e/\(P.info? e).isSome then δ (ς n ks).flatten else ε
   |none=>ε
  |some (.struct fs)=>if P.stoodInHeld t then ε else ACE P (wE P d) fs.toList 0
  |_=>ε
def zY:Kd->AV->Bool
 |.bool,.bool _=>ζ
 |.int k,.int k' _=>decide (k=k')
 |.str,.str _=>ζ
 |_,_=>η
def typed:List Kd->List AV->Bool
 |[],[]=>ζ
 |k::ks,v::vs=>zY k v&&typed ks vs
 |_,_=>η
def sEq:AV->AV->Bool
 |.bool a,.bool b=>a==b
 |.int _ a,.int _ b=>a==b
 |.str a,.str b=>a==b
 |_,_=>η
def uL:List AV->List AV->Bool
 |[],[]=>ζ
 |a::as,b::bs=>sEq a b&&uL as bs
 |_,_=>η
variable {J:List Kd}
def XN{b:List Kd}:∀{a:List AV},typed (J++b) a=ζ->typed J (a.take (θ J))=ζ/\typed b (a.drop (θ J))=ζ:=by
 induction J with
 |nil=>intro a h;exact⟨by simp[typed],by simpa using h⟩
 |cons k f e=>
  intro a h;cases a with
  |nil=>simp[typed]at h
  |cons v a=>simp only[am,typed,BN]at h;obtain⟨c,d⟩:=e h.2;exact⟨by simp[typed,h.1,c],by simpa using d⟩
def GZ:∀{a:List Kd}{b:List AV},typed a b=ζ->θ b=θ a
 |[],[],_=>rfl
 |_::_,_::_,h=>by simp only[typed,BN]at h;simp[GZ h.2]
 |[],_::_,h=>by simp[typed]at h
 |_::_,[],h=>by simp[typed]at h
def o0:∀(n:Nat)(c bs:List AV),θ c=θ bs->uL c bs=(uL (c.take n) (bs.take n)&&uL (c.drop n) (bs.drop n))
 |0,c,bs,_=>by simp[uL]
 |n+1,[],[],_=>by simp[uL]
 |n+1,a::c,b::bs,h=>by simp only[Cg,Nat.add_right_cancel_iff]at h;simp only[uL,List.take_succ_cons,List.drop_succ_cons,o0 n c bs h,Bool.and_assoc]
 |n+1,[],_::_,h=>by simp at h
 |n+1,_::_,[],h=>by simp at h
def Over(P:Program)(x:Cx)(t:TypeId)(as:List AV)(a:Value):Prop:=
 ∃(b:Bool)(n:Nat)(cs:List Value),tI P t=δ (b,n)/\θ as=n/\lf x as cs/\(if b then a=.agg cs.toArray else cs=[a])
def EqF(P:Program)(d:Nat)(t:TypeId)(ks:List Kd):Prop:=
 ∀(w:World)(x:Cx)(a b:Value)(as bs:List AV),Over P x t as a->Over P x t bs b->typed ks as=ζ->typed ks bs=ζ->(Op.equalIn d t a b).run P w=.ok (uL as bs) w
def kZ{P:Program}{off n:Nat}{w:World}(hr:lf i f C)(t:tI P b=δ (s,n))(m:s=η→n=1)(o:off+n≤θ f):
  ∃a,(part b C.toArray off).run P w=.ok a w/\Over P i b ((f.drop off).take n) a:=by
 have e:lf i ((f.drop off).take n) ((C.drop off).take n):=by refine⟨by simp[hr.1],λj v c g x=>?_⟩;rw[XT]at g x;split at g;rename_i k;rw[C! k]at x;rw[Iu]at g x;exact hr.2 _ v c g x;cases g
 cases s with
 |true=>refine⟨.agg (C.toArray.extract off (off+n)),by simp[part,XY t,LD t],ζ,n,(C.drop off).take n,t,w!,e,?_⟩;simp only[if_true,Value.agg.injEq];apply Array.toList_inj.1;simp only[Array.toList_extract,uY,Su]
 |false=>
  obtain rfl:=m rfl;have l:off<θ C:=by rw[hr.1];omega
  refine⟨C[off],by simp[part,XY t,l],η,1,(C.drop off).take 1,t,w!,e,?_⟩;rw[D! k!,Qv l];rfl
def mb{d:Nat}(h:wE P d b=δ J):∃t,tI P b=δ (t,P.cellsOf b)/\(t=η->θ J=1):=by
 cases d with
 |zero=>simp[wE]at h
 |succ d=>
  unfold wE at h;unfold tI Program.cellsOf;cases f:P.info? b with
  |none=>
   have a:P.underlying b=ε:=by simp[Program.underlying,f]
   rw[a]at h;cases h
  |some i=>
   cases a:P.underlying b with
   |none=>rw[a]at h;cases h
   |some c=>rw[a]at h;refine⟨_,rfl,?_⟩;cases c<;>simp_all<;>(subst h;rfl)
def yg{P:Program}{d:Nat}{g:TypeId→Option (List Kd)}(C: ∀t i,g t=some i→EqF P d t i∧ ∃b,tI P t=some (b,P.cellsOf t)∧(b=false→i.length=1)){x:Cx}{w:World}{l bs:List AV}{H I:List Value}
  (A_:lf x l H) (B:lf x bs I) (j:l.length=bs.length): ∀(m:List Field) (h:Nat) (i:List Kd),ACE P g m h=some i->h<=l.length->typed i (l.drop h)=true->typed i (bs.drop h)=true->(Op.eqFields d H.toArray I.toArray m).run P w= .ok (uL (l.drop h) (bs.drop h)) w
 |[],h,i,hk,_,ta,tb=>by simp only[ACE,Al]at hk;subst hk;have J:=GZ ta;have K:=GZ tb;rw[EJ J,EJ K];simp[Op.eqFields,uL]
 |f::m,h,i,hk,ho,ta,tb=>by
  simp only[ACE]at hk;split at hk;rename_i L;obtain⟨rfl,k⟩:=L;split at hk;rename_i k1 u;split at hk;rename_i o;cases hr:ACE P g m (f.offset+k1.length)with
  |none=>rw[hr]at hk;cases hk
  |some N=>
   rw[hr]at hk;simp only[Bd,Al]at hk;subst hk;obtain⟨q,y⟩:=XN ta;obtain⟨r,z⟩:=XN tb;obtain⟨s,b,D_,n⟩:=C _ _ u;have E:=GZ q;have O:=GZ r;have v:f.name≠ "_" :=by simpa using k
   obtain⟨a,Q,F⟩:=kZ (P:=P) (w:=w) (off:=f.offset) A_ D_ (λe=>o▸n e) (by rw[<-o];simp at E;omega);obtain⟨c,R,G⟩:=kZ (P:=P) (w:=w) (off:=f.offset) B D_ (λe=>o▸n e) (by rw[<-o];simp at O;omega);rw[<-o]at F G;have p:=s w x a c _ _ F G q r;have M:=yg C (w:=w) A_ B j m (f.offset+k1.length) N hr (by simp at E;omega) (by simpa[MM]using y) (by simpa[MM]using z);rw[o0 k1.length _ _ (by simp[j])];simp only[Op.eqFields,if_pos v,Sem.run_bind,Q,R,p,Result.andThen_ok];cases uL ((l.drop f.offset).take k1.length) ((bs.drop f.offset).take k1.length);simp;simp only[Ca,PY,if_false,Bool.true_and,M,MM]
  cases hk;cases hk;cases hk
def vX{P:Program}{d:Nat}{e:TypeId}{f:List Kd}(o:EqF P d e f){b:Bool}(s:tI P e=δ (b,θ f))(j:b=η→θ f=1){x:Cx}{w:World}{h bs:List AV}{z A_:List Value}
  (u:lf x h z) (v:lf x bs A_) (g:θ h=θ bs):∀(n i:Nat),i*θ f<=θ h->typed (ς n f).flatten (h.drop (i*θ f))=ζ->typed (ς n f).flatten (bs.drop (i*θ f))=ζ->(Op.eqItems d e (θ f) z.toArray A_.toArray (List.range' i n)).run P w=.ok (uL (h.drop (i*θ f)) (bs.drop (i*θ f))) w
 |0,i,_,ta,tb=>by have B:=GZ ta;have C:=GZ tb;rw[EJ (l:=h.drop _) (by simpa using B),EJ (l:=bs.drop _) (by simpa using C)];simp[Op.eqItems,uL]
 |n+1,i,ho,ta,tb=>by
  rw[lq,oX]at ta tb;obtain⟨q,k⟩:=XN ta;obtain⟨r,m⟩:=XN tb;have y:=GZ q;have E:=GZ r;obtain⟨a,H,F⟩:=kZ (P:=P) (w:=w) (off:=i*θ f) u s j (by simp at y;omega);obtain⟨c,I,G⟩:=kZ (P:=P) (w:=w) (off:=i*θ f) v s j (by simp at E;omega);have p:=o w x a c _ _ F G q r;rw[MM]at k m;have t:i*θ f+θ f=(i+1)*θ f:=by rw[D5];omega
  rw[t]at k m;have D_:=vX o s j (w:=w) u v g n (i+1) (by simp at y;omega) k m;rw[o0 (θ f) _ _ (by simp[g]),MM,MM,t];rw[List.range'_succ];simp only[Op.eqItems,Sem.run_bind,H,I,p,Result.andThen_ok];cases uL ((h.drop (i*θ f)).take (θ f)) ((bs.drop (i*θ f)).take (θ f));simp;simp[D_]
def wF{P:Program}(d:Nat):∀(m:Nat)(t:TypeId)(y:List Kd),wE P m t=δ y->EqF P (d+m) t y
 |0,_,_,h=>by simp[wE]at h
 |m+1,t,y,h=>by
  obtain⟨bt,T,_⟩:=mb h;intro w x a b F bs X Y o p;obtain⟨O,n1,xs,c,U,ra,j⟩:=X;obtain⟨Z,n2,ys,r,V,E,l⟩:=Y;rw[c]at r;simp only[Al,EI]at r;obtain⟨rfl,rfl⟩:=r;have I:=GZ o;have J:=GZ p;have g:∀q,P.underlying t=δ q->O=(match q with|.struct _|.array _ _=>ζ|_=>η):=by intro q S;unfold tI at c;rw[S]at c;split at c;rename_i G;injection G with e;subst e;simp only[Al,EI]at c;exact c.1.symm;cases c
  unfold wE at h;split at h;rename_i f;simp only[Al]at h;subst h;have:=g _ f;simp only at this;subst this;simp only[PY,if_false]at j l;subst j l;match F,I,bs,J with
  |[u],_,[v],_=>have C:=ra.2 0 u a rfl rfl;have D_:=E.2 0 v b rfl rfl;simp only[typed,Qu]at o p;cases u<;>simp[zY]at o;cases v<;>simp[zY]at p;cases C;cases D_;rw[show d+(m+1)=(d+m)+1 from rfl,run_equalIn_bool' w (d+m) t _ _ f];simp[uL,sEq]
  rename_i k f;simp only[Al]at h;subst h;have:=g _ f;simp only at this;subst this;simp only[PY,if_false]at j l;subst j l;match F,I,bs,J with
  |[u],_,[v],_=>have C:=ra.2 0 u a rfl rfl;have D_:=E.2 0 v b rfl rfl;simp only[typed,Qu]at o p;cases u<;>simp[zY]at o;cases v<;>simp[zY]at p;cases C;cases D_;subst o p;rw[show d+(m+1)=(d+m)+1 from rfl,run_equalIn_int w (d+m) t _ _ _ _ f];simp[uL,sEq]
  rename_i f;simp only[Al]at h;subst h;have:=g _ f;simp only at this;subst this;simp only[PY,if_false]at j l;subst j l;match F,I,bs,J with
  |[u],_,[v],_=>
   have C:=ra.2 0 u a rfl rfl;have D_:=E.2 0 v b rfl rfl;simp only[typed,Qu]at o p;cases u<;>simp[zY]at o;cases v<;>simp[zY]at p;cases C with
   |str s1 Q=>
    cases D_ with
    |str s2 R=>subst Q R;rw[show d+(m+1)=(d+m)+1 from rfl,run_equalIn_string w (d+m) t _ _ f];simp[uL,sEq,ByteArray.toList_eq]
  rename_i n e f;split at h;rename_i k1 A_;split at h;rename_i H;simp only[Al]at h;subst h;have:=g _ f;simp only at this;subst this;simp only[if_true]at j l;subst j l;obtain⟨N,s⟩:=du.1 H.2;obtain⟨b,L,B⟩:=mb A_;rw[<-H.1]at L;have i:=vX (wF d m e k1 A_) L B (w:=w) ra E o! n 0 k! (by simpa using o) (by simpa using p);rw[show d+(m+1)=(d+m)+1 from rfl,run_equalIn_array w (d+m) _ _ f s,<-H.1,List.range_eq_range'];simpa using i;cases h;cases h;rename_i K f;split at h;cases h;rename_i W;have:=g _ f;simp only at this;subst this;simp only[if_true]at j l;subst j l;have z:P.fieldsOf t=K:=by simp[Program.fieldsOf,f]
  have i:=yg (d:=d+m) (λt y M=>⟨wF d m t y M,mb M⟩) (w:=w) ra E o! K.toList 0 y h k! (by simpa using o) (by simpa using p);rw[show d+(m+1)=(d+m)+1 from rfl,run_equalIn_struct w (d+m) t _ _ (by rw[z];exact f) (by simpa using W),z];simpa using i;cases h
def oZ(op:BinOp)(k:IntKind)(a b:Int):Option AV:=
 match op with
 |.add=>δ (.int k (k.wrap (a+b)))
 |.sub=>δ (.int k (k.wrap (a-b)))
 |.mul=>δ (.int k (k.wrap (a*b)))
 |.quo=>if b=0 then ε else δ (.int k (k.wrap (a.tdiv b)))
 |.rem=>if b=0 then ε else δ (.int k (a.tmod b))
 |.and=>δ (.int k (k.wrap (κ k.bits a&&&κ k.bits b).toNat))
 |.or=>δ (.int k (k.wrap (κ k.bits a|||κ k.bits b).toNat))
 |.xor=>δ (.int k (k.wrap (κ k.bits a^^^κ k.bits b).toNat))
 |.andNot=>δ (.int k (k.wrap (κ k.bits a&&& ~~~κ k.bits b).toNat))
 |.eql=>δ (.bool (a==b))
 |.neq=>δ (.bool (a !=b))
 |.lss=>δ (.bool (τ (a<b)))
 |.leq=>δ (.bool (τ (a<=b)))
 |.gtr=>δ (.bool (τ (a>b)))
 |.geq=>δ (.bool (τ (a>=b)))
 |.shl|.shr=>ε
def zF{a k:Int}(w:World)(h:oZ R M a k=δ d):∃c,(binOp R b (.int M a) (.int M k)).run P w=.ok c w/\Bi i d c:=by
 cases R<;>simp only[oZ]at h<;>(try split at h)<;>first
  |cases h;done
  |(simp at h;subst h;first
    |exact⟨_,by simp[binOp,Op.intArith,Op.intDiv,Op.intBits, *],.int _ _⟩
    |exact⟨_,by simp[binOp,Op.intCmp],.bool _⟩)
def jy(op:BinOp)(k:IntKind)(a b:Int):Option AV:=
 if b<0 then ε else
 match op with
 |.shl=>δ (.int k (k.wrap (a*2^min b.toNat k.bits)))
 |.shr=>δ (.int k (a.fdiv (2^min b.toNat k.bits)))
 |_=>ε
def ACy(P:Program)(t:TypeId):Option (List Kd):=
 if P.eqGuardType P.depth t then ε else
 match wE P 12 t with
 |some ks=>if tI P t=δ (ζ,θ ks)then δ ks else ε
 |none=>ε
def vy(op:BinOp)(a b:List UInt8):Option AV:=
 match op with
 |.add=>if θ a+θ b<=9223372036854775807 then δ (.str (a++b))else ε
 |.eql=>δ (.bool (a==b))
 |.neq=>δ (.bool (a !=b))
 |.lss=>δ (.bool (Op.bytesLess a b))
 |.leq=>δ (.bool (Op.bytesLess a b||a==b))
 |.gtr=>δ (.bool (!(Op.bytesLess a b||a==b)))
 |.geq=>δ (.bool (!Op.bytesLess a b))
 |_=>ε
def xR(P:Program)(op:BinOp)(t:TypeId)(x y:AV):Option AV:=
 match x,y with
 |.int k a,.int k' b=>
  match op with
  |.shl|.shr=>jy op k a b
  |_=>if k=k' then oZ op k a b else ε
 |.bool a,.bool b=>
  match op with
  |.eql=>if kd P t=.bool then δ (.bool (a==b))else ε
  |.neq=>if kd P t=.bool then δ (.bool (!(a==b)))else ε
  |_=>ε
 |.str a,.str b=>vy op a b
 |.agg as,.agg bs=>
  match ACy P t with
  |some ks=>
   if typed ks as=ζ/\typed ks bs=ζ then
    match op with
    |.eql=>δ (.bool (uL as bs))
    |.neq=>δ (.bool (!uL as bs))
    |_=>ε
   else ε
  |none=>ε
 |_,_=>ε
theorem AA3(h:kd P b=.bool):P.underlying b=δ .bool:=by unfold kd at h;grind
def toList_data(t:ByteArray):t.toList=t.data.toList:=ByteArray.toList_eq t
def AEu(w:World)(ra:Bi i d c)(A_:Bi i x I)(h:xR P R b d x=δ T):
  ∃u,(do eqGuard R b m Y c I;binOp R b c I:Sem Value).run P w=.ok u w/\Bi i T u:=by
 unfold xR at h;split at h;rename_i k n y U;cases ra;cases A_;have f:(eqGuard R b m Y (.int k n) (.int y U)).run P w=.ok () w:=by unfold eqGuard;cases R<;>simp
 simp only[Sem.run_bind,f,Result.andThen_ok];split at h;unfold jy at h;split at h;cases h;rename_i C;simp only[Al]at h;subst h;exact⟨_,by simp[binOp,Op.shift,C],.int _ _⟩;unfold jy at h;split at h;cases h;rename_i C;simp only[Al]at h;subst h;exact⟨_,by simp[binOp,Op.shift,C],.int _ _⟩;simp_all[zF];rename_i p q;cases ra;cases A_;have f:(eqGuard R b m Y (.bool p) (.bool q)).run P w=.ok () w:=by unfold eqGuard;cases R<;>simp
 simp only[Sem.run_bind,f,Result.andThen_ok];split at h;split at h;rename_i X;simp only[Al]at h;subst h;exact⟨_,run_eql_bool w b p q (AA3 X),.bool _⟩;cases h;split at h;rename_i X;simp only[Al]at h;subst h;refine⟨_,?_,.bool _⟩;simp only[binOp];simp[run_equal_bool w b p q (AA3 X)];cases h;cases h
 ·rename_i s1 s2;cases ra with
  |str s L=>
   cases A_ with
   |str z O=>
    have f:(eqGuard R b m Y (.string s) (.string z)).run P w=.ok () w:=by unfold eqGuard;cases R<;>simp
    simp only[Sem.run_bind,f,Result.andThen_ok];subst L O;unfold vy at h;split at h;split at h;rename_i S;simp only[Al]at h;subst h;have o:¬(((s.size+z.size:Nat):Int)>IntKind.i64.max):=by
     have Z:θ s.data.toList=s.size:=k!
     have e2:θ z.data.toList=z.size:=k!
     have K:IntKind.i64.max=9223372036854775807:=g!
     rw[K];omega
    exact⟨.string (s++z),by simp only[binOp];simp only[Op.stringOp,D! o];rfl,.str _ k!⟩;cases h;all_goals first
     |cases h;done
     |(simp only[Al]at h
       subst h;exact⟨_,by simp only[binOp];simp[Op.stringOp,toList_data,bne],.bool _⟩)
 rename_i B bs;cases ra with
 | @agg B c V M e=>
  cases A_ with
  | @agg bs I W N vb=>
   split at h;rename_i ks a;unfold ACy at a;split at a;cases a;rename_i G;split at a;rename_i J E;split at a;rename_i r;simp only[Al]at a;subst a;split at h;rename_i t;have F:=wF (P:=P) 9988 12 b J E;have Q:=GZ t.1;have g:=GZ t.2;have l:(Op.equalIn 10000 b (.agg c) (.agg I)).run P w=.ok (uL B bs) w:=
    F w i (.agg c) (.agg I) B bs ⟨ζ,_,c.toList,r,o!,⟨by simpa using V,λj v u H D_=>e j v u H (by simpa using D_)⟩,k!⟩
     ⟨ζ,_,I.toList,r,o!,⟨by simpa using W,λj v u H D_=>vb j v u H (by simpa using D_)⟩,k!⟩ t.1 t.2
   have f:(eqGuard R b m Y (.agg c) (.agg I)).run P w=.ok () w:=run_eqGuard_agg w R b m Y c I (by simpa using G);simp only[Sem.run_bind,f,Result.andThen_ok];split at h;simp only[Al]at h;subst h;exact⟨_,by rw[run_eql_struct,l];rfl,.bool _⟩;simp only[Al]at h;subst h;exact⟨_,by rw[run_neq_struct,l];rfl,.bool _⟩;cases h;cases h;cases a;cases a;cases h
 cases h
def unV(op:UnOp)(v:AV):Option AV:=
 match op,v with
 |.neg,.int k n=>δ (.int k (k.wrap (0-n)))
 |.xor,.int k n=>δ (.int k (k.wrap (κ k.bits (if k.signed then-1 else k.max)^^^κ k.bits n).toNat))
 |.not,.bool b=>δ (.bool !b)
 |_,_=>ε
def AHc{b:UnOp}(w:World)(r:Bi i d c)(h:unV b d=δ x):∃a,(Op.unary b c).run P w=.ok a w/\Bi i x a:=by unfold unV at h;split at h;cases r;simp at h;subst h;exact⟨_,by simp[Op.unary,Op.intArith],.int _ _⟩;cases r;simp at h;subst h;exact⟨_,by simp only[Op.unary];rfl,.int _ _⟩;cases r;simp at h;subst h;exact⟨_,by simp[Op.unary],.bool _⟩;cases h
def rowsOf(H:Ap):AV->Option (List AV)
 |.vs sz rows=>if sz=1 then δ (rows.flatMap AV.cells)else ε
 |.sl id g sz off len=>
  match H[id]? with
  |some (.live g' cs)=>if g=g'/\sz=1/\off+len<=θ cs then δ ((cs.drop off).take len)else ε
  |_=>ε
 |.nils=>δ []
 |_=>ε
def u8s:List AV->Option (List UInt8)
 |[]=>δ []
 |.int .u8 n::r=>(u8s r).map (UInt8.ofNat n.toNat:: ·)
 |_=>ε
def Wm(P:Program)(H:Ap)(src dst:TypeId)(v:AV):Option AV:=
 match kd P dst,v with
 |.int k,.int _ n=>if(P.underlying src).isSome then δ (.int k (k.wrap n))else ε
 |.str,.str s=>if(P.underlying src).isSome then δ (.str s)else ε
 |.str,v=>
  if kd P src=.bytes then
   match rowsOf H v with
   |some cs=>(u8s cs).map AV.str
   |none=>ε
  else ε
 |_,_=>ε
theorem pY{sz:Nat}:∀{rows:List AV},(∀(j:Nat)(e:AV),rows[j]?=δ e->θ e.cells=sz)->(rows.flatMap AV.cells).length=θ rows*sz
 |[],_=>k!
 |e::r,h=>by have b:=h 0 e rfl;have d:=pY (rows:=r) λj a c=>h (j+1) a q!;grind
theorem flat_get{sz:Nat}(c:0<sz):∀{rows:List AV},(∀(j:Nat)(e:AV),rows[j]?=δ e→θ e.cells=sz)→ ∀(i:Nat)(v:AV),(rows.flatMap AV.cells)[i]?=δ v→
  ∃e,rows[i/sz]?=δ e/\e.cells[i%sz]?=δ v
 |e::r,h,i,v,hi=>by
  have d:=h 0 e rfl;simp at hi;rcases Ar i sz with f|a;grind[Nat.div_eq_of_lt,Nat.mod_eq_of_lt];rw[Ce o!,d]at hi;obtain⟨b,l,m⟩:=flat_get c (rows:=r) (λj b n=>h (j+1) b q!) (i-sz) v hi;have g:i/sz=(i-sz)/sz+1:=by rw[<-Nat.add_div_right _ c,Nat.sub_add_cancel a]
  have k:i%sz=(i-sz)%sz:=by rw[<-Nat.add_mod_right (i-sz),Nat.sub_add_cancel a]
  grind
def AAH{P:Program}(s:IC e h H w)(r:Bi (cx e h H w) d c)(hr:rowsOf H d=δ f):
  ∃a n cap V,c=.slice a n cap/\n=θ f/\lf (cx e h H w) f V/\((a=ε/\n=0)\/∃C,a=δ C/\(loadCells C n).run P w=.ok V.toArray w):=by
 cases r with
 |nils=>simp only[rowsOf,Al]at hr;subst hr;exact⟨ε,0,0,[],rfl,rfl,⟨rfl,λ_ _ _ h=>by cases h⟩,.inl ⟨rfl,rfl⟩⟩
 | @vs sz b a cap v D_ ao m Z hv=>
  simp only[rowsOf]at hr;split at hr;rename_i R;subst R;simp only[Al]at hr;subst hr;have l:=pY m;rw[Nat.mul_one]at l;cases b with
  |nil=>
   cases a with
   |none=>exact⟨ε,0,cap,[],rfl,rfl,⟨rfl,λ_ _ _ h=>by cases h⟩,.inl ⟨rfl,rfl⟩⟩
   |some C=>exact⟨δ C,0,cap,[],rfl,rfl,⟨rfl,λ_ _ _ h=>by cases h⟩,.inr ⟨C,rfl,by simp[loadCells,loadCellsFrom]⟩⟩
  |cons Y I=>
   obtain⟨B,i,rfl,hO,hB,L⟩:=Z k!;generalize Y::I=b at*;refine⟨_,θ b,cap,(List.range (θ b)).map λj=>v j 0,rfl,l.symm,⟨by simp[l],λj d K A_ o=>?_⟩,.inr ⟨_,rfl,?_⟩⟩;obtain⟨X,p,E⟩:=flat_get o! m j d A_;rw[Nat.div_one]at p;rw[Nat.mod_one]at E;have t:j<θ b:=by rcases Ar j (θ b) with y|y;exact y;rw[Cf y]at p;cases p
   rw[B6,Qz t]at o;simp only[Bd,Al]at o;subst o;exact hv j X 0 d p E;have:=run_loadCells (P:=P) w ⟨B,i,ε⟩ (θ b) (λj=>v j 0) λj A_=>by have J:b[j]?=δ (b[j]):=As A_;have hl:=m j _ J;have M:(b[j]).cells[0]?=δ ((b[j]).cells[0]' o!):=As o!;rw[OZ];have:=(L j _ 0 _ J M).1;simpa[cx]using this
   exact this
  cases hr
 | @sl id g sz i len c ag hg R L=>
  simp only[rowsOf]at hr;split at hr;rename_i g' x J;split at hr;rename_i z;obtain⟨rfl,rfl,al⟩:=z;simp only[Al]at hr;subst hr;obtain⟨G,F⟩:=s.live id g x J;rcases L G with⟨q,rfl,rfl,rfl⟩|⟨B,cap,q,D_,N,rfl⟩;exact⟨ε,0,0,[],rfl,k!,⟨k!,λ_ _ _ _ h=>by cases h⟩,.inl ⟨rfl,rfl⟩⟩;rcases F with⟨hn,_⟩|⟨Q,W,T,fz,v,u,hb,S,U,af,k⟩;rw[hn]at q;cases q;have:Q=B:=by rw[q]at u;injection u with X;exact X.symm
  subst this;refine⟨_,len,cap,(List.range len).map λj=>v (i+j),rfl,w!,⟨w!,λj d K A_ o=>?_⟩,.inr ⟨_,rfl,?_⟩⟩;have t:j<len:=by rcases Ar j len with y|y;exact y;rw[Cf (by simpa using y)]at o;cases o
  rw[XT,C! t,Iu]at A_;rw[B6,Qz t]at o;simp only[Bd,Al]at o;subst o;exact(k _ d A_).2.2;exact run_loadCells (P:=P) w ⟨Q,i,ε⟩ len (λj=>v (i+j)) λj A_=>by have O:x[i+j]?=δ (x[i+j]' o!):=As o!;rw[OZ,Pc (w:=w) hb];exact(k _ _ O).1
  cases hr;cases hr
 |_=>simp only[rowsOf]at hr;cases hr
theorem yn{x:Cx}:∀{d:List AV}{b:List Value}{bs:List UInt8},lf x d b->u8s d=δ bs->∃e:List Int,b=e.map (Value.int .u8)/\bs=e.map λn=>UInt8.ofNat n.toNat
 |[],b,bs,hr,hb=>by simp only[u8s]at hb;rw[EJ hr.1];simp_all
 |v::d,b,bs,hr,hb=>by
  match b,hr with
  |u::b,hr=>
   have h:=hr.2 0 v u rfl rfl;have l:lf x d b:=⟨by have:=hr.1;simpa using this,λj a c p o=>hr.2 (j+1) a c q! q!⟩
   unfold u8s at hb;split at hb<;>rename_i f<;>(try cases f)<;>try (cases hb;done)
   cases k:u8s d with
   |none=>grind
   |some g=>obtain⟨e,i,m⟩:=yn l k;cases h;exact⟨_::e,by rw[i];rfl,q!⟩
def zT(a:List Int):∀s:ByteArray,(a.foldl (λr n=>r.push (UInt8.ofNat n.toNat)) s).data.toList=s.data.toList++a.map λn=>UInt8.ofNat n.toNat:=by induction a<;>simp_all
theorem ADP{P:Program}(h:kd P b=.bytes):∃e,P.underlying b=δ (.slice e)/\P.underlying e=δ (.int .u8):=by unfold kd at h;grind
theorem AC5(s:IC e h H w)(r:Bi (cx e h H w) d c)(v:Wm P H b W d=δ x):
  ∃y,(convert b W c).run P w=.ok y w/\Bi (cx e h H w) x y:=by
 unfold Wm at v;split at v;rename_i k I n j;split at v;rename_i i;obtain⟨C,i⟩:=du.1 i;simp only[Al]at v;subst v;cases r;exact⟨_,by simp[convert,run_underlying i,run_underlying (AHA j),Conv.intToInt],.int _ _⟩;cases v;rename_i J j;split at v;rename_i i;obtain⟨C,i⟩:=du.1 i;simp only[Al]at v;subst v;cases r with
 |str t F=>exact⟨_,by simp[convert,run_underlying i,run_underlying (tA j)],.str _ F⟩
 cases v;rename_i L j _;split at v;rename_i D_;split at v;rename_i B p;cases q:u8s B with
 |none=>rw[q]at v;cases v
 |some bs=>
  rw[q]at v;simp only[Bd,Al]at v;subst v;obtain⟨o,m,z⟩:=ADP D_;obtain⟨a,n,cap,K,rfl,hn,l,f⟩:=AAH (P:=P) s r p;obtain⟨X,rfl,rfl⟩:=yn l q;rcases f with⟨rfl,E⟩|⟨A_,rfl,g⟩;have:X=[]:=by have G:=l.1;grind[List.length_map,List.eq_nil_of_length_eq_zero]
  subst this;exact⟨.string .empty,by simp[convert,run_underlying m,run_underlying (tA j),run_underlying z,Conv.bytesToString],.str _ rfl⟩;refine⟨_,?_,.str _ (zT X ByteArray.empty)⟩;simp only[convert,Sem.run_bind,run_underlying m,run_underlying (tA j),run_underlying z,Result.andThen_ok];exact run_bytesToString w A_ n cap X (by simpa using g)
 cases v;cases v;cases v
def pL(P:Program)(H:Ap)(t:TypeId)(v:AV):Option AV:=
 match P.underlying t,v with
 |some .string,.str s=>δ (.int .i64 (θ s))
 |some (.array n _),_=>δ (.int .i64 n)
 |some (.slice _),.vs _ rows=>δ (.int .i64 (θ rows))
 |some (.slice _),.sl _ _ _ _ len=>δ (.int .i64 len)
 |some (.slice _),.nils=>δ (.int .i64 0)
 |_,_=>ε
def AFO{P:Program}{w:World}{t ty:TypeId}(s:IC e h H w)(r:Bi (cx e h H w) d c)(b:pL P H t d=δ x):
  ∃f,(Builtin.len_ #[t] ty #[c]).run P w=.ok f w/\Bi (cx e h H w) x f:=by
 unfold pL at b;split at b;rename_i p u;simp only[Al]at b;subst b;cases r with
 |str j m=>
  refine⟨.int .i64 j.size,by simp[Builtin.len_,run_underlying u,goInt],?_⟩;have:θ p=j.size:=by rw[<-m];simp
  rw[this];exact .int _ _
 rename_i n v u;simp only[Al]at b;subst b;exact⟨.int .i64 n,by simp[Builtin.len_,run_underlying u,goInt],.int _ _⟩;rename_i sz i u;simp only[Al]at b;subst b;cases r;exact⟨_,by simp[Builtin.len_,run_underlying u,goInt],.int _ _⟩;rename_i id g sz o len u;simp only[Al]at b;subst b;cases r with
 |sl l X k q=>obtain⟨a,cap,rfl⟩:=k;exact⟨_,by simp[Builtin.len_,run_underlying u,goInt],.int _ _⟩
 rename_i u;simp only[Al]at b;subst b;cases r;exact⟨_,by simp[Builtin.len_,run_underlying u,goInt],.int _ _⟩;cases b
def mmV(mx:Bool):List AV->Option AV
 |[.int k a,.int _ b]=>δ (.int k (if mx then(if b>a then b else a)else(if b<a then b else a)))
 |_=>ε
def ADb{P:Program}{w:World}{mx:Bool}{ts:Array TypeId}{ty:TypeId}(g:Bi i d I)(h:Bi i x c)(a:mmV mx [d,x]=δ T):
  ∃f,((if mx then Builtin.max_ ts ty #[I,c]else Builtin.min_ ts ty #[I,c]):Sem Value).run P w=.ok f w/\Bi i T f:=by
 cases d<;>try (simp[mmV]at a;done)
 cases x<;>try (simp[mmV]at a;done)
 cases g;cases h;simp only[mmV,Al]at a;subst a;cases mx;exact⟨_,by simp[Builtin.min_,Builtin.min2],.int _ _⟩;exact⟨_,by simp[Builtin.max_,Builtin.max2],.int _ _⟩
def mm3:AV->AV->AV->Option AV
 |.int k a,.int _ b,.int _ c=>δ (.int k (if c<(if b<a then b else a)then c else(if b<a then b else a)))
 |_,_,_=>ε
def AFV{P:Program}{w:World}{ts:Array TypeId}{ty:TypeId}{u:AV}{e:Value}(f:Bi i d c)(j:Bi i x I)(k:Bi i T e)(a:mm3 d x T=δ u):
  ∃b,(Builtin.min_ ts ty #[c,I,e]).run P w=.ok b w/\Bi i u b:=by
 unfold mm3 at a;split at a;cases f;cases j;cases k;simp at a;subst a;exact⟨_,by simp[Builtin.min_,Builtin.min2],.int _ _⟩;cases a
def tO:AV->Option Nat
 |.int _ i=>if 0<=i then δ i.toNat else ε
 |_=>ε
def WO(d:Nat):Option AV->Option Nat
 |none=>δ d
 |some v=>tO v
def gT(P:Program)(H:Ap)(t:TypeId)(v:AV)(lo hi mx:Option AV):Option AV:=
 match v with
 |.str s=>
  match WO 0 lo,WO (θ s) hi,mx with
  |some l,δ h,ε=>if kd P t=.str/\l<=h/\h<=θ s then δ (.str ((s.drop l).take (h-l)))else ε
  |_,_,_=>ε
 |.vs sz rows=>
  match WO 0 lo,WO (θ rows) hi,WO (θ rows) mx,eI P t with
  |some l,δ h,δ m,δ (ε,_,sz')=>if sz=sz'/\l<=h/\h<=m/\m<=θ rows/\(mx.isSome=ζ->hi.isSome=ζ)then δ (.vs sz ((rows.drop l).take (h-l)))else ε
  |_,_,_,_=>ε
 |.sl id g sz off len=>
  match WO 0 lo,WO len hi,WO len mx,eI P t with
  |some l,δ h,δ m,δ (ε,_,sz')=>
   if sz=sz'/\0<sz/\l<=h/\h<=m/\m<=len/\S8 H id g=ζ/\(mx.isSome=ζ->hi.isSome=ζ)then
    if l=0 then δ (.sl id g sz off h)else if l=h then δ (.vs sz [])else δ (.sl id g sz (off+l*sz) (h-l))
   else ε
  |_,_,_,_=>ε
 |.nils=>
  match WO 0 lo,WO 0 hi,WO 0 mx,eI P t with
  |some 0,δ 0,δ 0,δ (ε,_,_)=>if mx.isSome=ζ->hi.isSome=ζ then δ .nils else ε
  |_,_,_,_=>ε
 |_=>ε
theorem ABt(r:Bi i d c)(h:tO d=δ N):∃k x,c=.int k x/\0<=x/\x.toNat=N:=by
 cases d<;>try (simp[tO]at h;done)
 cases r;grind[tO]
def run_sliceBound{P:Program}{w:World}{code:BoundsCode}(r:Bi i d c)(h:tO d=δ N)(b:N<=t):(Instr.sliceBound c t code).run P w=.ok N w:=by
 obtain⟨k,x,rfl,a,rfl⟩:=ABt r h;have:x<=t:=o!
 simp[Instr.sliceBound,asIntOf,a,this]
def YW{P:Program}{w:World}{isSlice:Bool}{len cap l h m:Nat}{k j mx:Option AV}{e b cmx:Option Value}(x:∀v,k=δ v→ ∃c,e=δ c∧Bi i v c)(g:k=ε→e=ε)
  (o:∀v,j=δ v->∃c,b=δ c/\Bi i v c) (t:j=ε->b=ε) (z:∀v,mx=δ v->∃c,cmx=δ c/\Bi i v c) (u:mx=ε->cmx=ε)
  (a:WO 0 k=δ l) (q:WO len j=δ h) (D_:WO len mx=δ m) (s:l<=h) (E:h<=m) (J:m<=len) (K:len<=cap) (F:mx.isSome=ζ->j.isSome=ζ):
  (Instr.sliceBounds isSlice len cap e b cmx).run P w=.ok (l,h,if mx.isSome then m else cap) w:=by
 unfold Instr.sliceBounds;cases mx with
 |none=>
  obtain rfl:=u rfl;cases j with
  |none=>
   obtain rfl:=t rfl;simp only[WO,Al]at q;subst q;cases k with
   |none=>obtain rfl:=g rfl;simp only[WO,Al]at a;simp[a]
   |some v=>obtain⟨d,rfl,r⟩:=x v rfl;have n:=λc=>run_sliceBound (P:=P) (w:=w) (code:=c) r a s;simp[n]
  |some A_=>
   obtain⟨B,rfl,y⟩:=o A_ rfl;have p:=λc=>run_sliceBound (P:=P) (w:=w) (code:=c) y q (show h<=cap by omega);cases k with
   |none=>obtain rfl:=g rfl;simp only[WO,Al]at a;simp[a,p]
   |some v=>obtain⟨d,rfl,r⟩:=x v rfl;have n:=λc=>run_sliceBound (P:=P) (w:=w) (code:=c) r a s;simp[p,n]
 |some H=>
  obtain⟨I,rfl,G⟩:=z H rfl;have f:=F rfl;cases j with
  |none=>simp at f
  |some A_=>
   obtain⟨B,rfl,y⟩:=o A_ rfl;have C:=λc=>run_sliceBound (P:=P) (w:=w) (code:=c) G D_ (show m<=cap by omega);have p:=λc=>run_sliceBound (P:=P) (w:=w) (code:=c) y q E;simp only[Sem.run_bind,C,p,Result.andThen_ok,Option.isSome_some,if_true];cases k with
   |none=>obtain rfl:=g rfl;simp only[WO,Al]at a;simp[a]
   |some v=>obtain⟨d,rfl,r⟩:=x v rfl;have n:=λc=>run_sliceBound (P:=P) (w:=w) (code:=c) r a s;simp[n]
theorem QV{P:Program}(a:eI P b=δ (ε,W,N)):P.underlying b=δ (.slice W)/\∃t,tI P W=δ (t,N):=by unfold eI at a;split at a;simp_all;rename_i c d;cases f:tI P c<;>grind;cases a
theorem ACB{lo V q:Option AV}{N L A_:Option Value}(s:IC e h H w)(r:Bi (cx e h H w) d c)
  (K:∀d,lo=δ d->∃c,N=δ c/\Bi (cx e h H w) d c) (G:lo=ε->N=ε)
  (J:∀d,V=δ d->∃c,L=δ c/\Bi (cx e h H w) d c) (F:V=ε->L=ε) (R:∀d,q=δ d->∃c,A_=δ c/\Bi (cx e h H w) d c) (I:q=ε->A_=ε)
  (v:gT P H b d lo V q=δ x):∃c',(Instr.sliceAt b c N L A_).run P w=.ok c' w/\Bi (cx e h H w) x c':=by
 unfold gT at v;split at v;rename_i s';split at v;rename_i l p S O;split at v;rename_i o;obtain⟨hk,h1,U⟩:=o;simp only[Al]at v;subst v;obtain rfl:=I rfl;cases r with
 |str t' ht=>
  have X:θ s'=t'.size:=by rw[<-ht];simp
  rw[X]at O U;have o:=YW (P:=P) (w:=w) (isSlice:=η) (len:=t'.size) (cap:=t'.size) (mx:=ε) (cmx:=ε) K G J F (λ_ h=>by cases h) (λ_=>rfl) S O rfl h1 U (Ai _) (Ai _) (λh=>by cases h);refine⟨.string (t'.extract l p),?_,.str _ ?_⟩;simp only[Instr.sliceAt,Instr.slice,Sem.run_bind,run_underlying (tA hk),Result.andThen_ok,Option.isSome_none,PY,if_false,o,Sem.run_pure];simp_all[uY]
 cases v;cases v;rename_i sz k;split at v;rename_i l p m t ax S O Z he;split at v;rename_i o;obtain⟨rfl,h1,U,h3,h4⟩:=o;simp only[Al]at v;subst v;obtain⟨z,u,y⟩:=QV he;cases r with
 | @vs sz k a cap f C Y ag ha v=>
  have o:=YW (P:=P) (w:=w) (isSlice:=ζ) (len:=θ k) (cap:=cap) K G J F R I S O Z h1 U h3 C h4;have E:∀{j:Nat}{t:AV},((k.drop l).take (p-l))[j]?=δ t->k[l+j]?=δ t:=q!
  have X:((k.drop l).take (p-l)).length=p-l:=w!
  refine⟨.slice (if(if q.isSome then m else cap)=l then a else a.map (·.add (l*sz))) (p-l) ((if q.isSome then m else cap)-l),?_,?_⟩;simp only[Instr.sliceAt,Instr.slice,Sem.run_bind,run_underlying z,Result.andThen_ok,o,LD y,Sem.run_pure];have hM:p<=(if q.isSome then m else cap):=by split<;>omega
  generalize (if q.isSome then m else cap)=M at hM;have T:Bi (cx e h H w) (.vs sz ((k.drop l).take (p-l))) (.slice (if M=l then a else a.map (·.add (l*sz))) ((k.drop l).take (p-l)).length (M-l)):=?_;rw[X]at T;exact T;refine .vs (λj i=>f (l+j) i) (by rw[X];omega) Y (λj t hj=>ag _ t (E hj)) (λa2=>?_) λj t i d hj V=>v _ t i d (E hj) V;have a1:l<p:=by rcases Ar l p with h5|h5;exact h5;simp_all[EJ]
  obtain⟨B,n,rfl,hO,hB,hc⟩:=ha (by intro t;rw[t]at h3;simp at h3;omega);refine⟨B,n+l*sz,?_,hO,hB,λj t i d hj V=>?_⟩;grind[OZ];have:=hc _ t i d (E hj) V;rw[D5]at this;rw[show n+l*sz+(j*sz+i)=n+(l*sz+j*sz+i)from by omega];exact this
 cases v;cases v;rename_i id g sz n len;split at v;rename_i l p m t ax S O Z he;split at v;rename_i o;obtain⟨rfl,Y,h1,U,h3,ad,h4⟩:=o;obtain⟨z,u,y⟩:=QV he;cases r with
 | @sl id g sz n len c W hg a0 hc=>
  rcases hc (s.cur ad)with⟨Q,rfl,rfl,rfl⟩|⟨B,cap,Q,C,D_,rfl⟩;have o:=YW (P:=P) (w:=w) (isSlice:=ζ) (len:=0) (cap:=0) K G J F R I S O Z h1 U h3 (Ai _) h4;have ap:l=0:=o!
  have ao:p=0:=o!
  have ar:m=0:=o!
  subst ap ao ar;simp only[if_true,Al]at v;subst v;refine⟨.slice ε 0 0,?_,.sl W hg ⟨_,_,rfl⟩ λ_=>.inl ⟨Q,rfl,rfl,rfl⟩⟩;simp only[Instr.sliceAt,Instr.slice,Sem.run_bind,run_underlying z,Result.andThen_ok,o,LD y,Sem.run_pure];cases q<;>simp;have o:=YW (P:=P) (w:=w) (isSlice:=ζ) (len:=len) (cap:=cap) K G J F R I S O Z h1 U h3 C h4
  have al:(Instr.sliceAt b (.slice (δ ⟨B,n,ε⟩) len cap) N L A_).run P w=
    .ok (.slice (if(if q.isSome then m else cap)=l then δ ⟨B,n,ε⟩else(δ ⟨B,n,ε⟩:Option Addr).map (·.add (l*sz))) (p-l) ((if q.isSome then m else cap)-l)) w:=by
   simp only[Instr.sliceAt,Instr.slice,Sem.run_bind,run_underlying z,Result.andThen_ok,o,LD y,Sem.run_pure]
  refine⟨_,al,?_⟩;have hM:p<=(if q.isSome then m else cap)/\(if q.isSome then m else cap)<=cap:=by split<;>omega
  generalize (if q.isSome then m else cap)=M at hM;split at v;rename_i hl;subst hl;simp only[Al]at v;subst v;refine .sl W hg ⟨_,_,rfl⟩ λ_=>.inr ⟨B,M,Q,hM.1,?_,?_⟩;exact C9 (Nat.add_le_add_left (Mu _ hM.2) _) D_;simp[OZ];rename_i hl;split at v;rename_i af;subst af;simp only[Al]at v;subst v;rw[Gi];exact Bi.vs (rows:=[]) (λ_ _=>undef) (Bo _) Y (λ_ _ h=>by simp at h) (λh=>(h rfl).elim) λ_ _ _ _ h=>by simp at h
  rename_i af;simp only[Al]at v;subst v;refine .sl W hg ⟨_,_,rfl⟩ λ_=>.inr ⟨B,M-l,Q,o!,?_,?_⟩;rw[dr,<-D5];have:l+(M-l)=M:=o!
  rw[this];exact C9 (Nat.add_le_add_left (Mu _ hM.2) _) D_;rw[D! o!];simp[OZ]
 cases v;cases v;split at v;rename_i t sz S O Z he;split at v;rename_i h4;simp only[Al]at v;subst v;obtain⟨z,u,y⟩:=QV he;cases r;have o:=YW (P:=P) (w:=w) (isSlice:=ζ) (len:=0) (cap:=0) K G J F R I S O Z (Ai _) (Ai _) (Ai _) (Ai _) h4;refine⟨.slice ε 0 0,?_,.nils⟩;simp only[Instr.sliceAt,Instr.slice,Sem.run_bind,run_underlying z,Result.andThen_ok,o,LD y,Sem.run_pure];cases q<;>simp;cases v;cases v;cases v
def AV.solid:AV->Bool
 |.any=>η
 |.tup _=>η
 |_=>ζ
def cells_one(h:c.oneCell'=ζ):c.cells= #[c]:=by cases c<;>first|rfl|(simp[Value.oneCell']at h;done)
theorem WE(r:Bi i d c)(h:d.solid=ζ):Bi i (.agg d.cells) (.agg c.cells):=by
 have one:∀{u:AV}{x:Value},Bi i u x->x.oneCell'=ζ->x.cells= #[x]->u.cells=[u]->Bi i (.agg u.cells) (.agg x.cells):=by intro u x A_ g q z;rw[q,z];refine .agg rfl (λj c s=>?_) λj d c s l=>?_;grind;grind
 cases r with
 |agg o g p=>exact .agg o g p
 |any c=>simp[AV.solid]at h
 |tup o p=>simp[AV.solid]at h
 |ptr v m g l=>exact one (.ptr v m g l) g (cells_one g) rfl
 |sl v m g l=>obtain⟨a,cap,rfl⟩:=g;exact one (.sl v m ⟨a,cap,rfl⟩ l) rfl (cells_one rfl) rfl
 |bool b=>exact one (.bool b) rfl rfl rfl
 |int k n=>exact one (.int k n) rfl rfl rfl
 |str t y=>exact one (.str t y) rfl rfl rfl
 |nilp=>exact one .nilp rfl rfl rfl
 |vptr f a b c x=>exact one (.vptr f a b c x) rfl rfl rfl
 |nils=>exact one .nils rfl rfl rfl
 |vs f a b c x e=>exact one (.vs f a b c x e) rfl rfl rfl
 |fn a b c x=>exact one (.fn a b c x) rfl rfl rfl
 |yf v g l=>exact one (.yf v g l) g (cells_one g) rfl
 |mp v g l=>exact one (.mp v g l) g (cells_one g) rfl
 |itp v w g l=>exact one (.itp v w g l) g (cells_one g) rfl
 |nilf=>exact one .nilf rfl rfl rfl
def WD(cs:List AV)(off:Nat)(vs:List AV):List AV:=cs.take off++vs++cs.drop (off+θ vs)
theorem jx(h:N+θ v<=θ f):(WD f N v).length=θ f:=by grind[WD]
theorem th(h:N+θ v<=θ f)(j:Nat):(WD f N v)[j]?=if N<=j/\j<N+θ v then v[j-N]? else f[j]? :=by grind[WD,List.getElem?_append_left]
inductive ZZ where
 |arr (sz:Nat)
 |str (l:List (Nat×Nat))
def ZZ.at_:ZZ->Nat->Option (Nat×Nat)
 |.arr sz,i=>δ (i*sz,sz)
 |.str l,i=>l[i]?
def YZ(P:Program)(t:TypeId):Option (List AV):=
 match (P.info? t).bind (·.zero)with
 |some z=>if z.cells.toList.all (·.oneCell')then δ (z.cells.toList.map qC)else ε
 |none=>ε
def placesOf(P:Program)(t:TypeId):Option ZZ:=
 match P.underlying t with
 |some (.struct fs)=>(fs.toList.mapM λf=>(P.info? f.type).map λi=>(f.offset,i.size)).map ZZ.str
 |some (.array _ e)=>(P.info? e).map λi=>ZZ.arr i.size
 |_=>ε
def qF(p:ZZ):List AV->List (Nat×AV)->Option (List AV)
 |cs,[]=>δ cs
 |cs,(i,v)::r=>
  match p.at_ i with
  |some (off,size)=>if v.solid=ζ/\θ v.cells=size/\off+size<=θ cs then qF p (WD cs off v.cells) r else ε
  |none=>ε
def rY(P:Program)(t:TypeId)(parts:List (Nat×AV)):Option AV:=
 match YZ P t,placesOf P t with
 |some z,δ p=>(qF p z parts).map AV.agg
 |_,_=>ε
theorem da(x:Cx)(h:YZ P b=δ f):∃i v,P.info? b=δ i/\i.zero=δ v/\Bi x (.agg f) (.agg v.cells):=by
 unfold YZ at h;cases d:P.info? b with
 |none=>grind
 |some i=>
  cases z:i.zero with
  |none=>grind
  |some v=>rw[d]at h;simp only[AD,z]at h;split at h;rename_i a;simp at h;subst h;refine⟨i,v,rfl,z,.agg k! (λj c e=>?_) λj u c e t=>?_⟩;grind;grind[ox];cases h
theorem foldl_set(a:Nat):∀(l:List Value)(k:Nat)(b:Array Value),a+k+θ l≤b.size→
  ((l.zipIdx k).foldl (λb (p:Value×Nat)=>b.setIfInBounds (a+p.2) p.1) b).size=b.size/\∀j,((l.zipIdx k).foldl (λb (p:Value×Nat)=>b.setIfInBounds (a+p.2) p.1) b)[j]?=if a+k<=j/\j<a+k+θ l then l[j-(a+k)]? else b[j]?
 |[],k,b,_=>by simp;intro j c d;omega
 |v::l,k,b,h=>by simp at h⊢;obtain⟨c,d⟩:=foldl_set a l (k+1) (b.setIfInBounds (a+k) v) w!;grind
theorem AED{d:Array Value}{off:Nat}(r:Bi i (.agg f) (.agg k))(p:Bi i (.agg v) (.agg d))(h:off+θ v≤θ f)(a:Array Value)
  (x:a.size=k.size) (g:∀j,a[j]?=if off<=j/\j<off+d.size then d[j-off]? else k[j]?):Bi i (.agg (WD f off v)) (.agg a):=by
 cases r with
 |agg m q t=>
  cases p with
  |agg n e o=>refine .agg (by rw[x,m,jx h]) (λj c l=>?_) λj b c l s=>?_;grind;grind[th]
theorem ut{x:Cx}(p:ZZ):∀(b:List (Nat×AV))(a:List (Nat×Value))(f:List AV)(d:Array Value)(n:List AV),a.map (·.1)=b.map (·.1)→
  (∀(j:Nat)(q:Nat×AV)(o:Nat×Value),b[j]?=δ q->a[j]?=δ o->Bi x q.2 o.2)->Bi x (.agg f) (.agg d)->qF p f b=δ n->
  ∃l,Instr.fill p.at_ d a=δ l/\Bi x (.agg n) (.agg l)
 |[],a,f,d,n,m,_,r,h=>by
  have:a=[]:=t!
  subst this;simp only[qF,Al]at h;subst h;exact⟨d,rfl,r⟩
 |(i,v)::b,(i',c)::a,f,d,n,m,hr,r,h=>by
  simp at m;obtain⟨rfl,m⟩:=m;simp only[qF]at h;split at h;rename_i e size E;split at h;rename_i u;obtain⟨g,rfl,s⟩:=u;have t:=WE (hr 0 (i',v) (i',c) rfl rfl) g;have z:c.cells.size=θ v.cells:=by cases t with|agg h _ _=>exact h
  have w:d.size=θ f:=by cases r with|agg h _ _=>exact h
  have k:=foldl_set e c.cells.toList 0 d q!;have B:c.cells.zipIdx.foldl (λf (p:Value×Nat)=>f.setIfInBounds (e+p.2) p.1) d=(c.cells.toList.zipIdx 0).foldl (λf (p:Value×Nat)=>f.setIfInBounds (e+p.2) p.1) d:=by rw[<-Array.foldl_toList,Array.toList_zipIdx]
  have A_:=AED (off:=e) r t s ((c.cells.toList.zipIdx 0).foldl (λf (p:Value×Nat)=>f.setIfInBounds (e+p.2) p.1) d) k.1 (λj=>q!);obtain⟨l,C,D_⟩:=ut p b a _ _ n m (λj q o F y=>hr (j+1) q o q! q!) A_ h;grind[Instr.fill];cases h;cases h
theorem ABW{u:List (Nat×AV)}{a:Array (Nat×Value)}(E:a.toList.map (·.1)=u.map (·.1))
  (hr:∀(j:Nat)(q:Nat×AV)(A_:Nat×Value),u[j]?=δ q->a.toList[j]?=δ A_->Bi i q.2 A_.2) (h:rY P b u=δ d):∃c,(Instr.build b a).run P w=.ok c w/\Bi i d c:=by
 unfold rY at h;split at h;rename_i z p F t;cases y:qF p z u with
 |none=>grind
 |some H=>
  rw[y]at h;simp at h;subst h;obtain⟨x,v,D_,k,G⟩:=da i F;obtain⟨m,s,C⟩:=ut p u a.toList z v.cells H E hr G y;refine⟨.agg m,run_build w b a m ?_,C⟩;unfold Program.built;rw[D_];unfold placesOf at t;split at t;rename_i B r;rw[r];cases o:B.toList.mapM (λf=>(P.info? f.type).map λx=>(f.offset,x.size))with
  |none=>grind
  |some l=>simp only[k,o];rw[<-s];congr 1;grind[ZZ.at_]
  rename_i n e r;rw[r];cases g:P.info? e with
  |none=>grind
  |some I=>rw[g]at t;simp at t;subst t;simp only[k,g];exact s
  cases t
 cases h
def CT(P:Program)(env:Env)(H:Ap):Op->Option AV
 |.move x|.assign x=>δ (BI env x)
 |.pick c a b=>
  match BI env c with
  |.bool t=>δ (if t then BI env a else BI env b)
  |_=>ε
 |.load t a=>gp P t H (BI env a)
 |.nilCheck x=>
  match BI env x with
  |.ptr id g off=>if S8 H id g then δ (.ptr id g off)else ε
  |.vptr cs=>δ (.vptr cs)
  |.fn (.func f) a b=>δ (.fn (.func f) a b)
  |_=>ε
 |.binOp op t x y _=>xR P op t (BI env x) (BI env y)
 |.unOp op _ x=>unV op (BI env x)
 |.convert s d x=>Wm P H s d (BI env x)
 |.fieldAddr s x f=>Vb P H s f (BI env x)
 |.field s x f=>sP P s f (BI env x)
 |.indexAddr t x i=>Vg P H t (BI env x) (BI env i)
 |.index t x i=>jn P t (BI env x) (BI env i)
 |.slice t x lo hi mx=>gT P H t (BI env x) (lo.map (BI env)) (hi.map (BI env)) (mx.map (BI env))
 |.extract x i=>
  match BI env x with
  |.tup vs=>vs[i]?
  |_=>ε
 |.makeFunc f a b=>δ (.fn f (a.toList.map (BI env)) (b.toList.map (BI env)))
 |.build t parts=>rY P t (parts.toList.map λp=>(p.1,BI env p.2))
 |.call {callee:=.builtin .len,args:=⟨[x]⟩,argTypes:=⟨[t]⟩}=>pL P H t (BI env x)
 |.call {callee:=.builtin .max,args:=⟨[x,y]⟩,.. }=>mmV ζ [BI env x,BI env y]
 |.call {callee:=.builtin .min,args:=⟨[x,y]⟩,.. }=>mmV η [BI env x,BI env y]
 |.call {callee:=.builtin .min,args:=⟨[x,y,z]⟩,.. }=>mm3 (BI env x) (BI env y) (BI env z)
 |_=>ε
def AB1{P:Program}{N:Nat}{X:Nat→Prop}{h:Gh}{env:Env}{H:Ap}{a:Act}{w:World}{o:Oper}{v:AV}(s:St X h N env H a w)(b:CT P env H o.op=δ v):
  ∃c,(execOp a.eval o).run P w=.ok (.value c) w/\Bi (cx X h H w) v c:=by
 have k:=λx=>DY s.env x;have d:∀{m:Sem Value},(∃c,m.run P w=.ok c w/\Bi (cx X h H w) v c)->∃c,(do pure (Next.value (<-m)):Sem Next).run P w=.ok (.value c) w/\Bi (cx X h H w) v c:=by rintro m ⟨c,u,hr⟩;exact⟨c,by simp[u],hr⟩
 unfold execOp;cases e:o.op with
 |move x=>rw[e]at b;simp only[CT,Al]at b;subst b;exact⟨_,rfl,k x⟩
 |assign x=>rw[e]at b;simp only[CT,Al]at b;subst b;exact⟨_,rfl,k x⟩
 |pick c x y=>rw[e]at b;simp only[CT]at b;split at b;rename_i t ht;have u:=k c;rw[ht]at u;simp only[Al]at b;subst b;generalize W:a.eval c=cv at u;cases u;simp only[W,asBool];cases t;exact⟨_,k!,k y⟩;exact⟨_,k!,k x⟩;cases b
 |load t x=>rw[e]at b;simp only[CT]at b;obtain⟨B,ad,D_,E,hl,hr⟩:=yG s.sim (k x) b;exact d ⟨D_,by rw[E];simp[Instr.loadAt,Instr.sureAddr,hl],hr⟩
 |nilCheck x=>
  rw[e]at b;simp only[CT]at b;have z:=k x;split at b;rename_i id g ad E;rw[E]at z;split at b;rename_i M;simp only[Al]at b;subst b;generalize A_:a.eval x=c at z;cases z with
  |ptr Y S n u=>obtain⟨B,af,rfl⟩:=u (s.sim.cur M);exact⟨_,by simp only[A_];rfl,.ptr Y S n u⟩
  cases b;rename_i cs E;rw[E]at z;simp only[Al]at b;subst b;generalize A_:a.eval x=c at z;cases z with
  |vptr f n r U V=>exact⟨_,by simp only[A_];rfl,.vptr f n r U V⟩
  rename_i f p q E;rw[E]at z;simp only[Al]at b;subst b;generalize A_:a.eval x=c at z;cases z with
  |fn n r U V=>exact⟨_,by simp only[A_];rfl,.fn n r U V⟩
  cases b
 |binOp op t x y yt=>rw[e]at b;simp only[CT]at b;exact d (AEu w (k x) (k y) b)
 |unOp op t x=>rw[e]at b;simp only[CT]at b;exact d (AHc w (k x) b)
 |convert p q x=>rw[e]at b;simp only[CT]at b;exact d (AC5 s.sim (k x) b)
 |fieldAddr p x f=>rw[e]at b;simp only[CT]at b;exact d (uM s.sim (k x) b)
 |field p x f=>rw[e]at b;simp only[CT]at b;exact d (ABi (k x) b)
 |indexAddr t x i=>rw[e]at b;simp only[CT]at b;exact d (uQ s.sim (k x) (k i) b)
 |index t x i=>rw[e]at b;simp only[CT]at b;exact d (ABm (k x) (k i) b)
 |slice t x lo hi T=>
  rw[e]at b;simp only[CT]at b;have G:∀(y:Option Operand)(v:AV),y.map (BI env)=δ v->∃c,y.map a.eval=δ c/\Bi (cx X h H w) v c:=by
   intro y v Q;cases y with
   |none=>cases Q
   |some y=>simp only[Bd,Al]at Q;subst Q;exact⟨_,rfl,k y⟩
  have C:∀(y:Option Operand),y.map (BI env)=ε->y.map a.eval=ε:=by
   intro y Q;cases y with
   |none=>rfl
   |some y=>cases Q
  exact d (ACB s.sim (k x) (G lo) (C lo) (G hi) (C hi) (G T) (C T) b)
 |extract x i=>
  rw[e]at b;simp only[CT]at b;have z:=k x;split at b;rename_i vs E;rw[E]at z;generalize u:a.eval x=c at z;cases z with
  | @tup vs R hs Z=>
   have ag:i<θ vs:=by rcases Ar i (θ vs) with r|r;exact r;rw[Cf r]at b;cases b
   have S:R[i]?=δ (R[i]' o!):=Nr o!;refine d ⟨_,?_,Z i v _ b S⟩;simp only[Instr.extract,u,S];rfl
  cases b
 |makeFunc f p q=>
  rw[e]at b;simp only[CT,Al]at b;subst b;have L:∀(p:Array Operand)(j:Nat)(v:AV)(c:Value),(p.toList.map (BI env))[j]?=δ v->(p.map a.eval)[j]?=δ c->Bi (cx X h H w) v c:=by
   intro p j v c J u;rw[B6,PX]at J;rw[aw]at u;cases O:p[j]? with
   |none=>rw[O]at J;cases J
   |some y=>rw[O]at J u;simp only[Bd,Al]at J u;subst J u;exact k y
  exact d ⟨_,rfl,.fn k! k! (L p) (L q)⟩
 |build t I=>
  rw[e]at b;simp only[CT]at b;refine d (ABW ?_ ?_ b);simp;intro j q q' K F;rw[B6,PX]at K;rw[PX,aw]at F;cases O:I[j]? with
  |none=>rw[O]at K;cases K
  |some y=>rw[O]at K F;simp only[Bd,Al]at K F;subst K F;exact k y.2
 |call c=>
  rw[e]at b;simp only[CT]at b;split at b<;>rename_i l<;>first
   |(cases b;done)
   |(cases l;done)
   |skip
  injection l with l;subst l;simp only[resolve,invoke,builtin,Sem.run_bind,Sem.run_pure,Result.andThen_ok,QN,Bn,Hg];obtain⟨D_,n,r⟩:=AFO (ty:=o.type) s.sim (k _) b;exact⟨D_,by rw[n];rfl,r⟩;injection l with l;subst l;simp only[resolve,invoke,builtin,Sem.run_bind,Sem.run_pure,Result.andThen_ok,QN,Bn,Hg];obtain⟨D_,n,r⟩:=ADb (P:=P) (w:=w) (mx:=ζ) (ts:=_) (ty:=o.type) (k _) (k _) b;exact⟨D_,by simp only[if_true]at n;rw[n];rfl,r⟩;injection l with l;subst l;simp only[resolve,invoke,builtin,Sem.run_bind,Sem.run_pure,Result.andThen_ok,QN,Bn,Hg];obtain⟨D_,n,r⟩:=ADb (P:=P) (w:=w) (mx:=η) (ts:=_) (ty:=o.type) (k _) (k _) b;exact⟨D_,by simp only[PY,if_false]at n;rw[n];rfl,r⟩;injection l with l;subst l;simp only[resolve,invoke,builtin,Sem.run_bind,Sem.run_pure,Result.andThen_ok,QN,Bn,Hg];obtain⟨D_,n,r⟩:=AFV (P:=P) (w:=w) (ts:=_) (ty:=o.type) (k _) (k _) (k _) b;exact⟨D_,by rw[n];rfl,r⟩
 |_=>rw[e]at b;simp[CT]at b
def Df{P:Program}{N:Nat}{H:Ap}{v:AV}(b:CT P g H o.op=δ v)(e:K v H):JI P N o g H K:=by apply Ct (by cases f:o.op<;>first|rfl|(rw[f]at b;simp[CT]at b));intro X h a w s Q;obtain⟨c,d,hr⟩:=AB1 s b;unfold Oper.wp;rw[d,Oper.upon_value];exact⟨c,v,h,H,rfl,e,hr,s.sim,Gq.refl _ _ _⟩
section
variable {X:Nat->Prop}{h:Gh}{H:Ap}{w:World}
def Gh.at_(h:Gh)(id:Nat)(io:Option Nat)(gen cap:Nat):Gh:=
 ⟨λi=>if i=id then io else h.io i,λi=>if i=id then gen else h.gen i,λi=>if i=id then cap else h.cap i⟩
def Holds(x:Cx)(cs:List AV)(arr:Array Value)(fz:Nat×Nat):Prop:=
 ∃f:Nat->Value,θ cs<=arr.size/\(∀i,i<arr.size->(τ (fz.1<=i)&&τ (i<fz.2))=η)/\
  ∀(j:Nat)(v:AV),cs[j]?=δ v->arr[j]?=δ (f j)/\(f j).oneCell'=ζ/\Bi x v (f j)
def P1(r:Bi i (.agg f) (.agg k)):Holds i f k (0,0):=by
 cases r with
 |agg l h a=>
  refine⟨λj=>k.getD j undef,o!,λc _=>k!,λj v x=>?_⟩;have b:j<k.size:=by rcases Ar j (θ f) with g|g;omega;rw[Cf g]at x;cases x
  have d:k[j]?=δ (k[j]):=Nr b;have e:k.getD j undef=k[j]:=by simp[b]
  show k[j]?=δ (k.getD j undef)/\(k.getD j undef).oneCell'=ζ/\Bi i v (k.getD j undef);rw[e];exact⟨d,h j _ d,a j v _ x d⟩
def IC.of_ext'(s:IC X h H w)(V:Gq h H w Q S G)
  (key:∀(id:Nat)(e:E5),S[id]?=δ e->e≠.dead->(H[id]?=δ e/\Q.gen id=h.gen id/\Q.io id=h.io id/\Q.cap id=h.cap id/\∀B,h.io id=δ B->G.heap[B]?=w.heap[B]?)\/((∃g K,e=.live g K/\AAT (cx X Q S G) id g K)\/(∃L,e=.lp L/\vn (cx X Q S G) id L)\/(e.isB=ζ/\BAt Q G id e)))
  (inj:∀(id x:Nat)(e W:E5)(B:Nat),S[id]?=δ e->S[x]?=δ W->e≠.dead->W≠.dead->Q.io id=δ B->Q.io x=δ B->id=x):IC X Q S G:=by
 have hl:=V.later X;refine⟨λB l=>⟨C2 (s.out B l).1 V.size,λN=>?_⟩,λid g K I=>?_,λid L I=>?_,inj,λid e I l=>?_⟩;rcases V.fresh B N with N|N;exact(s.out B l).2 N;have:=(s.out B l).1;omega;rcases key id _ I k! with⟨c,y,q,M,z⟩|⟨Y,D_,e,hn⟩|⟨L,e,_⟩|⟨e,_⟩;obtain⟨T,J⟩:=s.live id g K c;refine⟨y.trans T,?_⟩;rcases J with⟨hn,rfl⟩|⟨B,C,T',P,f,d,R,p,U,i,o⟩;exact .inl ⟨q.trans hn,rfl⟩;refine .inr ⟨B,C,T',P,f,q.trans d,(z B d).trans R,p.trans M.symm,U,i,λj v hj=>?_⟩;obtain⟨p1,p2,p3⟩:=o j v hj;exact⟨p1,p2,p3.later hl⟩;injection e with a b;subst a b;exact hn;cases e;cases e;rcases key id _ I k! with⟨c,y,q,M,z⟩|⟨Y,D_,e,hn⟩|⟨L',e,hn⟩|⟨e,_⟩;obtain⟨T,B,r,d,R,u,E,F,A_,h5,h6,Z⟩:=s.lp id L c;exact⟨y.trans T,B,r,q.trans d,(z B d).trans R,u,E,F,A_,h5,h6,λt v m=>⟨(Z t v m).1,(Z t v m).2.later hl⟩⟩;cases e;injection e with a;subst a;exact hn;cases e;rcases key id _ I (by rintro rfl;cases l)with⟨c,y,q,M,z⟩|⟨Y,D_,e,hn⟩|⟨L',e,hn⟩|⟨_,hn⟩;cases e with
 |mp k es=>obtain⟨B,O,u,E,F,A_⟩:=s.bld id _ c l;exact⟨B,O,q.trans u,y.trans E,(z B u).trans F,A_⟩
 |it n seen=>obtain⟨B,u,E,F⟩:=s.bld id _ c l;exact⟨B,q.trans u,y.trans E,by rw[M];exact(z B u).trans F⟩
 |_=>cases l
 subst e;cases l;subst e;cases l;exact hn
def IC.of_ext(s:IC X h H w)(m:Gq h H w Q S G)
  (key:∀(id:Nat)(e:E5),S[id]?=δ e->e≠.dead->(H[id]?=δ e/\Q.gen id=h.gen id/\Q.io id=h.io id/\Q.cap id=h.cap id/\∀B,h.io id=δ B->G.heap[B]?=w.heap[B]?)\/((∃g j,e=.live g j/\AAT (cx X Q S G) id g j)\/∃L,e=.lp L/\vn (cx X Q S G) id L))
  (inj:∀(id c:Nat)(e k:E5)(B:Nat),S[id]?=δ e->S[c]?=δ k->e≠.dead->k≠.dead->Q.io id=δ B->Q.io c=δ B->id=c):IC X Q S G:=
 s.of_ext' m (λi e l f=>(key i e l f).imp id λh=>h.imp id .inl) inj
def Il{e:E5}(a:(H++[p])[N]?=δ e):(N<θ H/\H[N]?=δ e)\/(N=θ H/\e=p):=by rcases Ob N (θ H) with b|rfl|c;rw[CO b]at a;exact .inl ⟨b,a⟩;rw[Ce (Ai _),Gi]at a;simp at a;exact .inr ⟨rfl,a.symm⟩;rw[Cf w!]at a;cases a
def JH{e:E5}(c:N<θ H)(a:(H.set N p)[t]?=δ e):(t≠N/\H[t]?=δ e)\/(t=N/\e=p):=by by_cases b:t=N;subst b;rw[GJ c]at a;simp at a;exact .inr ⟨rfl,a.symm⟩;rw[DD (λe=>b e.symm)]at a;exact .inl ⟨b,a⟩
def Gq.push(o:Obj)(cap:Nat)(E:E5):
  Gq h H w (h.at_ (θ H) (δ w.heap.size) 0 cap) (H++[E]) {w with heap:=w.heap.push o}where
 os:=rfl
 tape:=rfl
 output:=rfl
 size:=k!
 keep B hB _:=by simp[TC,BX hB]
 n:=k!
 gen id hid:=by simp[Gh.at_,BX hid]
 same id hid _:=by simp[Gh.at_,BX hid]
 fresh B ho:=by obtain⟨id,e,b,d,a⟩:=ho;rcases Il b with⟨c,b⟩|⟨rfl,rfl⟩;exact .inl ⟨id,e,b,d,by simpa[Gh.at_,BX c]using a⟩;simp[Gh.at_]at a;exact .inr o!
 loops B r hB:=⟨r,by have:=PG hB;simp[TC,BX this,hB]⟩
def IC.push_any(s:IC X h H w)(o:Obj)(cap:Nat)(E:E5)
  (t:E≠.dead->((∃g l,E=.live g l/\AAT (cx X (h.at_ (θ H) (δ w.heap.size) 0 cap) (H++[E]) {w with heap:=w.heap.push o}) (θ H) g l)\/∃L,E=.lp L/\vn (cx X (h.at_ (θ H) (δ w.heap.size) 0 cap) (H++[E]) {w with heap:=w.heap.push o}) (θ H) L)):
  IC X (h.at_ (θ H) (δ w.heap.size) 0 cap) (H++[E]) {w with heap:=w.heap.push o}:=by
 refine s.of_ext (Gq.push o cap E) (λid e f d=>?_) λid u e v B p q b c i j=>?_;rcases Il f with⟨a,f⟩|⟨rfl,rfl⟩;refine .inl ⟨f,by simp[Gh.at_,BX a],by simp[Gh.at_,BX a],by simp[Gh.at_,BX a],λB k=>?_⟩;have:=s.io_at f d k;simp[TC,BX this];exact .inr (t d);rcases Il p with⟨l1,m⟩|⟨rfl,_⟩<;>rcases Il q with⟨l2,n⟩|⟨rfl,_⟩;exact s.inj _ _ _ _ B m n b c (by simpa[Gh.at_,BX l1]using i) (by simpa[Gh.at_,BX l2]using j);have r:=s.io_at m b (by simpa[Gh.at_,BX l1]using i);simp[Gh.at_]at j;omega;have r:=s.io_at n c (by simpa[Gh.at_,BX l2]using j);simp[Gh.at_]at i;omega;rfl
def IC.push(s:IC X h H w)(a:Array Value)(T:TypeId)(c:Nat×Nat)(g:List AV)(i:Holds (cx X h H w) g a c):
  IC X (h.at_ (θ H) (δ w.heap.size) 0 a.size) (H++[.live 0 g]) {w with heap:=w.heap.push (.cells a T c)}:=by
 refine s.push_any _ _ _ λ_=>.inl ⟨0,g,rfl,?_⟩;obtain⟨f,e,d,b⟩:=i;refine⟨by simp[cx,Gh.at_],.inr ⟨w.heap.size,a,T,c,f,by simp[cx,Gh.at_],by show(w.heap.push (.cells a T c))[w.heap.size]?=_;simp,by simp[cx,Gh.at_],e,d,λj v k=>?_⟩⟩;obtain⟨l,m,n⟩:=b j v k;exact⟨l,m,n.later ((Gq.push _ _ _).later X)⟩
def IC.upd(s:IC X h H w){id g g' B:Nat}{K cs':List AV}{arr:Array Value}{T:TypeId}{fz:Nat×Nat}{w':World}(y:H[id]?=δ (E5.live g K))(hg:g≤g')
  (z:g'=g->h.io id=δ B/\h.cap id=arr.size) (a:h.io id=δ B\/w.heap.size<=B) (hb:w'.heap[B]?=δ (.cells arr T fz)) (N:∀k,k<w.heap.size->k≠B->w'.heap[k]?=w.heap[k]?)
  (R:w'.os=w.os) (C:w'.tape=w.tape) (G:w'.output=w.output) (A_:w.heap.size<=w'.heap.size) (hh:Holds (cx X h H w) cs' arr fz):
  IC X (h.at_ id (δ B) g' arr.size) (H.set id (.live g' cs')) w'/\Gq h H w (h.at_ id (δ B) g' arr.size) (H.set id (.live g' cs')) w':=by
 have q:id<θ H:=by rcases Ar id (θ H) with o|o;exact o;rw[Cf o]at y;cases y
 have u:h.gen id=g:=(s.live id g K y).1;have S:Gq h H w (h.at_ id (δ B) g' arr.size) (H.set id (.live g' cs')) w':=by refine⟨R,C,G,A_,λk O hn=>?_,k!,λi n=>?_,λi n e=>?_,λk ho=>?_,λk r hr=>⟨r,?_⟩⟩;refine N k O λe=>?_;subst e;rcases a with a|a;exact hn ⟨id,_,y,k!,a⟩;omega;by_cases e:i=id;subst e;simp[Gh.at_,u,hg];simp[Gh.at_,e];by_cases Z:i=id;subst Z;simp only[Gh.at_,if_true]at e⊢;have:=z (e.trans u);exact⟨this.1.symm,this.2.symm⟩;simp[Gh.at_,Z];obtain⟨i,d,t,b,o⟩:=ho;rcases JH q t with⟨n,l⟩|⟨rfl,_⟩;exact .inl ⟨i,d,l,b,by simpa[Gh.at_,n]using o⟩;simp[Gh.at_]at o;subst o;rcases a with a|a;exact .inl ⟨i,_,y,k!,a⟩;exact .inr a;have Q:=PG hr;refine(N k Q λe=>?_).trans hr;subst e;rcases a with a|a;rcases(s.live id g K y).2 with⟨hn,_⟩|⟨W,Y,T',ad,f',x,D_,_⟩;rw[show(cx X h H w).io id=h.io id from rfl,a]at hn;cases hn;rw[show(cx X h H w).io id=h.io id from rfl,a]at x;injection x with e;subst e;rw[show(cx X h H w).w.heap=w.heap from rfl,hr]at D_;cases D_;omega
 have hl:=S.later X;have c:∀{i:Nat}{d:E5},i≠id->H[i]?=δ d->d≠.dead->h.io i=δ B->False:=by intro i d n t b m;rcases a with a|a;exact n (s.inj i id d _ B t y b k! m a);have:=s.io_at t b m;omega
 refine⟨s.of_ext S (λi d t b=>?_) (λi i' d L k t o E F I J=>?_),S⟩;rcases JH q t with⟨n,l⟩|⟨rfl,rfl⟩;refine .inl ⟨l,by simp[Gh.at_,n],by simp[Gh.at_,n],by simp[Gh.at_,n],λW m=>N W (s.io_at l b m) λe=>?_⟩;subst e;exact c n l b m;obtain⟨f,P,M,p⟩:=hh;refine .inr (.inl ⟨g',cs',rfl,by simp[cx,Gh.at_],.inr ⟨B,arr,T,fz,f,by simp[cx,Gh.at_],hb,by simp[cx,Gh.at_],P,M,λj v hj=>?_⟩⟩);obtain⟨p1,p2,p3⟩:=p j v hj;exact⟨p1,p2,p3.later hl⟩;rcases JH q t with⟨U,d⟩|⟨rfl,_⟩<;>rcases JH q o with⟨V,L⟩|⟨rfl,_⟩;exact s.inj _ _ _ _ k d L E F (by simpa[Gh.at_,U]using I) (by simpa[Gh.at_,V]using J);simp[Gh.at_]at J;subst J;exact(c U d E (by simpa[Gh.at_,U]using I)).elim;simp[Gh.at_]at I;subst I;exact(c V L F (by simpa[Gh.at_,V]using J)).elim;rfl
end
def ABk(h:w.heap[N]?=δ (.cells k b E))(a:Nat):w.frozen? ⟨N,a,ε⟩=(τ (E.1<=a)&&τ (a<E.2)):=by unfold World.frozen?;rw[h]
def Uj{P:Program}{B off:Nat}{T:TypeId}{h:Nat×Nat}:∀(g:List Value)(i:Nat)(a:Array Value)(w:World),w.heap[B]?=δ (.cells a T h)→off+i+θ g≤a.size→
  (∀j,j<a.size->(τ (h.1<=j)&&τ (j<h.2))=η)->(∀v∈g,v.oneCell'=ζ)->
  ∃d b,(storeCells ⟨B,off,ε⟩ g i).run P w=.ok () d/\d.heap[B]?=δ (.cells b T h)/\b.size=a.size/\(∀j,b[j]?=if off+i<=j/\j<off+i+θ g then g[j-(off+i)]? else a[j]?)/\(∀k,k≠B->d.heap[k]?=w.heap[k]?)/\d.os=w.os/\d.tape=w.tape/\d.output=w.output/\d.heap.size=w.heap.size
 |[],i,a,w,hb,_,_,_=>⟨w,a,rfl,hb,rfl,λj=>by rw[D! k!],λ_ _=>rfl,rfl,rfl,rfl,rfl⟩
 |v::g,i,a,w,hb,hle,hfz,h1=>by
  simp only[Cg]at hle;have o:w.cell? ⟨B,off+i,ε⟩=δ (a[off+i]' o!):=by rw[Pc (w:=w) hb];exact Nr o!
  have p:w.frozen? ⟨B,off+i,ε⟩=η:=by rw[ABk hb];exact hfz _ o!
  have c:(store ⟨B,off+i,ε⟩ v).run P w=.ok () (w.setCell ⟨B,off+i,ε⟩ v):=by rw[run_store P w _ v .plain (h1 v k!),o];simp[p]
  have l:(w.setCell ⟨B,off+i,ε⟩ v).heap[B]?=δ (.cells (a.setIfInBounds (off+i) v) T h):=by simp[World.setCell,aj,hb]
  obtain⟨d,b,r,s,t,x,y,z,A_,C,D_⟩:=Uj (P:=P) (off:=off) g (i+1) (a.setIfInBounds (off+i) v) (w.setCell ⟨B,off+i,ε⟩ v) l w!
   (by simpa using hfz) (λu q=>h1 u (CN _ q))
  refine⟨d,b,?_,s,by rw[t];simp,λj=>?_,λk n=>?_,z,A_,C,by rw[D_];simp[World.setCell]⟩;simp only[storeCells,OZ,Sem.run_bind,c,Result.andThen_ok];exact r;rw[x];by_cases m:j=off+i;subst m;rw[D! o!,C! k!,Array.getElem?_setIfInBounds_self_of_lt o!];simp;by_cases f:off+(i+1)<=j/\j<off+(i+1)+θ g;rw[C! f,C! w!,show j-(off+i)=(j-(off+(i+1)))+1 from by omega];rfl;rw[D! f,D! w!,uU (λe=>m e.symm)];rw[y k n];simp[World.setCell,aj,Oc n]
section
variable {P:Program}{N:Nat}{o:Oper}{env:Env}{H:Ap}{K:AV->Ap->Prop}
def JI.alloc{t:TypeId}(d:o.op=.alloc t)(g:YZ P t=δ f)(z:K (.ptr (θ H) 0 0) (H++[.live 0 f])):JI P N o env H K:=by
 apply Ct (by rw[d];rfl);intro X h a w s Q;obtain⟨i,v,e,c,j⟩:=da (cx X h H w) g;have b:(execOp a.eval o).run P w=.ok (.value (.pointer (δ ⟨w.heap.size,0,ε⟩))) {w with heap:=w.heap.push (.cells v.cells t)}:=by unfold execOp;rw[d];simp[Instr.alloc,zeroValue,typeInfo,e,c,newVar,newRow]
 unfold Oper.wp;rw[b,Oper.upon_value];refine⟨_,_,_,_,rfl,z,?_,s.sim.push v.cells t (0,0) f (P1 j),Gq.push _ _ _⟩;exact .ptr (by simp[cx]) (by simp[cx,Gh.at_]) rfl λ_=>⟨w.heap.size,by simp[cx,Gh.at_],rfl⟩
def JI.box(c:o.op=.box b m)(g:BI env m=d)(f:d.solid=ζ)(e:K (.ptr (θ H) 0 0) (H++[.live 0 d.cells])):JI P N o env H K:=by
 apply Ct (by rw[c];rfl);intro X h a w s Q;have t:=DY s.env m;rw[g]at t;have i:=WE t f;have x:(execOp a.eval o).run P w=.ok (.value (.pointer (δ ⟨w.heap.size,0,ε⟩))) {w with heap:=w.heap.push (.cells (a.eval m).cells b)}:=by unfold execOp;rw[c];simp[Instr.box,newVar,newRow]
 unfold Oper.wp;rw[x,Oper.upon_value];refine⟨_,_,_,_,rfl,e,?_,s.sim.push _ b (0,0) d.cells (P1 i),Gq.push _ _ _⟩;exact .ptr (by simp[cx]) (by simp[cx,Gh.at_]) rfl λ_=>⟨w.heap.size,by simp[cx,Gh.at_],rfl⟩
def JI.store{id g off:Nat}{v:AV}{cs:List AV}{b:Bool}(ho:o.op=.store W m Y)(hx:BI env m=.ptr id g off)(hy:BI env Y=v)(hs:v.solid=ζ)
  (he:H[id]?=δ (E5.live g cs)) (ht:tI P W=δ (b,θ v.cells)) (J:off+θ v.cells<=θ cs) (V:K .any (H.set id (.live g (WD cs off v.cells)))):JI P N o env H K:=by
 apply Ct (by rw[ho];rfl);intro X h a w s Q;have Z:=DY s.env m;rw[hx]at Z;have x:=DY s.env Y;rw[hy]at x;have rz:=WE x hs;obtain⟨I,F⟩:=s.sim.live id g cs he;obtain⟨B,i,S⟩:∃B,h.io id=δ B/\a.eval m=.pointer (δ ⟨B,off,ε⟩):=by
  generalize a.eval m=c at Z;cases Z with
  |ptr af O h1 hc=>obtain⟨B,i,rfl⟩:=hc I;exact⟨B,i,rfl⟩
 rcases F with⟨hn,_⟩|⟨B',D_,T,R,f,z,hb,E,ad,G,t⟩;rw[show(cx X h H w).io id=h.io id from rfl,i]at hn;cases hn;rw[show(cx X h H w).io id=h.io id from rfl,i]at z;injection z with e;subst e;generalize U:a.eval Y=c at x rz;obtain⟨M,A_,y⟩:c.cells.size=θ v.cells/\(∀(j:Nat)(d:Value),c.cells[j]?=δ d->d.oneCell'=ζ)/\(∀(j:Nat)(u:AV)(d:Value),v.cells[j]?=δ u->c.cells[j]?=δ d->Bi (cx X h H w) u d):=by cases rz with|agg p q r=>exact⟨p,q,r⟩
 obtain⟨w',n,p1,p2,p3,p4,p5,p6,p7,p8,p9⟩:=Uj (P:=P) (off:=off) c.cells.toList 0 D_ w hb w! G (λd hd=>by obtain⟨j,C⟩:=Ci hd;exact A_ j d (by simpa using C));have L:(execOp a.eval o).run P w=.ok .skip w':=by unfold execOp;rw[ho];simp only[S,U,Instr.storeAt,Instr.sureAddr,Sem.run_bind,Sem.run_pure,Result.andThen_ok,storeVar,LD ht];rw[D! (by simp[M])];simp only[Result.andThen_ok,p1]
 have hh:Holds (cx X h H w) (WD cs off v.cells) n R:=by
  refine⟨λj=>if off<=j/\j<off+θ v.cells then c.cells.getD (j-off) undef else f j,by rw[jx J];omega,by rw[p3];exact G,λj u C=>?_⟩;rw[th J]at C;rw[p4];simp only[Jz,Dk,M,PX];split at C;rename_i l;rw[C! l,C! l];have hl:j-off<c.cells.size:=o!
  have O:c.cells[j-off]?=δ (c.cells[j-off]):=Nr hl;have e:c.cells.getD (j-off) undef=c.cells[j-off]:=by simp[hl]
  rw[e];exact⟨O,A_ _ _ O,y _ u _ C O⟩;rename_i l;rw[D! l,D! l];exact t j u C
 obtain⟨q1,q2⟩:=s.sim.upd (g':=g) (B:=B) (arr:=n) (T:=T) (fz:=R) (w':=w') he (Ai _) (λ_=>⟨i,by rw[p3];exact E.symm⟩) (.inl i) p2 (λk _ V=>p5 k V) p6 p7 p8 (by rw[p9];exact Ai _) hh;unfold Oper.wp;rw[L,Oper.upon_skip];exact⟨_,_,_,_,rfl,V,.any _,q1,q2⟩
end
section
variable {X:Nat->Prop}{h:Gh}{H:Ap}{w w':World}
def Gq.grow(b:w'.os=w.os)(f:w'.tape=w.tape)(d:w'.output=w.output)(e:w.heap.size<=w'.heap.size)(c:∀k,k<w.heap.size->w'.heap[k]?=w.heap[k]?):Gq h H w h H w':=⟨b,f,d,e,λB a _=>c B a,Ai _,λ_ _=>Ai _,λ_ _ _=>⟨rfl,rfl⟩,λ_ h=>.inl h,λB r a=>⟨r,(c B (PG a)).trans a⟩⟩
def IC.grow(s:IC X h H w)(c:w'.os=w.os)(i:w'.tape=w.tape)(f:w'.output=w.output)(g:w.heap.size<=w'.heap.size)(e:∀k,k<w.heap.size->w'.heap[k]?=w.heap[k]?):IC X h H w':=s.of_ext (Gq.grow c i f g e) (λ_ _ d b=>.inl ⟨d,rfl,rfl,rfl,λB a=>e B (s.io_at d b a)⟩) s.inj
def Gq.virt:Gq h H w (h.at_ (θ H) ε 0 0) (H++[.live 0 []]) w where
 os:=rfl
 tape:=rfl
 output:=rfl
 size:=Ai _
 keep B _ _:=rfl
 n:=k!
 gen id hid:=by simp[Gh.at_,BX hid]
 same id hid _:=by simp[Gh.at_,BX hid]
 fresh B ho:=by obtain⟨id,e,b,d,a⟩:=ho;rcases Il b with⟨c,b⟩|⟨rfl,rfl⟩;exact .inl ⟨id,e,b,d,by simpa[Gh.at_,BX c]using a⟩;simp[Gh.at_]at a
 loops B r hB:=⟨r,hB⟩
theorem IC.virt(s:IC X h H w):IC X (h.at_ (θ H) ε 0 0) (H++[.live 0 []]) w:=by refine s.of_ext Gq.virt (λid e f m=>?_) λid n e o B j k a b c d=>?_;rcases Il f with⟨l,f⟩|⟨rfl,rfl⟩;grind[Gh.at_];exact .inr (.inl ⟨0,[],rfl,by simp[cx,Gh.at_],.inl ⟨by simp[cx,Gh.at_],rfl⟩⟩);rcases Il j with⟨l1,g⟩|⟨rfl,_⟩<;>rcases Il k with⟨l2,i⟩|⟨rfl,_⟩;exact s.inj _ _ _ _ B g i a b (by simpa[Gh.at_,BX l1]using c) (by simpa[Gh.at_,BX l2]using d);simp[Gh.at_]at d;simp[Gh.at_]at c;rfl
def IC.bump(s:IC X h H w){id g:Nat}{cs:List AV}(n:H[id]?=δ (E5.live g cs))(hn:h.io id=ε):
  IC X (h.at_ id ε (g+1) (h.cap id)) (H.set id (.live (g+1) [])) w/\Gq h H w (h.at_ id ε (g+1) (h.cap id)) (H.set id (.live (g+1) [])) w:=by
 have a:id<θ H:=by rcases Ar id (θ H) with b|b;exact b;rw[Cf b]at n;cases n
 have c:h.gen id=g:=(s.live id g cs n).1;have own:∀B,owned (h.at_ id ε (g+1) (h.cap id)) (H.set id (.live (g+1) [])) B->owned h H B:=by rintro B ⟨i,e,j,l,b⟩;rcases JH a j with⟨f,d⟩|⟨rfl,_⟩;exact⟨i,e,d,l,by simpa[Gh.at_,f]using b⟩;simp[Gh.at_]at b
 have u:Gq h H w (h.at_ id ε (g+1) (h.cap id)) (H.set id (.live (g+1) [])) w:=by refine⟨rfl,rfl,rfl,Ai _,λk A_ hn=>rfl,k!,λi f=>?_,λi f e=>?_,λB C=>.inl (own B C),λB r y=>⟨r,y⟩⟩;by_cases e:i=id;subst e;simp[Gh.at_,c];simp[Gh.at_,e];by_cases m:i=id;subst m;simp[Gh.at_,c]at e;simp[Gh.at_,m]
 refine⟨s.of_ext u (λi e j l=>?_) (λi F e m k j b o p q t=>?_),u⟩;rcases JH a j with⟨f,d⟩|⟨rfl,rfl⟩;exact .inl ⟨d,by simp[Gh.at_,f],by simp[Gh.at_,f],by simp[Gh.at_,f],λB z=>rfl⟩;exact .inr (.inl ⟨g+1,[],rfl,by simp[cx,Gh.at_],.inl ⟨by simp[cx,Gh.at_],rfl⟩⟩);rcases JH a j with⟨D_,v⟩|⟨rfl,_⟩<;>rcases JH a b with⟨E,x⟩|⟨rfl,_⟩;exact s.inj _ _ _ _ k v x o p (by simpa[Gh.at_,D_]using q) (by simpa[Gh.at_,E]using t);simp[Gh.at_]at t;simp[Gh.at_]at q;rfl
end
def Jx(H:Ap)(sz:Nat):AV->Option (Nat×List AV)
 |.vs sz' rows=>if sz=sz' then δ (θ rows,rows.flatMap AV.cells)else ε
 |.sl id g sz' off len=>
  match H[id]? with
  |some (.live g' cs)=>if g=g'/\sz=sz'/\off+len*sz<=θ cs then δ (len,(cs.drop off).take (len*sz))else ε
  |_=>ε
 |.nils=>δ (0,[])
 |_=>ε
theorem OR{P:Program}{X:Nat→Prop}{h:Gh}{H:Ap}{w:World}{v:AV}{c:Value}{sz m:Nat}{J:List AV}(s:IC X h H w)(r:Bi (cx X h H w) v c)(N:0<sz)(hr:Jx H sz v=δ (m,J)):
  ∃a cap S,c=.slice a m cap/\θ J=m*sz/\lf (cx X h H w) J S/\(∀u∈S,u.oneCell'=ζ)/\(Builtin.lenOf c).run P w=.ok m w/\(Builtin.firstCells sz m c).run P w=.ok S.toArray w:=by
 cases r with
 |nils=>simp only[Jx,Al,EI]at hr;obtain⟨rfl,rfl⟩:=hr;exact⟨ε,0,[],rfl,k!,⟨rfl,λ_ _ _ h=>by cases h⟩,(λ_ h=>by cases h),rfl,rfl⟩
 | @vs R b a cap f y Z D_ ha hv=>
  simp only[Jx]at hr;split at hr;rename_i F;subst F;simp only[Al,EI]at hr;obtain⟨rfl,rfl⟩:=hr;have q:=pY D_;cases b with
  |nil=>refine⟨a,cap,[],rfl,k!,⟨rfl,λ_ _ _ h=>by cases h⟩,(λ_ h=>by cases h),rfl,?_⟩;cases a<;>simp[Builtin.firstCells,loadCells,loadCellsFrom]
  |cons e0 E=>
   obtain⟨B,k,rfl,hO,hB,L⟩:=ha k!;generalize e0::E=b at*;have K:∀j,j<θ b*sz->∃e v,b[j/sz]?=δ e/\e.cells[j%sz]?=δ v:=by intro j o;have F:j/sz<θ b:=(Nat.div_lt_iff_lt_mul N).2 o;have I:b[j/sz]?=δ (b[j/sz]):=As F;grind[Nat.mod_lt,List.getElem?_eq_getElem]
   refine⟨_,cap,(List.range (θ b*sz)).map λj=>f (j/sz) (j%sz),rfl,q,⟨by simp[q],λj v d o G=>?_⟩,λu O=>?_,rfl,?_⟩;grind[flat_get,Nat.lt_or_ge,List.getElem?_eq_none,List.getElem?_range,Option.some.injEq];grind;have:=run_loadCells (P:=P) w ⟨B,k,ε⟩ (θ b*sz) (λj=>f (j/sz) (j%sz)) λj o=>by obtain⟨e,v,I,Q⟩:=K j o;rw[OZ];have V:=(L _ e _ v I Q).1;rw[Nat.div_add_mod' j sz]at V;exact V
   grind[Builtin.firstCells]
  cases hr
 | @sl id g R k len c ag hg F L=>
  simp only[Jx]at hr;split at hr;rename_i g' l I;split at hr;rename_i x;obtain⟨rfl,rfl,al⟩:=x;simp only[Al,EI]at hr;obtain⟨rfl,rfl⟩:=hr;obtain⟨A_,z⟩:=s.live id g l I;rcases L A_ with⟨n,rfl,rfl,rfl⟩|⟨B,cap,n,y,M,rfl⟩;exact⟨ε,0,[],rfl,k!,⟨k!,λ_ _ _ _ h=>by cases h⟩,(λ_ h=>by cases h),rfl,rfl⟩;rcases z with⟨hn,_⟩|⟨U,ad,T,fz,f,p,hb,W,Y,af,i⟩;rw[hn]at n;cases n;have:U=B:=by rw[n]at p;injection p with e;exact e.symm
  subst this;refine⟨_,cap,(List.range (len*sz)).map λj=>f (k+j),rfl,w!,⟨w!,λj v d o G=>?_⟩,λu O=>?_,rfl,?_⟩;have C:j<len*sz:=by grind[Nat.lt_or_ge,List.getElem?_eq_none]
  rw[XT,C! C,Iu]at o;rw[B6,Qz C]at G;simp only[Bd,Al]at G;subst G;exact(i _ v o).2.2;simp only[Bk,Hh]at O;obtain⟨j,o,rfl⟩:=O;have t:l[k+j]?=δ (l[k+j]' o!):=As o!;exact(i _ _ t).2.1;have:=run_loadCells (P:=P) w ⟨U,k,ε⟩ (len*sz) (λj=>f (k+j)) λj o=>by have t:l[k+j]?=δ (l[k+j]' o!):=As o!;rw[OZ,Pc (w:=w) hb];exact(i _ _ t).1
  simpa[Builtin.firstCells]using this;cases hr;cases hr
 |_=>simp only[Jx]at hr;cases hr
theorem zj(a b:Nat)(h:b<a):Builtin.nextslicecap a b<=2*a+2048:=by grind[Builtin.nextslicecap,Builtin.growBy]
def Ro(P:Program)(e:TypeId):Bool:=
 match P.info? e with
 |some i=>decide (i.bytes<=1048576)&&(match i.zero with|some z=>decide (z.cells.size=i.size)|none=>η)
 |none=>η
section
variable {P:Program}{N:Nat}{o:Oper}{env:Env}{H:Ap}{K:AV->Ap->Prop}
theorem Tq(h:Ro P b=ζ):∃i z,P.info? b=δ i/\i.bytes<=1048576/\i.zero=δ z/\z.cells.size=i.size:=by grind[Ro]
theorem km(h:tI P b=δ (s,N))(a:P.info? b=δ y):y.size=N:=by unfold tI at h;grind
theorem JI.buildSlice{t e:TypeId}{len sz:Nat}{f:Array (Nat×Operand)}{W:List AV}(ho:o.op=.buildSlice t len f)(he:eI P t=δ (ε,e,sz))(ar:0<sz)(a3:Ro P e=ζ)
  (C:f.toList.map (·.1)=List.range len) (a5:f.toList.map (λp=>BI env p.2)=W) (O:∀v∈W,v.solid=ζ/\θ v.cells=sz) (L:len<=4096/\sz<=4096) (hk:K (.vs sz W) H):JI P N o env H K:=by
 apply Ct (by rw[ho];rfl);intro X h a w s Q;obtain⟨ax,b,hi⟩:=QV he;obtain⟨i,z,D_,_,hz,a6⟩:=Tq a3;have A_:=km hi D_;have V:θ W=len:=by have n:=E! θ C;grind[θ]
 let g:List Value:=f.toList.map λp=>a.eval p.2;have U:θ g=len:=by grind[θ]
 have M:∀(j:Nat)(v:AV)(c:Value),W[j]?=δ v->g[j]?=δ c->Bi (cx X h H w) (.agg v.cells) (.agg c.cells)/\θ v.cells=sz:=by
  intro j v c G Y;have hm:=O v (BM G);refine⟨?_,hm.2⟩;subst a5;simp only[g,B6]at G Y;cases Z:f.toList[j]? with
  |none=>rw[Z]at G;cases G
  |some p=>rw[Z]at G Y;simp only[Bd,Al]at G Y;subst G Y;exact WE (DY s.env p.2) hm.1
 have y:∀c∈g,c.cells.size=sz:=by
  intro c Y;obtain⟨j,B⟩:=Ci Y;have E:j<θ W:=by grind[Nat.lt_or_ge,List.getElem?_eq_none]
  obtain⟨n,r⟩:=M j _ c (As E) B;cases n<;>grind
 have R:(f.map λ(q:Nat×Operand)=>(q.1,a.eval q.2)).toList=(g.zipIdx 0).map λx=>(x.2,x.1):=by
  apply Is;intro j;simp only[Array.toList_map,B6,List.getElem?_zipIdx,DA,g];cases Z:f.toList[j]? with
  |none=>rfl
  |some p=>
   have n:(f.toList.map (·.1))[j]?=δ p.1:=by rw[B6,Z];rfl
   rw[C]at n;have E:j<len:=by rcases Ar j len with r|r;exact r;rw[Cf (by simpa using r)]at n;cases n
   rw[Qz E]at n;simp only[Al]at n;simp[n]
 have a2:(g.flatMap λc=>c.cells.toList).length=len*sz:=by
  clear R;have:∀l:List Value,(∀c∈l,c.cells.size=sz)->(l.flatMap λc=>c.cells.toList).length=θ l*sz:=by
   intro l;induction l with
   |nil=>simp
   |cons c l ih=>intro V;simp only[It,Af,Dk,V c k!,ih (λd I=>V d (CN _ I)),Cg,D5];omega
  rw[this g y,U]
 have af:∀(j:Nat)(c:Value)(q:Nat)(d:Value),g[j]?=δ c->c.cells[q]?=δ d->(g.flatMap λc=>c.cells.toList)[j*sz+q]?=δ d:=by
  have:∀(l:List Value),(∀c∈l,c.cells.size=sz)->∀(j:Nat)(c:Value)(q:Nat)(d:Value),l[j]?=δ c->c.cells[q]?=δ d->(l.flatMap λc=>c.cells.toList)[j*sz+q]?=δ d:=by
   intro l;induction l with
   |nil=>intro _ j c q d B;simp at B
   |cons c0 l ih=>
    intro V j c q d B I;simp only[It];have h0:=V c0 k!;cases j with
    |zero=>simp at B;subst B;rw[Xk,DA,CO (by rcases Ar q c0.cells.size with r|r;simpa using r;rw[rV r]at I;cases I)];simpa using I
    |succ j=>rw[Ce (by rw[Dk,h0,D5];omega),Dk,h0];rw[show(j+1)*sz+q-sz=j*sz+q from by rw[D5];omega];exact ih (λd I=>V d (CN _ I)) j c q d (by simpa using B) I
  exact this g y
 have F:∃m:Array Value,(execOp a.eval o).run P w=.ok (.value (.slice (δ ⟨w.heap.size,0,ε⟩) len len)) {w with heap:=w.heap.push (.cells m e)}/\m.toList=g.flatMap λc=>c.cells.toList:=by
  unfold execOp;rw[ho];by_cases h0:len=0;subst h0;have:g=[]:=EJ U;refine⟨#[],?_,by rw[this];rfl⟩;have Z:f= #[]:=by have n:=E! θ C;simp at n;exact n
  simp[Instr.buildSlice,run_underlying ax,LD hi,Z,Instr.fill,newRow,show Array.range 0= #[]from rfl];refine⟨(g.flatMap λc=>c.cells.toList).toArray,?_,rfl⟩;have al:¬len*i.size=0:=by rw[A_];exact Nat.mul_ne_zero h0 o!
  have a4:¬len*i.size>2^24:=by rw[A_];have:=lu L.1 L.2;omega
  have hf:=Go.Great.fill_whole (s:=sz) ar g ((Array.range (len*i.size)).map (z.cells[· %z.cells.size]!)) y (by simp[U,A_]);have:=run_buildSlice (P:=P) w t e len (f.map λ(q:Nat×Operand)=>(q.1,a.eval q.2)) _ i z ax D_ hz a4 al (by rw[R,A_]at*;exact hf);simp only[Sem.run_bind];rw[show(f.map λx=>match x with|(i,x)=>(i,a.eval x))=(f.map λ(q:Nat×Operand)=>(q.1,a.eval q.2))from rfl,this];rfl
 obtain⟨m,F,ad⟩:=F;unfold Oper.wp;rw[F,Oper.upon_value];have ap:=s.sim.grow (w':={w with heap:=w.heap.push (.cells m e)}) rfl rfl rfl k! (λk hk=>by simp[TC,BX hk]);have J:=Gq.grow (h:=h) (H:=H) (w:=w) (w':={w with heap:=w.heap.push (.cells m e)}) rfl rfl rfl k! (λk hk=>by simp[TC,BX hk]);refine⟨_,_,h,H,rfl,hk,?_,ap,J⟩;subst V;refine .vs (λj q=>((g.getD j undef).cells.getD q undef)) (Ai _) ar (λj v B=>(O v (BM B)).2) (λag=>⟨w.heap.size,0,rfl,?_,by simp[cx],λj v q u B hq=>?_⟩) λj v q u B hq=>?_;rintro(hX|ho);have:=(s.sim.out _ hX).1;omega;obtain⟨id,e1,n,ag,r⟩:=ho;have:=s.sim.io_at n ag r;omega;all_goals
  have E:j<θ g:=by rcases Ar j (θ W) with r|r;omega;rw[Cf r]at B;cases B
  have S:g[j]?=δ (g[j]):=As E;have a1:g.getD j undef=g[j]:=by simp[Qy,S]
  obtain⟨r1,r2⟩:=M j v _ B S;rw[a1];cases r1 with
  |agg hs n G=>
   have ao:q<(g[j]).cells.size:=by rcases Ar q (θ v.cells) with r|r;omega;rw[Cf r]at hq;cases hq
   have T:(g[j]).cells[q]?=δ ((g[j]).cells[q]):=Nr ao;have a0:(g[j]).cells.getD q undef=(g[j]).cells[q]:=by simp[ao]
   rw[a0];first
    |exact(G q u _ hq T).later (J.later X)
    |(refine⟨?_,n q _ T⟩
      have hb:(w.heap.push (.cells m e))[w.heap.size]?=δ (.cells m e (0,0)):=k!
      rw[DA];show World.cell? {w with heap:=w.heap.push (.cells m e)} _=_;rw[Pc (w:={w with heap:=w.heap.push (.cells m e)}) hb,<-PX,ad];exact af j _ q _ S T)
end
section
variable {P:Program}
def Ya(z:Array Value)(n:Nat):(Builtin.zeroCells z n).size=n*z.size:=by simp[Builtin.zeroCells]
def mB{t ty e:TypeId}(g:P.underlying t=δ (.slice e))(j:P.info? e=δ y){base:Option Addr}{n cap m:Nat}{w w':World}
  (d:(Builtin.lenOf c).run P w=.ok m w) (f:(Builtin.firstCells y.size m c).run P w=.ok C.toArray w) (i:n+m<=cap)
  (b:(match base with
   |some a=>storeCells (a.add (n*y.size)) C
   |none=>pure ():Sem Unit).run P w=.ok () w'):
  (Builtin.append_ #[t,t] ty #[.slice base n cap,c]).run P w=.ok (.slice base (n+m) cap) w':=by
 cases base<;>simp only at b<;>simp[Builtin.append_,run_underlying g,sizeOf,typeInfo,j,d,f,i,b];simp at b;exact b
def po{t ty e:TypeId}(g:P.underlying t=δ (.slice e))(p:P.info? e=δ y)(r:y.zero=δ c)(l:y.bytes≤1048576){base:Option Addr}{n cap m:Nat}{os j:List Value}
  (f:(Builtin.lenOf I).run P w=.ok m w) (q:(Builtin.firstCells y.size n (.slice base n cap)).run P w.drew=.ok os.toArray w.drew) (hn:(Builtin.firstCells y.size m I).run P w.drew=.ok j.toArray w.drew)
  (b:cap<n+m) (h:n+m<=16777216):
  ∃a,n+m<=a/\(Builtin.append_ #[t,t] ty #[.slice base n cap,I]).run P w=.ok (.slice (δ ⟨w.heap.size,0,ε⟩) (n+m) a) {w.drew with heap:=w.drew.heap.push (.cells (os.toArray++j.toArray++Builtin.zeroCells c.cells (a-(n+m))) e)}:=by
 have d:¬(Builtin.nextslicecap (n+m) cap*y.bytes>2^48):=by have s:=zj (n+m) cap b;have u:Builtin.nextslicecap (n+m) cap*y.bytes<=33556480*1048576:=lu o! l;omega
 refine⟨(Question.appendCap (n+m) cap e).cut (w.tape w.drawn (.appendCap (n+m) cap e)),by simp[Question.cut],?_⟩;have k:IntKind.i64.max=9223372036854775807:=g!
 have i:¬((9223372036854775807:Int)<(n:Int)+(m:Int)/\y.bytes=0):=o!
 have o:(Question.appendCap (n+m) cap e).forced=η:=rfl;simp[Builtin.append_,sizeOf,typeInfo,zeroValue,run_underlying g,p,r,f,d,newRow,k];rw[D! o!,D! i,D! (by rw[o];simp),q];simp only[Result.andThen_ok];rw[hn];simp only[Result.andThen_ok,Result.ok.injEq];refine⟨rfl,?_⟩;rw[<-List.append_toArray,Array.append_assoc];rfl
end
section
variable {P:Program}{N:Nat}{o:Oper}{env:Env}{H:Ap}{K:AV->Ap->Prop}
def Qt{a:Operand→Value}(e:o.op=.call {callee:=.builtin .append,args:= #[m,Y],argTypes:= #[b,b]})
  (h:(Builtin.append_ #[b,b] o.type #[a m,a Y]).run P w=.ok c G):(execOp a o).run P w=.ok (.value c) G:=by
 unfold execOp;rw[e];simp only[resolve,invoke,builtin,Sem.run_bind,Sem.run_pure,Result.andThen_ok,QN,Bn,Hg];rw[h];rfl
def IC.drew{X:Nat->Prop}{h:Gh}{H:Ap}{w:World}(s:IC X h H w):IC X h H w.drew:=s.grow rfl rfl rfl (Ai _) λ_ _=>rfl
def Gq.drew{h:Gh}{H:Ap}{w:World}:Gq h H w h H w.drew:=Gq.grow rfl rfl rfl (Ai _) λ_ _=>rfl
def u6{as bs:List AV}{os a:List Value}{n:Array Value}(ra:lf i as os)(g:lf i bs a)(k:∀u∈os,u.oneCell'=ζ)(l:∀u∈a,u.oneCell'=ζ):
  Holds i (as++bs) (os.toArray++a.toArray++n) (0,0):=by
 refine⟨λj=>(os++a).getD j undef,?_,λx _=>k!,λj v d=>?_⟩;simp[ra.1,g.1];have f:j<(os++a).length:=by rcases Ar j (as++bs).length with b|b;simp[ra.1,g.1]at*;omega;rw[Cf b]at d;cases d
 have c:(os++a)[j]?=δ ((os++a)[j]):=As f;have e:(os++a).getD j undef=(os++a)[j]:=by rw[Qy,c];rfl
 show _=δ ((os++a).getD j undef)/\((os++a).getD j undef).oneCell'=ζ/\Bi i v ((os++a).getD j undef);rw[e];refine⟨?_,?_,?_⟩;rw[Xl (by simpa using f),List.append_toArray,XU];exact c;have m:(os++a)[j]∈os++a:=Pa f;rcases Ao.1 m with h|h;exact k _ h;exact l _ h;rcases Ar j (θ as) with b|b;rw[CO b]at d;rw[CO (by rw[ra.1];exact b)]at c;exact ra.2 j v _ d c;rw[Ce b]at d;rw[Ce (by rw[ra.1];exact b),ra.1]at c;exact g.2 _ v _ d c
theorem JI.append_nil{D_ T:Operand}{t e:TypeId}{sz m:Nat}{d:List AV}(I:o.op=.call {callee:=.builtin .append,args:= #[D_,T],argTypes:= #[t,t]})(he:eI P t=δ (ε,e,sz))(v:0<sz)(J:Ro P e=ζ)
  (hs:BI env D_=.nils) (M:Jx H sz (BI env T)=δ (m,d)) (V:m<=16777216) (U:K (.sl (θ H) 0 sz 0 m) (H++[.live 0 d])):JI P N o env H K:=by
 apply Ct (by rw[I];rfl);intro X h a w s Q;obtain⟨B,b,hi⟩:=QV he;obtain⟨i,z,f,G,hz,O⟩:=Tq J;have j:=km hi f;have R:=DY s.env D_;rw[hs]at R;have y:a.eval D_=.slice ε 0 0:=by generalize a.eval D_=c at R;cases R;rfl
 have S:=DY s.env T;unfold Oper.wp;rcases VP m with W|W;subst W;obtain⟨Z,x,E,F,A_,g,p,l,q⟩:=OR (P:=P) s.sim S v M;have u:d=[]:=EJ o!;subst u;have L:E=[]:=EJ g.1;subst L;have k:=mB (ty:=o.type) (base:=ε) (n:=0) (cap:=0) (w':=w) B f l (by rw[j];exact q) o! rfl;rw[Qt I (by rw[y];exact k),Oper.upon_value];exact⟨_,_,_,_,rfl,U,.sl (by simp[cx]) q! ⟨_,_,rfl⟩ λ_=>.inl ⟨by simp[cx,Gh.at_],rfl,rfl,rfl⟩,s.sim.virt,Gq.virt⟩;have Y:=s.sim.drew;obtain⟨Z,x,E,F,A_,g,p,l,q⟩:=OR (P:=P) Y (S.later (Gq.drew.later X)) v M;obtain⟨_,_,_,_,_,_,_,r,_⟩:=OR (P:=P) s.sim S v M;obtain⟨C,hC,k⟩:=po (ty:=o.type) (base:=ε) (n:=0) (cap:=0) (os:=[]) B f hz G r (by rfl) (by rw[j];exact q) o! o!;rw[Qt I (by rw[y];exact k),Oper.upon_value];have hh:Holds (cx X h H w.drew) d (#[]++E.toArray++Builtin.zeroCells z.cells (C-(0+m))) (0,0):=u6 (as:=[]) (os:=[]) ⟨rfl,λ_ _ _ h=>by cases h⟩ g (λ_ h=>by cases h) p;refine⟨_,_,_,_,rfl,U,?_,Y.push _ e (0,0) d hh,Gq.drew.trans (Gq.push _ _ _)⟩;rw[DA];refine .sl (by simp[cx]) q! ⟨_,_,rfl⟩ λ_=>.inr ⟨w.heap.size,C,by simp[cx,Gh.at_],o!,?_,rfl⟩;have e1:θ E=m*sz:=by rw[g.1,A_]
 simp only[cx,Gh.at_,if_true,Array.size_append,dm,Ya,O,j,e1];have:(C-(0+m))*sz+m*sz=C*sz:=by rw[<-D5];congr 1;omega
 grind
end
section
variable {X:Nat->Prop}{h:Gh}{H:Ap}{w:World}{N:Nat}{env env2:Env}
def E4.trans{l m n:Env}{i j k:Ap}(a:E4 N t l i m j)(b:E4 N t m j n k):E4 N t l i n k:=⟨b.1,λX h d w s=>by obtain⟨o,u,e,r⟩:=a.2 X h d w s;obtain⟨p,v,f,g⟩:=b.2 X o d w u;exact⟨p,v,λid c=>⟨(f id c).1.trans (e id c).1,(f id c).2.1.trans (e id c).2.1,(f id c).2.2.trans (e id c).2.2⟩,λB q=>r B (g B q)⟩⟩
def E4.of_le{n0 j:Nat}{i:Env}(a:E4 N j g H i S)(h:n0<=j):E4 N n0 g H i S:=⟨C9 h a.1,λX f b w s=>by obtain⟨l,n,k,m⟩:=a.2 X f b w s;exact⟨l,n,λid c=>k id (C2 c h),m⟩⟩
def E4.virt{t sz:Nat}(n:env.get t=.nils):E4 N (θ H) env H (env.put t (.sl (θ H) 0 sz 0 0)) (H++[.live 0 []]):=by
 refine⟨k!,λX g d w s=>⟨g.at_ (θ H) ε 0 0,⟨s.sim.virt,?_,s.size⟩,λid f=>by simp[Gh.at_,BX f],λB l=>?_⟩⟩;have r:(t,AV.nils)∈env:=by rcases Nv (env:=env) (t:=t)with e|m;rw[n]at e;cases e;rw[n]at m;exact m
 have x:=Gq.virt (h:=g) (H:=H) (w:=w);have a:=s.env.later (x.later X);intro u v m;unfold Env.put at m;rcases A1.1 m with e|m;injection e with o p;subst o p;obtain⟨q,k⟩:=s.env _ _ r;refine⟨q,?_⟩;generalize d.tmps.getD u undef=c at k;cases k;exact .sl (by simp[cx]) (by simp[cx,Gh.at_]) ⟨_,_,rfl⟩ λ_=>.inl ⟨by simp[cx,Gh.at_],rfl,rfl,rfl⟩;exact a u v (BU.1 m).1;rcases(Gq.virt (h:=g) (H:=H) (w:=w)).fresh B l with h|h;exact h;obtain⟨id,e,a,j,b⟩:=l;rcases Il a with⟨i,a⟩|⟨rfl,rfl⟩;exact⟨id,e,a,j,by simpa[Gh.at_,BX i]using b⟩;simp[Gh.at_]at b
end
def AAY(sz:Nat)(cs:List AV)(rows:List AV):Prop:=0<sz/\(∀e∈rows,θ e.cells=sz)/\rows.flatMap AV.cells=cs
theorem nR{sz:Nat}:∀{a:List AV},(∀e∈a,θ e.cells=sz)->∀(j:Nat)(e:AV)(i:Nat)(v:AV),a[j]?=δ e->e.cells[i]?=δ v->(a.flatMap AV.cells)[j*sz+i]?=δ v
 |e0::r,h,j,e,i,v,hj,hi=>by
  have b:=h e0 k!;simp;cases j with
  |zero=>grind
  |succ j=>rw[Ce q!,b,show(j+1)*sz+i-sz=j*sz+i from by grind];exact nR (λe c=>h e (CN _ c)) j e i v q! hi
def Bi.froze{id g sz n:Nat}(s:IC e h H w)(P:H[id]?=δ (E5.live g f))(hr:AAY sz f v)(hn:θ v=n)
  (R:(cx e h H w).Later i) (I:i.w=w) (M:∀B,h.io id=δ B->¬i.O B) (r:Bi (cx e h H w) (.sl id g sz 0 n) c):Bi i (.vs sz v) c:=by
 obtain⟨x,k,rfl⟩:=hr;obtain⟨t,o⟩:=s.live id g _ P;cases r with
 |sl p q Y N=>
  rcases N t with⟨d,U,_,rfl⟩|⟨B,cap,d,m,C,rfl⟩;have:v=[]:=EJ o!;subst this;exact Bi.vs (rows:=[]) (cap:=0) (λ_ _=>undef) (Ai _) x (λ_ _ h=>by simp at h) (λh=>(h rfl).elim) λ_ _ _ _ h=>by simp at h
  rcases o with⟨E,_⟩|⟨z,J,T,W,y,l,G,A_,S,Q,b⟩;rw[E]at d;cases d;have:z=B:=by rw[d]at l;injection l with a;exact a.symm
  subst this;subst hn;refine .vs (λj F=>y (j*sz+F)) m x (λj a u=>k a (BM u)) (λV=>⟨z,0,rfl,M z d,?_,λj a F X u D_=>?_⟩) λj a F X u D_=>?_;rw[I];exact PG G;obtain⟨K,L,_⟩:=b _ X (nR k j a F X u D_);rw[DA,I,Pc (w:=w) G];exact⟨K,L⟩;exact(b _ X (nR k j a F X u D_)).2.2.later R
section
variable {X:Nat->Prop}{h:Gh}{H:Ap}{w:World}
theorem dW(b:(H.take N)[t]?=δ p):t<N/\H[t]?=δ p:=q!
def gO{n0 B:Nat}(d:owned h (H.take n0) B):owned h H B:=by obtain⟨id,e,c,b,a⟩:=d;exact⟨id,e,(dW c).2,b,a⟩
def Bi.trunc(hn:N<=θ H)(r:Bi (cx X h H w) d c)(a:(d.idsAll λid=>decide (id<N))=ζ):Bi (cx X h (H.take N) w) d c:=by have:=Bi.ren (x:=cx X h H w) (y:=cx X h (H.take N) w) (ρ:=λi=>i) (p:=λid=>decide (id<N)) (λi e _=>⟨by simp[cx]at*;omega,rfl,rfl,rfl⟩) rfl (λB b=>by rcases b with b|b;exact .inl b;exact .inr (gO b)) r a;rwa [AAC (p:=λid=>decide (id<N)) (λ_ _=>rfl) d a]at this
theorem IC.trunc(s:IC X h H w)(hn:N<=θ H)(E:∀e∈H.take N,(e.idsAll λid=>decide (id<N))=ζ):IC X h (H.take N) w:=by refine⟨λB D_=>⟨(s.out B D_).1,λO=>(s.out B D_).2 (gO O)⟩,λid g G c=>?_,λid L c=>?_,λid A_ e I B i k=>s.inj id A_ e I B (dW i).2 (dW k).2,s.bldKeep λid e c _=>⟨(dW c).2,rfl,rfl,rfl,λ_ _ _ _ _=>rfl⟩⟩;obtain⟨x,n⟩:=s.live id g G (dW c).2;refine⟨x,?_⟩;rcases n with⟨z,rfl⟩|⟨B,p,T,J,f,d,a,l,y,u,b⟩;exact .inl ⟨z,rfl⟩;refine .inr ⟨B,p,T,J,f,d,a,l,y,u,λj v F=>?_⟩;obtain⟨i,k,q⟩:=b j v F;exact⟨i,k,q.trunc hn (Mp (by simpa[E5.idsAll]using E _ (BM c)) F)⟩;obtain⟨x,B,r,d,a,i,k,q,K,M,o,C⟩:=s.lp id L (dW c).2;refine⟨x,B,r,d,a,i,k,q,K,M,o,λt v m=>⟨(C t v m).1,(C t v m).2.trunc hn ?_⟩⟩;have P:=E _ (BM c);grind[E5.idsAll]
end
def IB:List Oper->List Nat->List Nat
 |[],acc=>acc
 |o::r,acc=>IB r (acc++[o.after.toList.foldl (λs e=>if Region.binds .any e=ζ then s|||2^e.on|||acc.getD e.on 0 else s) 0])
def PC(m:List Nat)(i j:Nat):Bool:=(m.getD j 0).testBit i
def ux{b:List Nat}{i:Nat}:∀(l:List Edge)(s:Nat),(l.foldl (λs e=>if Region.binds .any e=ζ then s|||2^e.on|||b.getD e.on 0 else s) s).testBit i=ζ→
  s.testBit i=ζ\/∃e∈l,Region.binds .any e=ζ/\(e.on=i\/(b.getD e.on 0).testBit i=ζ)
 |[],s,h=>.inl h
 |e::l,s,h=>by simp only[kJ]at h;rcases ux l _ h with a|⟨f,d,c,g⟩;split at a;rename_i c;simp only[Nat.testBit_or,VU,Nat.testBit_two_pow]at a;rcases a with(a|a)|a;exact .inl a;exact .inr ⟨e,k!,c,.inl (by simpa using a)⟩;exact .inr ⟨e,k!,c,.inr a⟩;exact .inl a;exact .inr ⟨f,CN _ d,c,g⟩
theorem XW:∀(l:List Oper)(a:List Nat),(∀k,k<θ a→(IB l a)[k]?=a[k]?)∧
  ∀(p i:Nat)(o:Oper),l[p]?=δ o->PC (IB l a) i (θ a+p)=ζ->∃e∈o.after.toList,Region.binds .any e=ζ/\(e.on=i\/(e.on<θ a+p/\PC (IB l a) i e.on=ζ))
 |[],a=>⟨λ_ _=>rfl,λp i o h=>by simp at h⟩
 |o::l,a=>by
  simp only[IB];generalize g:o.after.toList.foldl (λs e=>if Region.binds .any e=ζ then s|||2^e.on|||a.getD e.on 0 else s) 0=x;obtain⟨m,c⟩:=XW l (a++[x]);refine⟨λk r=>?_,λp i j t b=>?_⟩;grind;cases p with
  |zero=>
   have f:(IB l (a++[x])).getD (θ a) 0=x:=q!
   simp only[PC,Jz]at b;rw[f,<-g]at b;rcases ux _ _ b with d|⟨e,q,n,d⟩;grind;grind[PC]
  |succ p=>have:=c p i j q! q!;rw[show(a++[x]).length+p=θ a+(p+1)from by simp;omega]at this;exact this
section
variable {ops:Array Oper}
def vi(ops:Array Oper)(L:Array Bool):Prop:=∀(j:Nat)(o:Oper),ops[j]?=δ o->L.getD j η=ζ->∀e∈o.after,Region.binds .any e=ζ->L.getD e.on η=ζ
def dQ{L:Array Bool}(k:vi ops L){i:Nat}:∀(n j:Nat)(o:Oper),j<n->ops[j]?=δ o->(∀e∈o.after,Region.binds .any e=ζ->L.getD e.on η=ζ)->PC (IB ops.toList []) i j=ζ->L.getD i η=ζ
 |0,_,_,h,_,_,_=>o!
 |n+1,j,o,hj,ho,hp,hm=>by
  obtain⟨e,r,q,h⟩:=(XW ops.toList []).2 j i o (by simpa using ho) (by simpa using hm);have a:=hp e (by simpa using r) q;rcases h with rfl|⟨g,c⟩;exact a;have l:e.on<j:=by simpa using g
  cases b:ops[e.on]? with
  |none=>have:PC (IB ops.toList []) i e.on=ζ:=c;obtain⟨s,_⟩:=au.1 ho;rw[xM]at b;omega
  |some m=>exact dQ k n e.on m o! b (λp f d=>k e.on m b a p f d) c
def tmpsOf(o:Oper):List Nat:=o.op.operands.toList.filterMap λ|.tmp t=>δ t|_=>ε
def ZD(P:Program)(N:Nat)(o:Oper)(env:Env)(H:Ap)(rd:List Nat)(v:AV):Prop:=
 ∀(env':Env)(H':Ap),(∀t∈tmpsOf o,env'.get t=env.get t)->(∀id∈rd,H'[id]?=H[id]?)->JI P N o env' H' λu H''=>u=v/\H''=H'
def Eff(P:Program)(N:Nat)(o:Oper)(env:Env)(H:Ap)(F:List Nat)(K:AV->Ap->Prop):Prop:=
 (∀env':Env,(∀t∈tmpsOf o,env'.get t=env.get t)->JI P N o env' H K)/\∀v H',K v H'->∀id,id<θ H->id∉F->H'[id]?=H[id]?
def H5(ops:Array Oper)(j:Nat):Bool:=
 match ops[j]? with
 |some o=>match o.op with|.alloc _=>ζ|_=>η
 |none=>η
def RA(P:Program)(N:Nat)(ops:Array Oper):List Nat->List (Nat×List Nat)->Env->Ap->(Env->Ap->Prop)->Prop
 |[],_,env,H,Q=>Q env H
 |i::r,pend,env,H,Q=>
  match ops[i]? with
  |none=>False
  |some o=>
   Xb ops o.guard env
    ((H5 ops i=η/\∃v rd,ZD P N o env H rd v/\(∀id∈rd,id<θ H)/\RA P N ops r ((i,rd)::pend) (env.putO o.dst v) H Q)\/
     (H5 ops i=η/\∃F,(∀j∈r,PC (IB ops.toList []) i j=ζ\/H5 ops j=ζ)/\(∀p∈pend,PC (IB ops.toList []) p.1 i=ζ\/∀id∈p.2,id∉F)/\
      ∃K,Eff P N o env H F K/\(∀v H',K v H'->θ H<=θ H')/\∀v H',K v H'->RA P N ops r pend (env.putO o.dst v) H' Q)\/
     ∃t z,o.op=.alloc t/\YZ P t=δ z/\(∀j∈r,PC (IB ops.toList []) i j=ζ\/H5 ops j=ζ)/\RA P N ops r pend (env.putO o.dst (.ptr (θ H) 0 0)) (H++[.live 0 z]) Q)
    (H5 ops i=η/\RA P N ops r ((i,[])::pend) (env.putO o.dst (.tup [])) H Q)
def Vo(P:Program)(ops:Array Oper):Bool:=ops.toList.all λo=>match o.op with|.alloc t=>(YZ P t).isSome&&o.guard.isNone|_=>ζ
def U2(ops:Array Oper)(i:Nat):Option Nat:=(ops[i]?).bind (·.dst)
def ABC(ops:Array Oper)(N:Nat)(l:List Nat):Bool:=
 let m:=IB ops.toList []
 let n:=ops.size
 On N ops.toList&&
 (decide l.Nodup&&((List.range n).all λi=>l.contains i)&&l.all (λi=>decide (i<n)))&&
 ((List.range n).all λi=>match ops[i]? with
  |some o=>(o.after.toList.all λe=>!Region.binds .any e||decide (e.on<i))&&
    (match o.guard with|some (j,_)=>PC m j i&&τ (j<n)&&(U2 ops j).isSome|none=>ζ)&&
    (match o.dst with
     |some d=>(List.range n).all λj=>decide (j=i)||(match ops[j]? with
       |some o'=>! τ (o'.dst=δ d)&&(!(tmpsOf o').contains d||PC m i j||PC m j i)
       |none=>ζ)
     |none=>ζ)
  |none=>ζ)&&
 (l.zipIdx.all λ(i,p)=>l.zipIdx.all λ(j,q)=>! τ (p<q)|| !PC m j i)
theorem Fx(env:Env)(t u:Nat)(v:AV):(env.put t v).get u=if u=t then v else env.get u:=by unfold Env.put;simp only[Env.get];by_cases h:t=u;grind;rw[D! h,D! (λe=>h e.symm)];induction env<;>grind[Env.get]
def KN(env:Env):Prop:=∀t v,(t,v)∈env->env.get t=v
theorem KN.put(h:KN g)(t:Nat)(v:AV):KN (g.put t v):=by
 intro u x m;rw[Fx];rcases A1.1 m with e|m;grind;obtain⟨a,b⟩:=BU.1 m;have:u≠t:=q!
 rw[D! this];exact h u x a
def KN.putO(h:KN g)(t:Option Nat)(v:AV):KN (g.putO t v):=by
 cases t with
 |none=>exact h
 |some t=>exact h.put t v
theorem cH:∀{env:Env},(env.map (·.1)).Nodup->KN env
 |[],_=>λ_ _ h=>by cases h
 |(k,w)::r,h=>by
  simp at h;intro t v m;simp only[Env.get];rcases A1.1 m with e|m;grind;have:k≠t:=q!
  rw[D! this];exact cH h.2 t v m
end
structure Wi(ops:Array Oper)(N:Nat)(l:List Nat):Prop where
 dsts:On N ops.toList=true
 nodup:l.Nodup
 all:∀i,i<ops.size->i∈l
 lt:∀i∈l,i<ops.size
 back:∀(i:Nat)(o:Oper),ops[i]?=some o->∀e∈o.after,Region.binds .any e=true->e.on<i
 guard:∀(i:Nat)(o:Oper)(j:Nat)(b:Bool),ops[i]?=some o->o.guard=some (j,b)->PC (IB ops.toList []) j i=true/\j<ops.size/\∃d,U2 ops j=some d
 uniq:∀(i j d:Nat),U2 ops i=some d->U2 ops j=some d->i=j
 haz:∀(i j d:Nat)(o:Oper),U2 ops i=some d->ops[j]?=some o->d∈tmpsOf o->i≠j->PC (IB ops.toList []) i j=true\/PC (IB ops.toList []) j i=true
 ord:∀(l1 l2:List Nat),l=l1++l2->∀i∈l1,∀j∈l2,PC (IB ops.toList []) j i=false
theorem Xv(h:U2 q N=δ t):∃o,q[N]?=δ o/\o.dst=δ t:=by grind[U2]
theorem Vf{i:Nat}(h:q[i]?=δ o):i<q.size:=q!
theorem AAB(h:ABC q N l=ζ):Wi q N l:=by
 unfold ABC at h;simp only[BN]at h;obtain⟨⟨⟨x,⟨y,M⟩,z⟩,A_⟩,B⟩:=h;have a:∀(i:Nat)(o:Oper),q[i]?=δ o->_:=λi o f=>by have:=Fo.1 A_ i (Hh.2 (Vf f));rw[f]at this;simp only[BN]at this;exact this
 refine⟨x,by simpa using y,λi c=>?_,λi c=>by simpa using List.all_eq_true.1 z i c,λi o f e E C=>?_,λi o j b f F=>?_,λi j d c k=>?_,λi j d o c k n G=>?_,λl1 l2 w i c j k=>?_⟩;simp_all;have:=Fo.1 (a i o f).1.1 e (by simpa using E);simpa[C]using this;have:=(a i o f).1.2;rw[F]at this;simp only[BN,K!]at this;exact⟨this.1.1,this.1.2,du.1 this.2⟩;obtain⟨o,f,n⟩:=Xv c;obtain⟨O,m,r⟩:=Xv k;have:=(a i o f).2;rw[n]at this;have:=Fo.1 this j (Hh.2 (Vf m));rw[m]at this;simp only[r,decide_true,Ca,Bool.false_and,Bool.or_false,K!]at this;exact this.symm;obtain⟨L,u,s⟩:=Xv c;have:=(a i L u).2;rw[s]at this;have:=Fo.1 this j (Hh.2 (Vf k));rw[k]at this;have D_:(tmpsOf o).contains d=ζ:=by simpa using n
 simp only[D_,Ca,Bool.false_or,VU,K!,BN]at this;rcases this with h|⟨_,h⟩;omega;exact h;obtain⟨p,H⟩:=Ci c;obtain⟨g,I⟩:=Ci k;have v:p<θ l1:=q!
 have J:(i,p)∈l.zipIdx:=by rw[rS];rw[w,CO v];exact H
 have K:(j,θ l1+g)∈l.zipIdx:=by rw[rS];rw[w,Ce o!];simpa using I
 have:=Fo.1 (Fo.1 B _ J) _ K;have t:p<θ l1+g:=o!
 simpa[t]using this
section
variable {P:Program}{N:Nat}{ops:Array Oper}{l:List Nat}{Q:Env->Ap->Prop}{env0:Env}{X:Nat->Prop}{h0:Gh}{H0:Ap}{w0:World}{ds0:List Deferred}
def Opd(ops:Array Oper)(env0:Env)(v:Nat->AV)(i:Nat)(o:Oper)(ei:Env):Prop:=
 ∀t∈tmpsOf o,(∀k,k≠i->U2 ops k=δ t->PC (IB ops.toList []) k i=ζ->ei.get t=v k)/\
  ((∀k,k≠i->U2 ops k=δ t->PC (IB ops.toList []) k i=η)->ei.get t=env0.get t)
def Tu(v:Nat->AV)(o:Oper)(r:Bool):Prop:=
 match o.guard with
 |none=>r=ζ
 |some (j,want)=>(∃b,v j=.bool b/\r=(b==want))\/(v j=.tup []/\r=η)
def XR(X:Nat->Prop)(early:Nat->Option Nat)(B:Nat):Prop:=X B\/∃i,early i=δ B
structure Inv(P:Program)(N:Nat)(ops:Array Oper)(l:List Nat)(Q:Env→Ap→Prop)(env0:Env)(X:Nat→Prop)(h0:Gh)(H0:Ap)(w0:World)(ds0:List Deferred)
  (l1 l2:List Nat) (v:Nat->AV) (pend:List (Nat×List Nat)) (env:Env) (H:Ap) (h:Gh) (early:Nat->Option Nat) (L:Array Bool) (a:Act) (w:World):Prop where
 split:l=l1++l2
 ra:RA P N ops l2 pend env H Q
 kn:KN env
 keys:∀t u,(t,u)∈env->t<N
 env1:∀k∈l1,∀t,U2 ops k=some t->env.get t=v k
 env2:∀t,(∀k∈l1,U2 ops k≠some t)->env.get t=env0.get t
 sim:IC (XR X early) h H w
 nodefer:a.defers=ds0
 size:a.tmps.size=N
 slot1:∀k t,L.getD k false=true->early k=none->U2 ops k=some t->Bi (cx (XR X early) h H w) (v k) (a.tmps.getD t undef)
 slot2:∀t,(∀k,L.getD k false=true->U2 ops k≠some t)->Bi (cx (XR X early) h H w) (env0.get t) (a.tmps.getD t undef)
 sub:∀i,L.getD i false=true->early i=none->i∈l1
 lsz:L.size=ops.size
 closed:vi ops L
 pendq:∀i∈l1,L.getD i false=false->∃o,ops[i]?=some o/\H5 ops i=false/\((Tu v o false/\v i=.tup [])\/
  (Tu v o true/\∃rd ei,(i,rd)∈pend/\(∀id∈rd,id<H.length)/\KN ei/\(∀t u,(t,u)∈ei->t<N)/\Opd ops env0 v i o ei/\ZD P N o ei H rd (v i)))
 ext:Gq h0 H0 w0 h H w
 early1:∀i B,early i=some B->i∈l2/\L.getD i false=true/\w0.heap.size<=B/\B<w.heap.size/\∃(o:Oper)(t:TypeId)(z:List AV)(arr:Array Value),ops[i]?=some o/\o.op=.alloc t/\YZ P t=some z/\
  w.heap[B]?=some (.cells arr t (0,0))/\Bi (cx (XR X early) h H w) (.agg z) (.agg arr)/\∀d,o.dst=some d->a.tmps.getD d undef=.pointer (some ⟨B,0,none⟩)
 early2:∀i j B,early i=some B->early j=some B->i=j
def look(o:Oper)(ei:Env):Env:=ei.filter λp=>(tmpsOf o).contains p.1
theorem yI(o:Oper)(a:Env):∀t∈tmpsOf o,(look o a).get t=a.get t:=by unfold look;induction a<;>grind[Env.get]
variable {l1 l2:List Nat}{v:Nat->AV}{pend:List (Nat×List Nat)}{env:Env}{H:Ap}{h:Gh}{early:Nat->Option Nat}{L:Array Bool}{a:Act}{w:World}
def Inv.opd(ok:Wi ops N l)(I:Inv P N ops l Q env0 X h0 H0 w0 ds0 l1 l2 v pend env H h early L a w){r:List Nat}(m:l2=t::r)(s:ops[t]?=δ o):Opd ops env0 v t o env:=by
 intro i u;have n:t∉l1:=by intro b;have:=ok.nodup;rw[I.split,m]at this;exact(QO.1 this).2.2 t b t k! rfl
 refine⟨λk q c g=>?_,λp=>?_⟩;refine I.env1 k ?_ i c;obtain⟨x,f,_⟩:=Xv c;have b:=ok.all k (Vf f);rw[I.split,Ao]at b;rcases b with b|b;exact b;rw[m]at b;rcases A1.1 b with e|b;exact(q e).elim;have:=ok.ord (l1++[t]) r (by rw[I.split,m];simp) t k! k b;rw[g]at this;cases this;refine I.env2 i λk b c=>?_;have d:k≠t:=λe=>n (e▸b);rcases ok.haz k t i o c s u d with j|j;rw[p k d c]at j;cases j;have:=ok.ord l1 l2 I.split k b t (by rw[m];simp);rw[j]at this;cases this
def Inv.look(ok:Wi ops N l)(I:Inv P N ops l Q env0 X h0 H0 w0 ds0 l1 l2 v pend env H h early L a w)(y:ops[t]?=δ o)(p:L.getD t η=η)
  (J:∀e∈o.after,Region.binds .any e=ζ->L.getD e.on η=ζ) (x:∀k,PC (IB ops.toList []) k t=ζ->early k=ε)  (kn:KN g) (G:∀q u,(q,u)∈g->q<N) (n:Opd ops env0 v t o g):OT (cx (XR X early) h H w) (look o g) a:=by
 intro q u m;obtain⟨B,K⟩:=BU.1 m;have z:q∈tmpsOf o:=by simpa using K
 refine⟨by rw[I.size];exact G q u B,?_⟩;rw[<-kn q u B];obtain⟨D_,E⟩:=n q z;by_cases A_:∃k,k≠t/\U2 ops k=δ q/\PC (IB ops.toList []) k t=ζ;obtain⟨k,b,d,c⟩:=A_;rw[D_ k b d c];exact I.slot1 k q (dQ I.closed (t+1) t o o! y J c) (x k c) d;have i:∀k,k≠t->U2 ops k=δ q->PC (IB ops.toList []) k t=η:=by
  intro k b d;cases s:PC (IB ops.toList []) k t with
  |false=>rfl
  |true=>exact(A_ ⟨k,b,d,s⟩).elim
 rw[E i];refine I.slot2 q λk f d=>?_;by_cases b:k=t;subst b;rw[p]at f;cases f;rcases ok.haz k t q o d y z b with r|r;rw[i k b d]at r;cases r;obtain⟨C,j,_⟩:=Xv d;have:=dQ I.closed (k+1) k C o! j (λe F s=>I.closed k C j f e F s) r;rw[p]at this;cases this
theorem Inv.wanted(ok:Wi ops N l)(I:Inv P N ops l Q env0 X h0 H0 w0 ds0 l1 l2 v pend env H h early L a w)(z:ops[t]?=δ o)(r:∀k,PC (IB ops.toList []) k t=ζ→early k=ε)
  (D_:∀e∈o.after,Region.binds .any e=ζ->L.getD e.on η=ζ)  (x:Tu v o s):Region.wanted o (yielded ops a.tmps)=s:=by
 unfold Tu at x;unfold Region.wanted;cases y:o.guard with
 |none=>grind
 |some p=>
  obtain⟨j,n⟩:=p;rw[y]at x;obtain⟨f,G,d,q⟩:=ok.guard t o j n z y;have i:=dQ I.closed (t+1) t o o! z D_ f;have hr:=I.slot1 j d i (r j f) q;have B:d<a.tmps.size:=by obtain⟨F,C,A_⟩:=Xv q;have:=Fo.1 ok.dsts F q!;grind[I.size]
  rcases x with⟨b,u,rfl⟩|⟨u,rfl⟩
  case inr=>
   rw[u]at hr;obtain⟨m,g⟩:∃m,a.tmps.getD d undef=.tuple m:=by generalize a.tmps.getD d undef=c at hr;cases hr;grind
   have E:yielded ops a.tmps j=ε:=by unfold yielded;rw[show(ops[j]?).bind (·.dst)=δ d from q];simp_all
   grind
  rw[u]at hr;have g:a.tmps.getD d undef=.bool b:=by generalize a.tmps.getD d undef=c at hr;cases hr;rfl
  have E:yielded ops a.tmps j=δ b:=by unfold yielded;rw[show(ops[j]?).bind (·.dst)=δ d from q];simp_all
  grind
def Inv.noEarly(ok:Wi ops N l)(I:Inv P N ops l Q env0 X h0 H0 w0 ds0 l1 l2 v pend env H h early L a w)(d:t∈l1\/∃r,l2=t::r):∀k,PC (IB ops.toList []) k t=ζ->k≠t->early k=ε:=by
 intro k c f;cases g:early k with
 |none=>rfl
 |some B=>have b:=(I.early1 k B g).1;rcases d with d|⟨r,rfl⟩;have:=ok.ord l1 l2 I.split t d k b;rw[c]at this;cases this;rcases A1.1 b with e|b;exact(f e).elim;have:=ok.ord (l1++[t]) r (by rw[I.split];simp) t k! k b;rw[c]at this;cases this
theorem G5{i:Nat}(a:i<L.size)(j:Nat):(L.setIfInBounds i ζ).getD j η=if j=i then ζ else L.getD j η:=by rw[QS,QS];grind
theorem SZ(b:∀t,j=δ t->t<a.tmps.size)(t:Nat):(a.put j c).tmps.getD t undef=if j=δ t then c else a.tmps.getD t undef:=by
 cases j with
 |none=>simp[Act.put]
 |some j=>simp only[Act.put];rw[QS,QS];grind
theorem mH(f:vi ops L)(h:N<L.size)(l:ops[N]?=δ o)(m:∀e∈o.after,Region.binds .any e=ζ->L.getD e.on η=ζ):vi ops (L.setIfInBounds N ζ):=by intro j k c a e g d;rw[G5 h]at a⊢;by_cases b:j=N;grind;rw[D! b]at a;rw[f j k c a e g d];simp
end
section
variable {P:Program}{N:Nat}{ops:Array Oper}{l:List Nat}{Q:Env->Ap->Prop}{env0:Env}{X:Nat->Prop}{h0:Gh}{H0:Ap}{w0:World}{ds0:List Deferred}
variable {l1 l2:List Nat}{v:Nat->AV}{pend:List (Nat×List Nat)}{env:Env}{H:Ap}{h:Gh}{early:Nat->Option Nat}{L:Array Bool}{a:Act}{w:World}
theorem oz(ok:Wi ops N l)(a:ops[t]?=δ o):∀i,o.dst=δ i->i<N:=by have:=Fo.1 ok.dsts o q!;grind
theorem Fk(a:ops[N]?=δ o):U2 ops N=o.dst:=by grind[U2]
def Inv.done(ok:Wi ops N l)(I:Inv P N ops l Q env0 X h0 H0 w0 ds0 l1 l2 v pend env H h early L a w){i:Nat}(p:ops[i]?=δ o)(r:i∈l1)(ad:L.getD i η=η)
  (hp:∀e∈o.after,Region.binds .any e=ζ->L.getD e.on η=ζ)  {A:Gh}  (sim:IC (XR X early) A H G) (x:Gq h H w A H G) (hv:Bi (cx (XR X early) A H G) (v i) c):
  Inv P N ops l Q env0 X h0 H0 w0 ds0 l1 l2 v pend env H A early (L.setIfInBounds i ζ) (a.put o.dst c) G:=by
 have n:i<L.size:=by rw[I.lsz];exact Vf p
 have F:∀t,o.dst=δ t->t<a.tmps.size:=λt ht=>by rw[I.size];exact oz ok p t ht
 have O:=x.later (XR X early);have s:i∉l2:=by intro hm;have:=ok.nodup;rw[I.split]at this;exact(QO.1 this).2.2 i r i hm rfl
 refine{split:=I.split,ra:=I.ra,kn:=I.kn,keys:=I.keys,env1:=I.env1,env2:=I.env2,sim:=sim,nodefer:=?_,size:=(dS _ _ _).trans I.size,slot1:=λk t m M f=>?_,slot2:=λt y=>?_,sub:=λj C J=>?_,lsz:=by rw[oJ];exact I.lsz,closed:=mH I.closed n p hp,pendq:=λk K g=>?_,ext:=I.ext.trans x,early1:=λk B m=>?_,early2:=I.early2};rw[show(a.put o.dst c).defers=a.defers by cases o.dst<;>rfl];exact I.nodefer;rw[SZ F];rw[G5 n]at m;by_cases b:k=i;subst b;rw[Fk p]at f;rw[C! f];exact hv;rw[D! b]at m;rw[D! (λe=>b (ok.uniq k i t f (by rw[Fk p];exact e)))];exact(I.slot1 k t m M f).later O;rw[SZ F];have R:o.dst≠δ t:=by have:=y i (by rw[G5 n,C! rfl]);rwa [Fk p]at this
 rw[D! R];refine(I.slot2 t λk m=>y k ?_).later O;rw[G5 n];split;rfl;exact m;rw[G5 n]at C;by_cases u:j=i;subst u;exact r;rw[D! u]at C;exact I.sub j C J;rw[G5 n]at g;by_cases b:k=i;subst b;simp at g;rw[D! b]at g;exact I.pendq k K g;obtain⟨S,V,W,T,o',t,z,D,U,Y,Z,e8,e9,E⟩:=I.early1 k B m;have b:k≠i:=λe=>s (e▸S);refine⟨S,by rw[G5 n,D! b];exact V,W,C2 T x.size,o',t,z,D,U,Y,Z,?_,e9.later O,λd q=>?_⟩;exact(x.keep B T (I.sim.out B (.inr ⟨k,m⟩)).2).trans e8;rw[SZ F,D! (λe=>b (ok.uniq k i d (by rw[Fk U];exact q) (by rw[Fk p];exact e)))];exact E d q
def Inv.next(ok:Wi ops N l)(I:Inv P N ops l Q env0 X h0 H0 w0 ds0 l1 l2 v pend env H h early L a w){i:Nat}{r:List Nat}(hl:l2=i::r)(V:ops[i]?=δ o){pend':List (Nat×List Nat)}
  (G:H5 ops i=η) (bb:RA P N ops r pend' (env.putO o.dst d) H Q) (a':∀p∈pend,p∈pend')
  (hq:(Tu v o η/\d=.tup [])\/(Tu v o ζ/\∃rd,(i,rd)∈pend'/\(∀id∈rd,id<θ H)/\ZD P N o env H rd d)):
  ∃T,Inv P N ops l Q env0 X h0 H0 w0 ds0 (l1++[i]) r T pend' (env.putO o.dst d) H h early L a w:=by
 have ax:=I.opd ok hl V;have ap:=ok.nodup;rw[I.split,hl]at ap;have Z:i∉l1:=λhm=>(QO.1 ap).2.2 i hm i k! rfl;have al:early i=ε:=by
  cases he:early i with
  |none=>rfl
  |some B=>obtain⟨_,_,_,_,o',t,z,bt,e5,e6,_⟩:=I.early1 i B he;unfold H5 at G;rw[e5]at G;simp only[e6]at G;cases G
 have bm:L.getD i η=η:=by
  cases R:L.getD i η with
  |false=>rfl
  |true=>exact(Z (I.sub i R al)).elim
 let T:Nat->AV:=λk=>if k=i then d else v k;have F:∀k,k≠i->T k=v k:=λk g=>by simp[T,g]
 have a0:T i=d:=by simp[T]
 have U:∀t,(env.putO o.dst d).get t=if o.dst=δ t then d else env.get t:=by
  intro t;cases o.dst with
  |none=>simp[Env.putO]
  |some u=>simp only[Env.putO,Fx,Al];by_cases h:u=t;subst h;simp;rw[D! h,D! (λe=>h e.symm)]
 have af:PC (IB ops.toList []) i i=ζ->False:=by
  intro R;obtain⟨e,he,bz,K⟩:=(XW ops.toList []).2 i i o (by simpa using V) (by simpa using R);have ag:∀(n j k:Nat),j<n->PC (IB ops.toList []) k j=ζ->k<j:=by
   intro n;induction n with
   |zero=>intro j k h;omega
   |succ n ih=>
    intro j k hj R;cases ad:ops[j]? with
    |none=>
     have bl:ops.size<=j:=xM.1 ad;have ao:∀(l:List Oper)(O:List Nat),(IB l O).length=θ O+θ l:=by
      intro l;induction l with
      |nil=>intro O;rfl
      |cons o l ih=>intro O;simp only[IB,ih];simp;omega
     have:(IB ops.toList []).getD j 0=0:=by rw[Qy,Cf (by rw[ao];simpa using bl)];rfl
     unfold PC at R;rw[this]at R;simp at R
    |some oj=>obtain⟨e,he,a2,A_⟩:=(XW ops.toList []).2 j k oj (by simpa using ad) (by simpa using R);have bG:=ok.back j oj ad e (by simpa using he) a2;rcases A_ with A_|⟨A_,h3⟩;omega;have:=ih e.on k o! h3;omega
  have:=ag (i+1) i i o! R;omega
 have a1:∀{k:Nat}{y:Oper}{ei:Env},k∈l1->ops[k]?=δ y->Opd ops env0 v k y ei->Opd ops env0 T k y ei:=by intro k y ei a4 S a9 t ht;obtain⟨c1,c2⟩:=a9 t ht;refine⟨λq hq M C=>?_,c2⟩;rw[c1 q hq M C,F];rintro rfl;have:=ok.ord l1 l2 I.split k a4 q (by rw[hl];simp);rw[C]at this;cases this
 have f:∀{o':Oper}{b:Bool},(∀j c,o'.guard=δ (j,c)->j≠i)->Tu v o' b->Tu T o' b:=by
  intro o' b a8 hw;unfold Tu at hw⊢;cases Y:o'.guard with
  |none=>rw[Y]at hw;exact hw
  |some p=>obtain⟨j,c⟩:=p;rw[Y]at hw;simp only at hw⊢;rw[F j (a8 j c Y)];exact hw
 refine⟨T,{split:=by rw[I.split,hl];simp,ra:=bb,kn:=I.kn.putO _ _,keys:=λt x m=>?_,env1:=λk g t M=>?_,env2:=λt ar=>?_,sim:=I.sim,nodefer:=I.nodefer,size:=I.size,slot1:=λk t g a6 M=>?_,slot2:=I.slot2,sub:=λj hj a3=>Ff _ (I.sub j hj a3),lsz:=I.lsz,closed:=I.closed,pendq:=λk g a7=>?_,ext:=I.ext,early1:=λk B g=>?_,early2:=I.early2}⟩;cases J:o.dst with
 |none=>rw[J]at m;exact I.keys t x m
 |some u=>rw[J]at m;simp only[Env.putO,Env.put]at m;rcases A1.1 m with e|m;injection e with e1 _;subst e1;exact oz ok V t J;exact I.keys t x (BU.1 m).1
 rw[U];rcases Ao.1 g with g|g;have D_:k≠i:=λe=>Z (e▸g);rw[F k D_,D! (λe=>D_ (ok.uniq k i t M (by rw[Fk V];exact e)))];exact I.env1 k g t M;have:k=i:=by simpa using g
 subst this;rw[Fk V]at M;rw[C! M,a0];rw[U];have K:o.dst≠δ t:=by have:=ar i k!;rwa [Fk V]at this
 rw[D! K];exact I.env2 t λk g=>ar k (Ff _ g);have D_:k≠i:=by rintro rfl;rw[bm]at g;cases g
 rw[F k D_];exact I.slot1 k t g a6 M;rcases Ao.1 g with E|E;have D_:k≠i:=λe=>Z (e▸E);obtain⟨y,S,a5,W⟩:=I.pendq k E a7;have s:∀j c,y.guard=δ (j,c)->j≠i:=by rintro j c Y rfl;have:=(ok.guard k y j c S Y).1;have A_:=ok.ord l1 l2 I.split k E j (by rw[hl];simp);rw[this]at A_;cases A_
 refine⟨y,S,a5,?_⟩;rw[F k D_];rcases W with⟨K,A_⟩|⟨K,rd,ei,A_,h3,h4,h5,h6,h7⟩;exact .inl ⟨f s K,A_⟩;exact .inr ⟨f s K,rd,ei,a' _ A_,h3,h4,h5,a1 E S h6,h7⟩;have:k=i:=by simpa using E
 subst this;have s:∀j c,o.guard=δ (j,c)->j≠k:=by rintro j c Y rfl;exact af (ok.guard j o j c V Y).1
 refine⟨o,V,G,?_⟩;rw[a0];rcases hq with⟨K,A_⟩|⟨K,rd,A_,h3,h4⟩;exact .inl ⟨f s K,A_⟩;refine .inr ⟨f s K,rd,env,A_,h3,I.kn,I.keys,λt ht=>?_,h4⟩;obtain⟨c1,c2⟩:=ax t ht;exact⟨λq hq M C=>by rw[c1 q hq M C,F q hq],c2⟩;obtain⟨e1,e2⟩:=I.early1 k B g;rw[hl]at e1;rcases A1.1 e1 with e|e1;rw[e,al]at g;cases g;exact⟨e1,e2⟩
def Inv.guardW(ok:Wi ops N l)(I:Inv P N ops l Q env0 X h0 H0 w0 ds0 l1 l2 v pend env H h early L a w){r:List Nat}(G:l2=t::r)(D_:ops[t]?=δ o){B:Prop}(c:Xb ops o.guard env U B):
  (Tu v o ζ/\U)\/(Tu v o η/\B):=by
 unfold Xb at c;unfold Tu;cases i:o.guard with
 |none=>rw[i]at c;exact .inl ⟨rfl,c⟩
 |some p=>
  obtain⟨j,g⟩:=p;rw[i]at c;simp only at c⊢;obtain⟨f,S,d,K⟩:=ok.guard t o j g D_ i;have F:j∈l1:=by
   have m:=ok.all j S;rw[I.split,Ao]at m;rcases m with m|m;exact m;rw[G]at m;rcases A1.1 m with e|m;subst e;have J:=ok.back;exfalso;have C:=I.opd ok G D_;obtain⟨e,M,R,V⟩:=(XW ops.toList []).2 j j o (by simpa using D_) (by simpa using f);have x:∀(n q k:Nat),q<n->q<=j->PC (IB ops.toList []) k q=ζ->k<q:=by
    intro n;induction n with
    |zero=>intro q k h;omega
    |succ n A_=>
     intro q k W T u;have y:q<ops.size:=by have:=Vf D_;omega
     obtain⟨e,M,E,C⟩:=(XW ops.toList []).2 q k ops[q] (by simp[y]) (by simpa using u);have J:=ok.back q ops[q] (by simp[y]) e (by simpa using M) E;rcases C with C|⟨C,O⟩;omega;have:=A_ e.on k o! o! O;omega
   have:=x (j+1) j j o! (Ai _) f;omega;have:=ok.ord (l1++[t]) r (by rw[I.split,G];simp) t k! j m;rw[f]at this;cases this
  have z:V6 ops env j=v j:=by unfold V6;rw[show(ops[j]?).bind (·.dst)=δ d from K];exact I.env1 j F d K
  rw[z]at c;split at c;rename_i b u;by_cases s:b=g;exact .inl ⟨.inl ⟨b,u,by simp[s]⟩,c.1 s⟩;exact .inr ⟨.inl ⟨b,u,by simp[s]⟩,c.2 (by cases b<;>cases g<;>simp_all)⟩;rename_i u;exact .inr ⟨.inr ⟨u,O!⟩,c⟩;exact c.elim
end
section
variable {P:Program}{N:Nat}{ops:Array Oper}{l:List Nat}{Q:Env->Ap->Prop}{env0:Env}{X:Nat->Prop}{h0:Gh}{H0:Ap}{w0:World}{ds0:List Deferred}
theorem V7(a:ops[N]?=δ o):H5 ops N=ζ↔∃t,o.op=.alloc t:=by grind[H5]
theorem dv(h:Vo P ops=ζ)(i:ops[N]?=δ o)(a:o.op=.alloc b):(∃z,YZ P b=δ z)/\o.guard=ε:=by have:=Fo.1 h o (by rw[Array.mem_toList_iff];exact uV i);rw[a]at this;simp at this;grind[Option.isSome_iff_exists]
def Inv.adopt(ok:Wi ops N l)(ha:Vo P ops=ζ)(hX:∀B,X B→B<w0.heap.size){l1:List Nat}{v:Nat→AV}{a5:List (Nat×List Nat)}{env:Env}{H:Ap}{h:Gh}{early:Nat→Option Nat}{L:Array Bool}{a:Act}{w:World}
  {i:Nat}{r:List Nat} (I:Inv P N ops l Q env0 X h0 H0 w0 ds0 l1 (i::r) v a5 env H h early L a w) {B:Nat} (hB:early i=δ B):
  ∃v' ad H' h' c,Inv P N ops l Q env0 X h0 H0 w0 ds0 (l1++[i]) r v' a5 ad H' h' c L a w:=by
 obtain⟨e1,e2,e3,e4,o,t,z,U,R,al,hz,bz,b7,bl⟩:=I.early1 i B hB;have ch:H5 ops i=ζ:=(V7 R).2 ⟨t,al⟩;have hg:=(dv ha R al).2;have a0:=I.ra;simp only[RA,R,hg,Xb,ch,Bool.true_eq_false,false_and,false_or]at a0;obtain⟨M,z',a3,ca,_,a0⟩:=a0;rw[al]at a3;injection a3 with et;subst et;rw[hz]at ca;injection ca with ez;subst ez;have b6:=ok.nodup;rw[I.split]at b6;have b1:i∉l1:=λhm=>(QO.1 b6).2.2 i hm i k! rfl;let u:AV:=.ptr (θ H) 0 0;let v':Nat->AV:=λk=>if k=i then u else v k;have ap:∀k,k≠i->v' k=v k:=λk O=>by simp[v',O]
 have b9:v' i=u:=by simp[v']
 let c:Nat->Option Nat:=λk=>if k=i then ε else early k;have W:∀k C,c k=δ C->k≠i/\early k=δ C:=by intro k C O;simp only[c]at O;split at O;cases O;exact⟨v!,O⟩
 have a1:∀t,(env.putO o.dst u).get t=if o.dst=δ t then u else env.get t:=by
  intro t;cases o.dst with
  |none=>simp[Env.putO]
  |some d=>simp only[Env.putO,Fx,Al];by_cases h:d=t;subst h;simp;rw[D! h,D! (λe=>h e.symm)]
 have cd:∀{k:Nat}{K:Oper}{ei:Env},k∈l1->ops[k]?=δ K->Opd ops env0 v k K ei->Opd ops env0 v' k K ei:=by intro k K ei a8 ax al t ht;obtain⟨c1,c2⟩:=al t ht;refine⟨λq hq hd a4=>?_,c2⟩;rw[c1 q hq hd a4,ap];rintro rfl;have:=ok.ord l1 (q::r) I.split k a8 q k!;rw[a4]at this;cases this
 have T:∀{o':Oper}{b:Bool},(∀j D_,o'.guard=δ (j,D_)->j≠i)->Tu v o' b->Tu v' o' b:=by
  intro o' b bb hw;unfold Tu at hw⊢;cases hg:o'.guard with
  |none=>rw[hg]at hw;exact hw
  |some p=>obtain⟨j,D_⟩:=p;rw[hg]at hw;simp only at hw⊢;rw[ap j (bb j D_ hg)];exact hw
 have ao:∀C,owned (h.at_ (θ H) (δ B) 0 U.size) (H++[.live 0 z]) C->owned h H C\/C=B:=by rintro C ⟨id,e,he,bb,S⟩;rcases Il he with⟨s,he⟩|⟨rfl,rfl⟩;exact .inl ⟨id,e,he,bb,by simpa[Gh.at_,BX s]using S⟩;simp[Gh.at_]at S;exact .inr S.symm
 have hl:(cx (XR X early) h H w).Later (cx (XR X c) (h.at_ (θ H) (δ B) 0 U.size) (H++[.live 0 z]) w):=by refine⟨Ai _,λ_ _ _ _=>rfl,λC _ hO=>?_,by simp[cx],λid A_=>by simp only[cx]at A_;simp[cx,Gh.at_,BX A_],λid A_ _=>by simp only[cx]at A_;simp[cx,Gh.at_,BX A_]⟩;rcases hO with(hO|⟨k,O⟩)|hO;exact .inl (.inl hO);exact .inl (.inr ⟨k,(W k C O).2⟩);rcases ao C hO with hO|rfl;exact .inr hO;exact .inl (.inr ⟨i,hB⟩)
 have b5:¬owned h H B:=(I.sim.out B (.inr ⟨i,hB⟩)).2;have b8:IC (XR X c) (h.at_ (θ H) (δ B) 0 U.size) (H++[.live 0 z]) w:=by
  refine⟨λC V=>?_,λid g cs he=>?_,λid L' he=>?_,λid ct e e' C h1 h2 b3 b4 h3 h4=>?_,I.sim.bldKeep λid e he hB=>?_⟩;have b':XR X early C:=by rcases V with V|⟨k,O⟩;exact .inl V;exact .inr ⟨k,(W k C O).2⟩
  refine⟨(I.sim.out C b').1,λR=>?_⟩;rcases ao C R with R|rfl;exact(I.sim.out C b').2 R;rcases V with V|⟨k,O⟩;have:=hX C V;omega;obtain⟨k1,k2⟩:=W k C O;exact k1 (I.early2 k i C k2 hB);rcases Il he with⟨s,ag⟩|⟨rfl,e⟩;obtain⟨hg,bN⟩:=I.sim.live id g cs ag;refine⟨by simpa[cx,Gh.at_,BX s]using hg,?_⟩;rcases bN with⟨hn,rfl⟩|⟨B1,Z,T',cg,f,S,hb,bG,a',a7,E⟩;exact .inl ⟨by simpa[cx,Gh.at_,BX s]using hn,rfl⟩;refine .inr ⟨B1,Z,T',cg,f,by simpa[cx,Gh.at_,BX s]using S,hb,by simpa[cx,Gh.at_,BX s]using bG,a',a7,λj v hj=>?_⟩;obtain⟨p1,p2,p3⟩:=E j v hj;exact⟨p1,p2,p3.later hl⟩;injection e with e1 e2;subst e1 e2;obtain⟨f,a',a7,E⟩:=P1 (b7.later hl);exact⟨by simp[cx,Gh.at_],.inr ⟨B,U,t,(0,0),f,by simp[cx,Gh.at_],bz,by simp[cx,Gh.at_],a',a7,E⟩⟩;rcases Il he with⟨s,ag⟩|⟨rfl,e⟩;obtain⟨hg,B1,r1,S,hb,p1,p2,p3,p4,p5,p6,p7⟩:=I.sim.lp id L' ag;exact⟨by simpa[cx,Gh.at_,BX s]using hg,B1,r1,by simpa[cx,Gh.at_,BX s]using S,hb,p1,p2,p3,p4,p5,p6,λt v m=>⟨(p7 t v m).1,(p7 t v m).2.later hl⟩⟩;cases e;rcases Il h1 with⟨cb,bm⟩|⟨rfl,_⟩<;>rcases Il h2 with⟨cc,bt⟩|⟨rfl,_⟩;exact I.sim.inj _ _ _ _ C bm bt b3 b4 (by simpa[Gh.at_,BX cb]using h3) (by simpa[Gh.at_,BX cc]using h4);simp[Gh.at_]at h4;subst h4;exact(b5 ⟨id,e,bm,b3,by simpa[Gh.at_,BX cb]using h3⟩).elim;simp[Gh.at_]at h3;subst h3;exact(b5 ⟨ct,e',bt,b4,by simpa[Gh.at_,BX cc]using h4⟩).elim;rfl;rcases Il he with⟨s,ag⟩|⟨rfl,e⟩;exact⟨ag,by simp[Gh.at_,BX s],by simp[Gh.at_,BX s],by simp[Gh.at_,BX s],λ_ _ _ _ _=>rfl⟩;subst e;cases hB
 have b0:Gq h0 H0 w0 (h.at_ (θ H) (δ B) 0 U.size) (H++[.live 0 z]) w:=by have x:=I.ext;refine⟨x.os,x.tape,x.output,x.size,x.keep,by have:=x.n;simp;omega,λid A_=>?_,λid A_ e=>?_,λC R=>?_,x.loops⟩;have s:id<θ H:=C2 A_ x.n;simpa[Gh.at_,BX s]using x.gen id A_;have s:id<θ H:=C2 A_ x.n;have:=x.same id A_ (by simpa[Gh.at_,BX s]using e);simpa[Gh.at_,BX s]using this;rcases ao C R with R|rfl;exact x.fresh C R;exact .inr e3
 refine⟨v',env.putO o.dst u,H++[.live 0 z],h.at_ (θ H) (δ B) 0 U.size,c,?_⟩;refine{split:=by rw[I.split];simp,ra:=a0,kn:=I.kn.putO _ _,keys:=λM y m=>?_,env1:=λk G M F=>?_,env2:=λM ar=>?_,sim:=b8,nodefer:=I.nodefer,size:=I.size,slot1:=λk M G cn F=>?_,slot2:=λM ar=>(I.slot2 M ar).later hl,sub:=λj hj ci=>?_,lsz:=I.lsz,closed:=I.closed,pendq:=λk a8 a9=>?_,ext:=b0,early1:=λk C O=>?_,early2:=λk j C h1 h2=>I.early2 k j C (W k C h1).2 (W j C h2).2};cases af:o.dst with
 |none=>rw[af]at m;exact I.keys M y m
 |some d=>rw[af]at m;simp only[Env.putO,Env.put]at m;rcases A1.1 m with e|m;injection e with e1 _;subst e1;exact oz ok R M af;exact I.keys M y (BU.1 m).1
 rw[a1];rcases Ao.1 G with G|G;have J:k≠i:=λe=>b1 (e▸G);rw[ap k J,D! (λe=>J (ok.uniq k i M F (by rw[Fk R];exact e)))];exact I.env1 k G M F;have:k=i:=by simpa using G
 subst this;rw[Fk R]at F;rw[C! F,b9];rw[a1];have h1:o.dst≠δ M:=by have:=ar i k!;rwa [Fk R]at this
 rw[D! h1];exact I.env2 M λk O=>ar k (Ff _ O);by_cases J:k=i;subst J;rw[Fk R]at F;rw[b9,bl M F];exact .ptr (by simp[cx]) (by simp[cx,Gh.at_]) rfl λ_=>⟨B,by simp[cx,Gh.at_],rfl⟩
 rw[ap k J];exact(I.slot1 k M G (by simpa[c,J]using cn) F).later hl;by_cases b2:j=i;subst b2;simp;exact Ff _ (I.sub j hj (by simpa[c,b2]using ci));rcases Ao.1 a8 with Y|Y;have J:k≠i:=λe=>b1 (e▸Y);obtain⟨K,ax,cm,a6⟩:=I.pendq k Y a9;have a2:∀j D_,K.guard=δ (j,D_)->j≠i:=by rintro j D_ hg rfl;have:=(ok.guard k K j D_ ax hg).1;have h2:=ok.ord l1 (j::r) I.split k Y j k!;rw[this]at h2;cases h2
 refine⟨K,ax,cm,?_⟩;rw[ap k J];rcases a6 with⟨h1,h2⟩|⟨h1,rd,ei,h2,h3,h4,h5,h6,h7⟩;exact .inl ⟨T a2 h1,h2⟩;refine .inr ⟨T a2 h1,rd,ei,h2,λid A_=>by have:=h3 id A_;simp;omega,h4,h5,cd Y ax h6,λad ce he hh=>h7 ad ce he λid A_=>?_⟩;rw[hh id A_,CO (h3 id A_)];have:k=i:=by simpa using Y
 subst this;rw[e2]at a9;cases a9;obtain⟨k1,k2⟩:=W k C O;obtain⟨f1,f2,f3,f4,o',M,z',Z,f5,f6,f7,f8,f9,cf⟩:=I.early1 k C k2;rcases A1.1 f1 with e|f1;exact(k1 e).elim;exact⟨f1,f2,f3,f4,o',M,z',Z,f5,f6,f7,f8,f9.later hl,cf⟩
def Mid(P:Program)(N:Nat)(ops:Array Oper)(l:List Nat)(Q:Env->Ap->Prop)(env0:Env)(X:Nat->Prop)(h0:Gh)(H0:Ap)(w0:World)(ds0:List Deferred)(L:Array Bool)(a:Act)(w:World):Prop:=
 ∃l1 l2 v pend env H h early,Inv P N ops l Q env0 X h0 H0 w0 ds0 l1 l2 v pend env H h early L a w
def UG(ok:Wi ops N l)(T:Vo P ops=ζ)(S:∀B,X B→B<w0.heap.size){L:Array Bool}{a:Act}{w:World}{i:Nat}{o:Oper}(C:ops[i]?=δ o)(g:H5 ops i=η)(s:∀e∈o.after,Region.binds .any e=ζ→L.getD e.on η=ζ):
  ∀(l2 l1:List Nat)(v:Nat->AV)(b:List (Nat×List Nat))(env:Env)(H:Ap)(h:Gh)(early:Nat->Option Nat),Inv P N ops l Q env0 X h0 H0 w0 ds0 l1 l2 v b env H h early L a w->∃l1 l2 v b env H h early,Inv P N ops l Q env0 X h0 H0 w0 ds0 l1 l2 v b env H h early L a w/\(i∈l1\/∃r,l2=i::r/\Tu v o ζ/\∃F,(∀j∈r,PC (IB ops.toList []) i j=ζ\/H5 ops j=ζ)/\(∀p∈b,PC (IB ops.toList []) p.1 i=ζ\/∀id∈p.2,id∉F)/\∃K,Eff P N o env H F K/\(∀v y,K v y->θ H<=θ y)/\∀v y,K v y->RA P N ops r b (env.putO o.dst v) y Q)
 |[],l1,v,b,env,H,h,early,I=>by have k:=ok.all i (Vf C);rw[I.split,Dl]at k;exact⟨l1,[],v,b,env,H,h,early,I,.inl k⟩
 |q::r,l1,v,b,env,H,h,early,I=>by
  by_cases G:i∈l1;exact⟨l1,q::r,v,b,env,H,h,early,I,.inl G⟩
  ·cases E:early q with
   |some B=>obtain⟨O,ao,y,h',m,D_⟩:=I.adopt ok T S E;exact UG ok T S C g s r _ O _ _ y h' m D_
   |none=>
    have M:=I.ra;have ag:q<ops.size:=ok.lt q (by rw[I.split];simp);have c:ops[q]?=δ (ops[q]):=by simp[ag]
    generalize ap:ops[q]=oq at c;have x:(∀j∈r,PC (IB ops.toList []) q j=ζ\/H5 ops j=ζ)->i=q:=by intro f;have k:=ok.all i (Vf C);rw[I.split,Ao]at k;rcases k with k|k;exact(G k).elim;rcases A1.1 k with e|k;exact e;rcases f i k with R|R;have hd:=dQ I.closed (i+1) i o o! C s R;have af:=I.sub q hd E;have J:=ok.nodup;rw[I.split]at J;exact((QO.1 J).2.2 q af q k! rfl).elim;rw[g]at R;cases R
    simp only[RA,c]at M;rcases I.guardW ok rfl c M with⟨U,(⟨n,u,rd,hQ,al,d⟩|⟨n,F,f,V,K,W,Y,Z⟩|⟨t,z,ad,hz,f,d⟩)⟩|⟨U,n,d⟩
    ·obtain⟨O,D_⟩:=I.next ok rfl c (pend':=(q,rd)::b) n d (λp s=>CN _ s) (.inr ⟨U,rd,k!,al,hQ⟩)
     exact UG ok T S C g s r _ O _ _ H h early D_
    have A_:=x f;subst A_;rw[C]at c;injection c with e;subst e;exact⟨l1,i::r,v,b,env,H,h,early,I,.inr ⟨r,rfl,U,F,f,V,K,W,Y,Z⟩⟩;have A_:=x f;subst A_;have:=(V7 c).2 ⟨t,ad⟩;rw[g]at this;cases this
    ·obtain⟨O,D_⟩:=I.next ok rfl c (pend':=(q,[])::b) n d (λp s=>CN _ s) (.inl ⟨U,rfl⟩)
     exact UG ok T S C g s r _ O _ _ H h early D_
def Vl{K b:Act->World->Prop}{c:Exit->Act->World->Prop}(h:Oper.wpIn (FR j) 0 P o a w K c)(d:∀a w,K a w->b a w):Oper.wpIn (FR j) 0 P o a w b c:=Oper.wpIn_mono d h
def Inv.make(ok:Wi ops N l)(ha:Vo P ops=ζ){l1 l2:List Nat}{v:Nat→AV}{K:List (Nat×List Nat)}{env:Env}{H:Ap}{h:Gh}{early:Nat→Option Nat}{L:Array Bool}{a:Act}{w:World}{Q0:Exit→Act→World→Prop}{ro:Option Nat}
  (I:Inv P N ops l Q env0 X h0 H0 w0 ds0 l1 l2 v K env H h early L a w) {i:Nat}{o:Oper}{t:TypeId} (u:ops[i]?=δ o) (y:o.op=.alloc t) (a4:L.getD i η=η)
  (hp:∀e∈o.after,Region.binds .any e=ζ->L.getD e.on η=ζ):
  Oper.wpIn (FR ro) 0 P o a w (λa' C=>∃b,Inv P N ops l Q env0 X h0 H0 w0 ds0 l1 l2 v K env H h b (L.setIfInBounds i ζ) a' C) Q0:=by
 obtain⟨⟨z,hz⟩,hg⟩:=dv ha u y;have a8:H5 ops i=ζ:=(V7 u).2 ⟨t,y⟩;obtain⟨b1,zv,hi,bt,rz⟩:=da (cx (XR X early) h H w) hz;have a2:(execOp a.eval o).run P w=.ok (.value (.pointer (δ ⟨w.heap.size,0,ε⟩))) {w with heap:=w.heap.push (.cells zv.cells t)}:=by unfold execOp;rw[y];simp[Instr.alloc,zeroValue,typeInfo,hi,bt,newVar,newRow]
 refine⟨λ_ _=>O!,?_⟩;rw[Oper.semAt_eq _ _ _ (λc hc=>by rw[y]at hc;cases hc),a2,Oper.uponIn_value];let b:Nat->Option Nat:=λk=>if k=i then δ w.heap.size else early k;generalize s:({w with heap:=w.heap.push (.cells zv.cells t)}:World)=C;have b0:C.heap.size=w.heap.size+1:=by rw[<-s];simp
 have q:∀k,k<w.heap.size->C.heap[k]?=w.heap[k]? :=λk r=>by rw[<-s];simp[TC,BX r]
 have bm:C.heap[w.heap.size]?=δ (.cells zv.cells t):=by rw[<-s];simp
 have U:C.os=w.os:=by rw[<-s]
 have V:C.tape=w.tape:=by rw[<-s]
 have A_:C.output=w.output:=by rw[<-s]
 have al:i∉l1:=by intro hm;obtain⟨o',bN,ao,_⟩:=I.pendq i hm a4;rw[a8]at ao;cases ao
 have bb:i∈l2:=by have:=ok.all i (Vf u);rw[I.split,Ao]at this;exact this.resolve_left al
 have bz:early i=ε:=by
  cases G:early i with
  |none=>rfl
  |some B=>have:=(I.early1 i B G).2.1;rw[a4]at this;cases this
 have a6:=I.sim.grow U V A_ o! q;have bG:=(Gq.grow (h:=h) (H:=H) U V A_ o! q).later (XR X early);have J:∀B,owned h H B->B<w.heap.size:=by rintro B ⟨id,e,G,S,x⟩;exact I.sim.io_at G S x
 have a5:∀B,XR X b B->XR X early B\/B=w.heap.size:=by rintro B (O|⟨k,r⟩);exact .inl (.inl O);simp only[b]at r;split at r;injection r with e;exact .inr e.symm;exact .inl (.inr ⟨k,r⟩)
 have W:(cx (XR X early) h H w).Later (cx (XR X b) h H C):=by refine⟨by simp only[cx];omega,λB O _=>lP (q B O),λB O Z=>?_,Ai _,λ_ _=>Ai _,λ_ _ _=>⟨rfl,rfl⟩⟩;rcases Z with Z|Z;rcases a5 B Z with D_|rfl;exact .inl D_;simp only[cx]at O;omega;exact .inr Z
 have a3:IC (XR X b) h H C:=by refine⟨λB O=>?_,λid g cs G=>?_,λid L' G=>?_,I.sim.inj,I.sim.bldKeep λid e G _=>⟨G,rfl,rfl,rfl,λB o _ R _=>q B (PG R)⟩⟩;rcases a5 B O with D_|rfl;exact a6.out B D_;exact⟨o!,λu=>by have:=J _ u;omega⟩;obtain⟨hg,ag⟩:=I.sim.live id g cs G;refine⟨hg,?_⟩;rcases ag with⟨hn,rfl⟩|⟨B,M,T,fz,f,x,R,ad,bl,a9,E⟩;exact .inl ⟨hn,rfl⟩;refine .inr ⟨B,M,T,fz,f,x,(q B (PG R)).trans R,ad,bl,a9,λj v hj=>?_⟩;obtain⟨p1,p2,p3⟩:=E j v hj;exact⟨p1,p2,p3.later W⟩;obtain⟨hg,B1,r1,x,R,p1,p2,p3,p4,p5,p6,p7⟩:=I.sim.lp id L' G;exact⟨hg,B1,r1,x,(q B1 (PG R)).trans R,p1,p2,p3,p4,p5,p6,λt v m=>⟨(p7 t v m).1,(p7 t v m).2.later W⟩⟩
 have p:i<L.size:=by rw[I.lsz];exact Vf u
 have hd:∀t,o.dst=δ t->t<a.tmps.size:=λt ht=>by rw[I.size];exact oz ok u t ht
 refine⟨b,?_⟩;refine{split:=I.split,ra:=I.ra,kn:=I.kn,keys:=I.keys,env1:=I.env1,env2:=I.env2,sim:=a3,nodefer:=?_,size:=(dS _ _ _).trans I.size,slot1:=λk t r a0 af=>?_,slot2:=λt J=>?_,sub:=λj hj ap=>?_,lsz:=by rw[oJ];exact I.lsz,closed:=mH I.closed p u hp,pendq:=λk ax a1=>?_,ext:=I.ext.trans (Gq.grow U V A_ o! q),early1:=λk B r=>?_,early2:=λj k B D_ Y=>?_};rw[show(a.put o.dst _).defers=a.defers by cases o.dst<;>rfl];exact I.nodefer;have n:k≠i:=by rintro rfl;simp[b]at a0
 rw[G5 p,D! n]at r;rw[SZ hd,D! (λe=>n (ok.uniq k i t af (by rw[Fk u];exact e)))];exact(I.slot1 k t r (by simpa[b,n]using a0) af).later W;rw[SZ hd];have S:o.dst≠δ t:=by have:=J i (by rw[G5 p,C! rfl]);rwa [Fk u]at this
 rw[D! S];refine(I.slot2 t λk r=>J k ?_).later W;rw[G5 p];split;rfl;exact r;have ar:j≠i:=by rintro rfl;simp[b]at ap
 rw[G5 p,D! ar]at hj;exact I.sub j hj (by simpa[b,ar]using ap);have n:k≠i:=λe=>al (e▸ax);rw[G5 p,D! n]at a1;exact I.pendq k ax a1;by_cases n:k=i;subst n;simp only[b,if_true]at r;injection r with e;subst e;refine⟨bb,by rw[G5 p,C! rfl],I.ext.size,o!,o,t,z,zv.cells,u,y,hz,bm,rz.later W,λd F=>?_⟩;rw[SZ hd,C! F];simp only[b,D! n]at r;obtain⟨e1,e2,e3,e4,o',t',z',M,e5,e6,e7,e8,e9,a7⟩:=I.early1 k B r;refine⟨e1,by rw[G5 p,D! n];exact e2,e3,o!,o',t',z',M,e5,e6,e7,(q B e4).trans e8,e9.later W,λd F=>?_⟩;rw[SZ hd,D! (λe=>n (ok.uniq k i d (by rw[Fk e5];exact F) (by rw[Fk u];exact e)))];exact a7 d F;simp only[b]at D_ Y;split at D_<;>split at Y;simp_all;injection D_ with e;have:=(I.early1 k B Y).2.2.2.1;omega;injection Y with e;have:=(I.early1 j B D_).2.2.2.1;omega;exact I.early2 j k B D_ Y
def Mid.step(ok:Wi ops N l)(ha:Vo P ops=ζ)(hX:∀B,X B→B<w0.heap.size){L:Array Bool}{a:Act}{w:World}{Q0:Exit→Act→World→Prop}{ro:Option Nat}(M:Mid P N ops l Q env0 X h0 H0 w0 ds0 L a w){i:Nat}{o:Oper}(n:ops[i]?=δ o)(E:L.getD i η=η)
  (Y:∀e∈o.after,Region.binds .any e=ζ->L.getD e.on η=ζ):wpOpIn (FR ro) 0 P ops Q0 i (Mid P N ops l Q env0 X h0 H0 w0 ds0 (L.setIfInBounds i ζ)) a w:=by
 cases a1:H5 ops i with
 |true=>
  obtain⟨t,a7⟩:=(V7 n).1 a1;have hg:=(dv ha n a7).2;obtain⟨l1,l2,v,s,env,H,h,early,I⟩:=M;unfold wpOpIn;rw[n];simp only;have J:Region.wanted o (yielded ops a.tmps)=ζ:=by unfold Region.wanted;rw[hg]
  rw[J];simp only[if_true];refine(Vl (I.make ok ha n a7 E Y) ?_);rintro a' w' ⟨af,I'⟩;exact⟨l1,l2,v,s,env,H,h,af,I'⟩
 |false=>
 obtain⟨l1,l2,v,s,env,H,h,early,I⟩:=M;obtain⟨l1,l2,v,s,env,H,h,early,I,A_⟩:=UG ok ha hX n a1 Y l2 l1 v s env H h early I;have G:∀k,PC (IB ops.toList []) k i=ζ->early k=ε:=by
  intro k D_;by_cases f:k=i;subst f;cases he:early k with
  |none=>rfl
  |some B=>have:=(I.early1 k B he).2.1;rw[E]at this;cases this
  refine I.noEarly ok ?_ k D_ f;rcases A_ with h1|⟨r,h1,_⟩;exact .inl h1;exact .inr ⟨r,h1⟩
 unfold wpOpIn;rw[n];simp only;rcases A_ with ap|⟨r,rfl,J,F,b5,bm,K,ax,bt,bz⟩
 ·obtain⟨o',a5,_,b4⟩:=I.pendq i ap E;rw[n]at a5;injection a5 with e;subst e;rcases b4 with⟨J,ag⟩|⟨J,rd,ei,_,_,kn,T,W,hQ⟩
  ·rw[I.wanted ok n G Y J];simp only[PY,if_false];exact⟨λ_ _=>O!,l1,l2,v,s,env,H,h,early,I.done ok n ap E Y I.sim (Gq.refl _ _ _) (by rw[ag];exact .tup rfl λ_ _ _ h=>by cases h)⟩
  ·rw[I.wanted ok n G Y J];simp only[if_true];refine(Vl (hQ (look o ei) H (yI o ei) (λ_ _=>rfl) ro (XR X early) h a w ⟨I.sim,I.look ok n E Y G kn T W,I.size⟩ Q0) ?_);rintro a' w' ⟨c,u,h',H',rfl,⟨rfl,rfl⟩,hv,sim,x⟩;exact⟨l1,l2,v,s,env,_,h',early,I.done ok n ap E Y sim x hv⟩
 rw[I.wanted ok n G Y J];simp only[if_true];have W:=I.opd ok rfl n;refine(Vl (ax.1 (look o env) (yI o env) ro (XR X early) h a w ⟨I.sim,I.look ok n E Y G I.kn I.keys W,I.size⟩ Q0) ?_);rintro a' w' ⟨c,u,h',H',rfl,T,hv,sim,x⟩;have a4:=ok.nodup;rw[I.split]at a4;have bN:i∉l1:=λhm=>(QO.1 a4).2.2 i hm i k! rfl;have hi:i<L.size:=by rw[I.lsz];exact Vf n
 have hl:=x.later (XR X early);let v':Nat->AV:=λk=>if k=i then u else v k;have Z:∀k,k≠i->v' k=v k:=λk T=>by simp[v',T]
 have ag:v' i=u:=by simp[v']
 have hd:∀t,o.dst=δ t->t<a.tmps.size:=λt ht=>by rw[I.size];exact oz ok n t ht
 have al:∀t,(env.putO o.dst u).get t=if o.dst=δ t then u else env.get t:=by
  intro t;cases o.dst with
  |none=>simp[Env.putO]
  |some d=>simp only[Env.putO,Fx,Al];by_cases h:d=t;subst h;simp;rw[D! h,D! (λe=>h e.symm)]
 refine⟨l1++[i],r,v',s,env.putO o.dst u,H',h',early,?_⟩;refine{split:=by rw[I.split];simp,ra:=bz u H' T,kn:=I.kn.putO _ _,keys:=λt y m=>?_,env1:=λk g t C=>?_,env2:=λt V=>?_,sim:=sim,nodefer:=?_,size:=(dS _ _ _).trans I.size,slot1:=λk t g b3 C=>?_,slot2:=λt V=>?_,sub:=λj hj b0=>?_,lsz:=by rw[oJ];exact I.lsz,closed:=mH I.closed hi n Y,pendq:=λk b1 U=>?_,ext:=I.ext.trans x,early1:=λk B g=>?_,early2:=I.early2};cases R:o.dst with
 |none=>rw[R]at m;exact I.keys t y m
 |some d=>rw[R]at m;simp only[Env.putO,Env.put]at m;rcases A1.1 m with e|m;injection e with e1 _;subst e1;exact oz ok n t R;exact I.keys t y (BU.1 m).1
 rw[al];rcases Ao.1 g with g|g;have f:k≠i:=λe=>bN (e▸g);rw[Z k f,D! (λe=>f (ok.uniq k i t C (by rw[Fk n];exact e)))];exact I.env1 k g t C;have:k=i:=by simpa using g
 subst this;rw[Fk n]at C;rw[C! C,ag];rw[al];have h1:o.dst≠δ t:=by have:=V i k!;rwa [Fk n]at this
 rw[D! h1];exact I.env2 t λk T=>V k (Ff _ T);rw[show(a.put o.dst c).defers=a.defers by cases o.dst<;>rfl];exact I.nodefer;rw[SZ hd];rw[G5 hi]at g;by_cases f:k=i;subst f;rw[Fk n]at C;rw[C! C,ag];exact hv;rw[D! f]at g;rw[D! (λe=>f (ok.uniq k i t C (by rw[Fk n];exact e))),Z k f];exact(I.slot1 k t g b3 C).later hl;rw[SZ hd];have G:o.dst≠δ t:=by have:=V i (by rw[G5 hi,C! rfl]);rwa [Fk n]at this
 rw[D! G];refine(I.slot2 t λk T=>V k ?_).later hl;rw[G5 hi];split;rfl;exact T;rw[G5 hi]at hj;by_cases a2:j=i;subst a2;simp;rw[D! a2]at hj;exact Ff _ (I.sub j hj b0);rw[G5 hi]at U;by_cases f:k=i;subst f;simp at U;rw[D! f]at U;have a3:k∈l1:=by rcases Ao.1 b1 with h|h;exact h;exact(f (by simpa using h)).elim
 obtain⟨ad,a6,b2,A_⟩:=I.pendq k a3 U;have ao:PC (IB ops.toList []) i k=η:=ok.ord l1 (i::r) I.split k a3 i k!;have O:∀{b:Bool},Tu v ad b->Tu v' ad b:=by
  intro b J;unfold Tu at J⊢;cases hg:ad.guard with
  |none=>rw[hg]at J;exact J
  |some p=>
   obtain⟨j,a8⟩:=p;rw[hg]at J;simp only at J⊢;have:j≠i:=by rintro rfl;have:=(ok.guard k ad j a8 a6 hg).1;rw[ao]at this;cases this
   rw[Z j this];exact J
 refine⟨ad,a6,b2,?_⟩;rw[Z k f];rcases A_ with⟨q1,q2⟩|⟨q1,rd,ei,q2,q3,q4,q5,q6,q7⟩;exact .inl ⟨O q1,q2⟩;refine .inr ⟨O q1,rd,ei,q2,λid S=>C2 (q3 id S) (bt u H' T),q4,q5,λt ht=>?_,λar a9 he hh=>q7 ar a9 he λid S=>?_⟩;obtain⟨c1,c2⟩:=q6 t ht;refine⟨λq hq bG D_=>?_,c2⟩;rw[c1 q hq bG D_,Z];rintro rfl;rw[ao]at D_;cases D_;rw[hh id S];apply ax.2 u H' T id (q3 id S);rcases bm (k,rd) q2 with h1|h1;have:=dQ I.closed (i+1) i o o! n Y h1;simp only at this;rw[U]at this;cases this;exact h1 id S;obtain⟨e1,e2,e3,e4,o',t,z,bb,e5,e6,e7,e8,e9,bl⟩:=I.early1 k B g;have f:k≠i:=by rintro rfl;rw[E]at e2;cases e2
 refine⟨(A1.1 e1).resolve_left f,by rw[G5 hi,D! f];exact e2,e3,C2 e4 x.size,o',t,z,bb,e5,e6,e7,?_,e9.later hl,λd a0=>?_⟩;exact(x.keep B e4 (I.sim.out B (.inr ⟨k,g⟩)).2).trans e8;rw[SZ hd,D! (λe=>f (ok.uniq k i d (by rw[Fk e5];exact a0) (by rw[Fk n];exact e)))];exact bl d a0
theorem Inv.end_(ok:Wi ops N l)(s:Vo P ops=ζ)(p:∀B,X B→B<w0.heap.size){L:Array Bool}{a:Act}{w:World}(e:∀i,i<ops.size→L.getD i η=ζ):
  ∀(l2 l1:List Nat)(v:Nat->AV)(c:List (Nat×List Nat))(env:Env)(H:Ap)(h:Gh)(early:Nat->Option Nat),Inv P N ops l Q env0 X h0 H0 w0 ds0 l1 l2 v c env H h early L a w->
  ∃o b g,Q b g/\St X o N b g a w/\Gq h0 H0 w0 o g w/\a.defers=ds0
 |q::r,l1,v,c,env,H,h,early,I=>by
  cases j:early q with
  |some B=>obtain⟨G,b,g,o,d,y⟩:=I.adopt ok s p j;exact Inv.end_ ok s p e r _ G _ _ g o d y
  |none=>have J:=I.sub q (e q (ok.lt q (by rw[I.split];simp))) j;have E:=ok.nodup;grind[I.split]
 |[],l1,v,c,env,H,h,early,I=>by
  have D_:∀k,early k=ε:=by
   intro k;cases C:early k with
   |none=>rfl
   |some B=>have:=(I.early1 k B C).1;cases this
  have n:XR X early=X:=by funext B;apply propext;constructor;rintro(z|⟨k,x⟩);exact z;grind;exact .inl
  have f:=I.sim;rw[n]at f;refine⟨h,env,H,I.ra,⟨f,λt u m=>⟨by rw[I.size];exact I.keys t u m,?_⟩,I.size⟩,I.ext,I.nodefer⟩;rw[<-n,<-I.kn t u m];by_cases F:∃k∈l1,U2 ops k=δ t;have⟨k,x,A_⟩:=F;rw[I.env1 k x t A_];grind[Xv,I.slot1,Vf];grind[I.env2,I.slot2,I.sub]
def Mid.end_(ok:Wi ops N l)(x:Vo P ops=ζ)(u:∀B,X B→B<w0.heap.size){w:World}(M:Mid P N ops l Q env0 X h0 H0 w0 ds0 L a w)(hr:Region.ready .any ops L=[]):
  ∃o b g,Q b g/\St X o N b g a w/\Gq h0 H0 w0 o g w/\a.defers=ds0:=by
 obtain⟨l1,l2,v,f,env,H,h,early,I⟩:=M;have c:∀(n i:Nat),i<n->i<ops.size->L.getD i η=ζ:=by
  intro n;induction n with
  |zero=>intro i h;omega
  |succ n z=>
   intro i q d;cases p:L.getD i η with
   |true=>rfl
   |false=>
    have m:i<L.size:=by rw[I.lsz];exact d
    have j:L.getD i ζ=η:=by rw[QS,Nr m]at p⊢;simpa using p
    have t:ops[i]?=δ (ops[i]):=by simp[d]
    have s:i∈Region.ready .any ops L:=by rw[mem_ready];refine⟨j,_,t,λe y k=>?_⟩;have r:=ok.back i _ t e y k;exact z e.on o! o!
    rw[hr]at s;cases s
 exact Inv.end_ ok x u (λi q=>c (i+1) i o! q) l2 l1 v f env H h early I
theorem uu{p q:Nat->Bool}(h:∀j,q j=ζ->p j=ζ):∀l:List Nat,(l.filter q).length<=(l.filter p).length
 |[]=>k!
 |y::r=>by have a:=uu h r;grind
theorem filter_lt{p:Nat->Bool}{i:Nat}{q:Nat->Bool}(b:∀j,q j=(p j&& ! τ (j=i))):∀(l:List Nat),i∈l->p i=ζ->(l.filter q).length<(l.filter p).length
 |x::r,h,hp=>by
  have d:=uu (p:=p) (q:=q) (λj a=>by rw[b]at a;simp at a;exact a.1) r;by_cases e:x=i;grind;have c:i∈r:=q!
  have f:=filter_lt b r c hp;grind
theorem Mid.any(ok:Wi ops N l)(k:Vo P ops=ζ)(g:∀B,X B→B<w0.heap.size){f:Exit→Act→World→Prop}{ro:Option Nat}(e:∀L a w,Mid P N ops l Q env0 X h0 H0 w0 ds0 L a w→Region.ready .any ops L=[]→f .normal a w):
  ∀(b:Nat)(L:Array Bool)(a:Act)(w:World),((List.range ops.size).filter λi=>!L.getD i η).length<=b->Mid P N ops l Q env0 X h0 H0 w0 ds0 L a w->wpAnyIn (FR ro) 0 P .any ops f b L a w
 |0,L,a,w,hf,M=>by
  have hr:Region.ready .any ops L=[]:=by
   cases u:Region.ready .any ops L with
   |nil=>rfl
   |cons i r=>
    have d:i∈Region.ready .any ops L:=q!
    rw[mem_ready]at d;have:i∈(List.range ops.size).filter λi=>!L.getD i η:=q!
    grind
  exact⟨hr,e L a w M hr⟩
 |b+1,L,a,w,hf,M=>by
  refine⟨λhr=>e L a w M hr,λi d=>?_⟩;rw[mem_ready]at d;have⟨x,o,m,t⟩:=d;have c:L.getD i η=η:=q!
  refine wpOpIn_mono (λs v n=>Mid.any ok k g e b _ s v ?_ n) (Mid.step ok k g M m c t);have:=filter_lt (p:=λi=>!L.getD i η) (i:=i) (q:=λj=>!(L.setIfInBounds i ζ).getD j η) (λj=>by rw[G5 q!];by_cases h:j=i<;>simp[h]) (List.range ops.size) (Hh.2 (Vf m)) (by simp[c]);omega
def jU{K:Exit→Env→Ap→Prop}(C:P.follows .mixedOrders=ζ)(l:List Nat)(q:ABC ops N l=ζ)(r:Vo P ops=ζ)(p:(g.map (·.1)).Nodup)
  (h:RA P N ops l [] g H (K .normal)):JU P N (.region t ops ζ) g H K:=by
 intro ro X S a w s _;have ok:=AAB q;have b:∀i,(Array.replicate ops.size η).getD i η=η:=by intro i;rw[QS];by_cases d:i<ops.size;simp[d];simp[d]
 have E:({w with drawn:=w.drawn+1}:World)=w.drew:=rfl;apply wpIn_region_any C;rw[E];refine Mid.any (Q:=K .normal) (env0:=g) (X:=X) (h0:=S) (H0:=H) (w0:=w) (ds0:=a.defers) ok r (λB c=>(s.sim.out B c).1) (λL I O M hr=>?_) ops.size _ a w.drew ?_ ?_;obtain⟨A_,f,y,D_,F,G,z⟩:=M.end_ ok r (λB c=>(s.sim.out B c).1) hr;exact⟨A_,f,y,D_,F,G,.same z⟩;exact C9 (FT _ _) k!;have x:=Gq.drew (h:=S) (H:=H) (w:=w);have n:XR X (λ_=>ε)=X:=by funext B;apply propext;constructor;rintro(c|⟨k,e⟩);exact c;cases e;exact .inl
 refine⟨[],l,λ_=>.any,[],g,H,S,λ_=>ε,?_⟩;refine{split:=rfl,ra:=h,kn:=cH p,keys:=(λR u m=>by have:=(s.env R u m).1;rw[s.size]at this;exact this),env1:=(λk e=>by cases e),env2:=λR _=>rfl,sim:=(by rw[n];exact s.sim.drew),nodefer:=rfl,size:=s.size,slot1:=(λk R e _=>by rw[b]at e;cases e),slot2:=λR _=>(by rw[n];exact(jT s.env R).later (x.later X)),sub:=(λi d=>by rw[b]at d;cases d),lsz:=k!,closed:=(λj o J v=>by rw[b]at v;cases v),pendq:=(λi d=>by cases d),ext:=x,early1:=(λi B c=>by cases c),early2:=(λi j B c=>by cases c)}
end
def pI:AV->List Nat
 |.ptr id _ _=>[id]
 |.sl id _ _ _ _=>[id]
 |_=>[]
def zy(env:Env)(op:Op):List Nat:=op.operands.toList.flatMap λx=>pI (BI env x)
theorem fW{a:Env}(h:∀t∈tmpsOf o,a.get t=g.get t):∀x∈o.op.operands,BI a x=BI g x:=by
 intro x b;cases x with
 |tmp t=>apply h t;unfold tmpsOf;rw[Sq];exact⟨.tmp t,q!,rfl⟩
 |_=>rfl
def tM{a:Env}{l:List Operand}(h:∀x∈l,BI a x=BI g x):l.map (BI a)=l.map (BI g):=Ms h
theorem vS{e:Env}{l:Op}(h:∀x∈l.operands,BI e x=BI g x):CT P e H l=CT P g H l:=by
 cases l with
 |move x=>grind[CT,Op.operands]
 |assign x=>grind[CT,Op.operands]
 |pick c a b=>grind[CT,Op.operands]
 |load t a=>grind[CT,Op.operands]
 |nilCheck x=>grind[CT,Op.operands]
 |binOp l t x y E=>grind[CT,Op.operands]
 |unOp l t x=>grind[CT,Op.operands]
 |convert s d x=>grind[CT,Op.operands]
 |fieldAddr s x f=>grind[CT,Op.operands]
 |field s x f=>grind[CT,Op.operands]
 |indexAddr t x i=>grind[CT,Op.operands]
 |index t x i=>grind[CT,Op.operands]
 |extract x i=>grind[CT,Op.operands]
 |slice t x u o v=>
  have C:u.map (BI e)=u.map (BI g):=by cases u with|none=>rfl|some y=>simp[h y (by simp[Op.operands])]
  have B:o.map (BI e)=o.map (BI g):=by cases o with|none=>rfl|some y=>simp[h y (by simp[Op.operands])]
  have D_:v.map (BI e)=v.map (BI g):=by cases v with|none=>rfl|some y=>simp[h y (by simp[Op.operands])]
  grind[CT,Op.operands]
 |makeFunc f a b=>simp only[CT];rw[tM λx j=>h x (by simp only[Op.operands];exact Array.mem_append_left _ (by simpa using j)),tM λx j=>h x (by simp only[Op.operands];exact Array.mem_append_right _ (by simpa using j))]
 |build t F=>
  simp only[CT];have:(F.toList.map λp=>(p.1,BI e p.2))=F.toList.map λp=>(p.1,BI g p.2):=Ms λp w=>by rw[h p.2 (by simp only[Op.operands,List.mem_toArray,Bk];exact⟨p,w,rfl⟩)]
  rw[this]
 |call c=>
  obtain⟨n,args,k⟩:=c;simp only[Op.operands,Call.operands]at h;cases n with
  |value f=>simp[CT]
  |invoke r m=>simp[CT]
  |builtin b=>
   obtain⟨args⟩:=args;obtain⟨k⟩:=k;match args with
   |[]=>simp[CT]
   |[x]=>
    have j:=h x k!;cases b<;>simp[CT];match k with
    |[]=>rfl
    |[t]=>simp[j]
    |_::_::_=>rfl
   |[x,y]=>have j:=h x k!;have q:=h y k!;cases b<;>simp[CT,j,q]
   |[x,y,z]=>have j:=h x k!;have q:=h y k!;have A_:=h z k!;cases b<;>simp[CT,j,q,A_]
   |_::_::_::_::_=>cases b<;>rfl
 |_=>rfl
section
variable {P:Program}{H H':Ap}
theorem ZX(h:H'[N]?=H[N]?):S8 H' N t=S8 H N t:=by grind[S8]
theorem yZ(h:∀id∈pI d,H'[id]?=H[id]?):Pw H' d N=Pw H d N:=by cases d<;>simp only[Pw];rw[h _ (by simp[pI])]
theorem ti(h:∀id∈pI d,H'[id]?=H[id]?):shift H' N d=shift H N d:=by cases d<;>simp only[shift];grind[ZX,pI]
def ABp(h:∀id∈pI d,H'[id]?=H[id]?):pL P H' b d=pL P H b d:=rfl
theorem zu{k:Op}(h:∀id∈zy g k,H'[id]?=H[id]?):CT P g H' k=CT P g H k:=by
 have j:∀x∈k.operands,∀id∈pI (BI g x),H'[id]?=H[id]? :=λx j id n=>h id (by unfold zy;rw[Gf];exact⟨x,by simpa using j,n⟩);cases k with
 |load t a=>grind[Op.operands,CT,gp,yZ]
 |nilCheck x=>grind[Op.operands,CT,ZX,pI]
 |convert s d x=>
  have u:=j x (by simp[Op.operands]);have hr:rowsOf H' (BI g x)=rowsOf H (BI g x):=by generalize BI g x=v at u;cases v<;>simp only[rowsOf];grind[pI]
  simp only[CT,Wm];grind[BI]
 |fieldAddr s x f=>grind[Op.operands,CT,Vb,ti]
 |indexAddr t x i=>have u:=j x (by simp[Op.operands]);simp only[CT,Vg];split<;>grind[ti,ZX,pI]
 |slice t x p o q=>have u:=j x (by simp[Op.operands]);simp only[CT];generalize BI g x=v at u;cases v<;>simp only[gT];rw[ZX (u _ (by simp[pI]))]
 |call c=>
  obtain⟨l,args,e⟩:=c;simp only[Op.operands,Call.operands]at j;cases l with
  |value f=>simp[CT]
  |invoke r m=>simp[CT]
  |builtin b=>
   obtain⟨args⟩:=args;obtain⟨e⟩:=e;match args with
   |[]=>simp[CT]
   |[x]=>
    have u:=j x k!;cases b<;>simp only[CT];match e with
    |[]=>rfl
    |[t]=>simp only;exact ABp u
    |_::_::_=>rfl
   |[x,y]=>cases b<;>simp[CT]
   |[x,y,z]=>cases b<;>simp[CT]
   |_::_::_::_::_=>cases b<;>rfl
 |_=>simp only[CT]
def Wn{v:AV}(e:CT P g H o.op=δ v):ZD P N o g H (zy g o.op) v:=by intro a b c d;refine Df (v:=v) ?_ ⟨rfl,rfl⟩;rw[vS (fW c),zu d];exact e
end
end Go.Ab
