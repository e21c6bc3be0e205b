/- Texts of wip, joined and shortened by wip/tools/pack.py; nothing is assumed. -/
import Derived.Calls
import Derived.Below
import Derived.RangeFuncRecord
import Derived.OrdersIn
import Derived.Lib.FrozenHead
import Derived.Orders
import Derived.Laws.Cells
import Derived.Laws.Entries
import Derived.Laws.StructEq
import Derived.ChangeKeysEq
import Derived.Laws.BytesString
import Derived.Laws.Tables
import Derived.Great.FillDense
import Derived.Great.BuildSlice
open _root_ renaming Nat->z
open Go renaming Program->u
namespace Go
theorem n!{A B:Prop}(h:¬A:=by decide):A->B:=λa=>absurd a h
theorem o!{P:Prop}(h:P:=by omega):P:=h
theorem d!{P:Prop}(h:P:=by dsimp only;omega):P:=h
theorem g!{P:Prop}(h:P:=by decide):P:=h
theorem k!{P:Prop}(h:P:=by simp):P:=h
theorem q!{P:Prop}(h:P:=by grind):P:=h
theorem w!{P:Prop}(h:P:=by simp;omega):P:=h
theorem v!{P:Prop}(h:P:=by assumption):P:=h
theorem u!{P:Prop}(h:P:=by dsimp only;decide):P:=h
theorem t!{P:Prop}(h:P:=by simp_all):P:=h
end Go
noncomputable section
set_option linter.all false
open Option renaming some->D
open Option renaming none->A
open Option renaming some->δ,none->ε
open Bool renaming true->ζ,false->η
open List renaming length->θ,replicate->ς
open BitVec renaming ofInt->κ
open Decidable renaming decide->τ
namespace Go
abbrev Ω.{u}(a:Type u):=Option a
abbrev Ψ.{u}(a:Type u):=List a
def A!:=@cond_false
def B!:=@cond_true
def C!:=@if_pos
theorem n?{α:Type _}{as bs:List α}:(as++bs).length=as.length+bs.length:=List.length_append
theorem m?{α:Type _}{l:List α}{i:z}(h:i<l.length):l[i]? =some l[i]:=List.getElem?_eq_getElem h
theorem p?{α β:Type _}{a:α}{f:α->Option β}:(some a).bind f=f a:=rfl
theorem t?{α:Type _}(as bs cs:List α):as++bs++cs=as++(bs++cs):=List.append_assoc as bs cs
theorem u?{α:Type _}{l:List α}{i:z}(h:l.length<=i):l[i]? =none:=List.getElem?_eq_none h
theorem r?{α:Type _}{i:z}{l:List α}:(l.take i).length=min i l.length:=List.length_take
theorem s?(n:z):(n:Int).toNat=n:=Int.toNat_natCast n
theorem a!{α:Type _}{a b:α}:a∈[b]<->a=b:=List.mem_singleton
def D!:=@if_neg
def E!:=@congrArg
def F!:=@decide_eq_false
def G!:=@decide_eq_true
def H!:=@bne_self_eq_false
def I!:=@beq_eq_false_iff_ne
def J!:=@beq_iff_eq
def K!:=@decide_eq_true_eq
def L!:=@beq_self_eq_true
def M!:=@bne_iff_ne
def N!:=@of_decide_eq_true
theorem O!{a b:Prop}(h:a)(k: ¬a):b:=absurd h k
theorem P!:True:=trivial
def pE:=@Array.eq_empty_of_size_eq_zero
def pF:=@Array.extract_size
def Ra:=@Array.getD_eq_getD_getElem?
def ZE:=@Array.getElem?_append_left
def uR:=@Array.getElem?_append_right
def Oe:=@Array.getElem?_eq_getElem
def uS:=@Array.getElem?_eq_none
def zg:=@Array.getElem?_eq_none_iff
def dU:=@Array.getElem?_eq_some_iff
def dX:=@Array.getElem?_map
def dQ:=@Array.getElem?_modify
def UV:=@Array.getElem?_push
def wh:=@Array.getElem?_setIfInBounds_ne
def Qe:=@Array.getElem?_toList
def Dq:=@Array.length_toList
def wj:=@Array.mem_of_getElem?
def qb:=@Array.size_setIfInBounds
def wk:=@BitVec.eq_of_getLsbD_eq
def qd:=@BitVec.ofInt_natCast
def qe:=@BitVec.toNat_ofNat
def qf:=@Bool.and_eq_false_iff
def BS:=@Bool.and_eq_true
def Ys:=@Bool.and_self
def R3:=@Bool.and_true
def mj:=@Bool.eq_false_iff
def qg:=@Bool.false_and
def Qf:=@Bool.false_eq_true
def R4:=@Bool.not_eq_true'
def Ce:=@Bool.not_true
def Wy:=@Bool.or_eq_true
def qh:=@Bool.true_and
def R5:=@Decidable.byContradiction
def FY:=@Int.eq_ofNat_of_zero_le
def ml:=@Int.fdiv_eq_ediv_of_nonneg
def AY:=@Int.le_refl
def dR:=@Int.le_trans
def mm:=@Int.lt_or_le
def qi:=@Int.mul_ediv_add_emod
def C5:=@Int.toNat_natCast
def IU:=@Int.toNat_of_nonneg
def qj:=@List.Pairwise.imp_of_mem
def ql:=@List.Perm.eq_of_pairwise
def qm:=@List.Perm.refl
def mn:=@List.all_cons
def F6:=@List.all_eq_true
def qo:=@List.all_nil
def qp:=@List.any_eq_true
def A5:=@List.append_assoc
def M7:=@List.append_inj
def D1:=@List.append_nil
def dS:=@List.cons_append
def Yt:=@List.drop_append
def qq:=@List.drop_append_of_le_length
def M8:=@List.drop_drop
def J4:=@List.drop_eq_getElem_cons
def mq:=@List.drop_eq_nil_of_le
def R6:=@List.drop_left
def mr:=@List.drop_left'
def M9:=@List.drop_of_length_le
def qt:=@List.drop_sublist
def Wz:=@List.drop_zero
def EX:=@List.eq_nil_of_length_eq_zero
def JN:=@List.ext_getElem?
def wm:=@List.extract_eq_take_drop
def wn:=@List.filterMap_append
def qu:=@List.filterMap_cons
def F7:=@List.filter_append
def LR:=@List.filter_cons
def wo:=@List.filter_cons_of_neg
def wq:=@List.filter_cons_of_pos
def ms:=@List.filter_nil
def Yu:=@List.flatMap_append
def IV:=@List.flatMap_cons
def qv:=@List.flatMap_nil
def qw:=@List.flatten_cons
def mu:=@List.foldl_append
def mw:=@List.foldl_cons
def R7:=@List.getD_eq_getElem?_getD
def CW:=@List.getElem?_append_left
def Cm:=@List.getElem?_append_right
def qx:=@List.getElem?_cons_succ
def dT:=@List.getElem?_cons_zero
def IW:=@List.getElem?_drop
def Ar:=@List.getElem?_eq_getElem
def Cn:=@u?
def F8:=@List.getElem?_eq_some_iff
def B9:=@List.getElem?_map
def Cu:=@List.getElem?_of_mem
def R8:=@List.getElem?_range
def Yv:=@List.getElem?_set
def DT:=@List.getElem?_set_ne
def GY:=@List.getElem?_set_self
def dV:=@List.getElem?_take
def JO:=@List.getElem?_take_of_lt
def Yw:=@List.getElem?_toArray
def Of:=@List.getElem_mem
def Ae:=@List.length_append
def CY:=@List.length_cons
def Dr:=@List.length_drop
def dW:=@List.length_eq_zero_iff
def EV:=@List.length_filter_le
def BY:=@List.length_map
def CO:=@List.length_nil
def GH:=@List.length_replicate
def gS:=@List.length_set
def gT:=@List.length_singleton
def BK:=@List.length_take
def gU:=@List.length_take_le
def Gt:=@List.map_append
def Ng:=@List.map_congr_left
def Bz:=@List.map_cons
def oN:=@List.map_drop
def gV:=@List.map_id
def RT:=@List.map_map
def Hz:=@List.map_nil
def RU:=@List.map_toArray
def Al:=@List.mem_append
def FA:=@List.mem_append_left
def La:=@List.mem_append_right
def A3:=@List.mem_cons
def CQ:=@List.mem_cons_of_mem
def H4:=@List.mem_cons_self
def BZ:=@List.mem_filter
def T6:=@List.mem_filterMap
def Gu:=@List.mem_flatMap
def Ws:=@List.mem_iff_getElem
def HS:=@List.mem_iff_getElem?
def Bo:=@List.mem_map
def T7:=@List.mem_map_of_mem
def BQ:=@List.mem_of_getElem?
def RV:=@List.mem_of_mem_drop
def Fv:=@List.mem_of_mem_take
def Wt:=@List.mem_or_eq_of_mem_set
def H5:=@List.mem_range
def A7:=@List.mem_singleton
def uQ:=@List.mem_zipIdx_iff_getElem?
def Cq:=@List.nil_append
def H6:=@List.nodup_append
def Gv:=@List.nodup_cons
def H7:=@List.nodup_iff_pairwise_ne
def RW:=@List.nodup_nil
def Ek:=@List.pairwise_iff_getElem
def RX:=@List.pairwise_map
def oO:=@List.perm_ext_iff_of_nodup
def oP:=@List.replicate_succ
def T9:=@List.set_append_right
def Y8:=@List.set_set
def oQ:=@List.singleton_append
def gW:=@List.size_toArray
def Wu:=@List.sum_cons
def CC:=@List.take_add_one
def gX:=@List.take_append
def Cr:=@List.take_append_drop
def gY:=@List.take_append_of_le_length
def Y9:=@List.take_left
def El:=@List.take_left'
def H8:=@List.take_length
def BG:=@List.take_of_length_le
def Lb:=@List.take_take
def gZ:=@Nat.add_assoc
def ZA:=@Nat.add_comm
def ED:=@Nat.add_mul
def UA:=@Nat.add_sub_cancel_left
def Lc:=@Nat.add_zero
def HT:=@Nat.beq_refl
def DA:=@Nat.eq_of_beq_eq_true
def Wv:=@Nat.eq_zero_or_pos
def Pe:=@Nat.le_of_ble_eq_true
def Am:=@Nat.le_refl
def Cs:=@Nat.le_trans
def DG:=@Nat.lt_of_lt_of_le
def Aw:=@Nat.lt_or_ge
def RY:=@Nat.lt_trichotomy
def RZ:=@Nat.min_eq_left
def Ww:=@Nat.mod_eq_of_lt
def ZB:=@Nat.mod_lt
def oR:=@Nat.mul_le_mul
def Nh:=@Nat.mul_le_mul_right
def Bj:=@Nat.ne_of_lt
def ga:=@Nat.pow_le_pow_right
def Gw:=@Nat.sub_self
def ZC:=@Nat.sub_zero
def DQ:=@Nat.zero_add
def Bh:=@Nat.zero_le
def ZD:=@Nat.zero_mul
def Pf:=@Ne.symm
def DR:=@Option.bind_eq_some_iff
def AD:=@Option.bind_some
def oS:=@Option.getD_some
def gb:=@Option.isSome_iff_exists
def Wx:=@Option.map_eq_some_iff
def oT:=@Option.map_none
def Br:=@Option.map_some
def BL:=@Option.some.inj
def Ap:=@Option.some.injEq
def oU:=@Option.toList_some
def Dh:=@Prod.ext
def EW:=@Prod.mk.injEq
def oV:=@Sum.elim_inr
end Go
namespace Go.Ab
inductive AZ where
 |bool (b:Bool)
 |int (k:IntKind) (n:Int)
 |str (s:List UInt8)
 |nilp
 |ptr (id g off:Nat)
 |vptr (cs:List AZ)
 |nils
 |vs (sz:Nat) (rows:List AZ)
 |sl (id g sz off len:Nat)
 |fn (f:Fn) (first caps:List AZ)
 |yf (id:Nat)
 |mp (id:Nat)
 |itp (id m:Nat)
 |nilf
 |agg (cs:List AZ)
 |tup (vs:List AZ)
 |any
 deriving Inhabited
def AZ.cells:AZ->Ψ AZ
 |.agg cs=>cs
 |v=>[v]
structure Cx where
 w:World
 n:Nat
 io:Nat->Option Nat
 gen:Nat->Nat
 cap:Nat->Nat
 O:Nat->Prop
inductive Bv(x:Cx):AZ->Value->Prop where
 |bool (b:Bool):Bv x (.bool b) (.bool b)
 |int (k:IntKind) (n:Int):Bv x (.int k n) (.int k n)
 |str {s:List UInt8} (t:ByteArray) (h:t.data.toList=s):Bv x (.str s) (.string t)
 |nilp:Bv x .nilp (.pointer none)
 |ptr {id g off:Nat}{c:Value} (hid:id<x.n) (hg:g≤x.gen id) (h1:c.oneCell'=true)
   (hc:x.gen id=g->∃B,x.io id=some B/\c=.pointer (some ⟨B,off,none⟩)):Bv x (.ptr id g off) c
 |vptr {cs:List AZ}{B off:Nat} (f:Nat→Value) (hO:¬x.O B) (hB:B<x.w.heap.size)
   (hc:∀(j:Nat)(v:AZ),cs[j]?=some v->x.w.cell? ⟨B,off+j,none⟩=some (f j)/\(f j).oneCell'=true)
   (hv:∀(j:Nat)(v:AZ),cs[j]?=some v->Bv x v (f j)):Bv x (.vptr cs) (.pointer (some ⟨B,off,none⟩))
 |nils:Bv x .nils (.slice none 0 0)
 |vs {sz:Nat}{rows:List AZ}{a:Option Addr}{cap:Nat} (f:Nat→Nat→Value) (hcap:rows.length≤cap) (hsz:0<sz)
   (hrow:∀(j:Nat)(e:AZ),rows[j]?=some e->e.cells.length=sz)
   (ha:rows≠ []->∃B off,a=some ⟨B,off,none⟩/\¬x.O B/\B<x.w.heap.size/\
    ∀(j:Nat)(e:AZ)(i:Nat)(v:AZ),rows[j]?=some e->e.cells[i]?=some v->x.w.cell? ⟨B,off+(j*sz+i),none⟩=some (f j i)/\(f j i).oneCell'=true)
   (hv:∀(j:Nat)(e:AZ)(i:Nat)(v:AZ),rows[j]?=some e->e.cells[i]?=some v->Bv x v (f j i)):Bv x (.vs sz rows) (.slice a rows.length cap)
 |sl {id g sz off len:Nat}{c:Value} (hid:id<x.n) (hg:g≤x.gen id) (h1:∃a cap,c=.slice a len cap)
   (hc:x.gen id=g->(x.io id=none/\len=0/\off=0/\c=.slice none 0 0)\/
    ∃B cap,x.io id=some B/\len<=cap/\off+cap*sz<=x.cap id/\c=.slice (some ⟨B,off,none⟩) len cap):Bv x (.sl id g sz off len) c
 |fn {f:Fn}{first caps:List AZ}{first' caps':Array Value} (h1:first'.size=first.length) (h2:caps'.size=caps.length)
   (hv1:∀(j:Nat)(v:AZ)(c:Value),first[j]?=some v->first'[j]?=some c->Bv x v c) (hv2:∀(j:Nat)(v:AZ)(c:Value),caps[j]?=some v->caps'[j]?=some c->Bv x v c):
   Bv x (.fn f first caps) (.func f first' caps')
 |yf {id:Nat}{c:Value} (hid:id<x.n) (h1:c.oneCell'=true) (hc:x.gen id=0->∃B,x.io id=some B/\c=.func (.yield B) #[] #[]):Bv x (.yf id) c
 |mp {id:Nat}{c:Value} (hid:id<x.n) (h1:c.oneCell'=true) (hc:x.gen id=0->∃B,x.io id=some B/\c=.map (some B)):Bv x (.mp id) c
 |itp {id m:Nat}{c:Value} (hid:id<x.n) (hm:m<x.n) (h1:c.oneCell'=true) (hc:x.gen id=0->∃B,x.io id=some B/\c=.pointer (some ⟨B,0,none⟩)/\(x.gen m=0->x.io m=some (x.cap id))):Bv x (.itp id m) c
 |nilf:Bv x .nilf .nilFunc
 |agg {cs:List AZ}{cs':Array Value} (h:cs'.size=cs.length) (h1:∀(j:Nat)(c:Value),cs'[j]?=some c→c.oneCell'=true)
   (hv:∀(j:Nat)(v:AZ)(c:Value),cs[j]?=some v->cs'[j]?=some c->Bv x v c):Bv x (.agg cs) (.agg cs')
 |tup {vs:List AZ}{vs':Array Value} (h:vs'.size=vs.length)
   (hv:∀(j:Nat)(v:AZ)(c:Value),vs[j]?=some v->vs'[j]?=some c->Bv x v c):Bv x (.tup vs) (.tuple vs')
 |any (c:Value):Bv x .any c
structure Cx.Later(x y:Cx):Prop where
 size:x.w.heap.size<=y.w.heap.size
 keep:∀B,B<x.w.heap.size->¬x.O B->∀off,y.w.cell? ⟨B,off,none⟩=x.w.cell? ⟨B,off,none⟩
 own:∀B,B<x.w.heap.size->y.O B->x.O B
 n:x.n<=y.n
 gen:∀id,id<x.n->x.gen id<=y.gen id
 same:∀id,id<x.n->y.gen id=x.gen id->y.io id=x.io id/\y.cap id=x.cap id
variable {N t:Nat}{w G:World}{b W:TypeId}{c I:Value}{P:Program}{d x T:AZ}{e:Nat→Prop}{o:Oper}{f v:Ψ AZ}{i:Cx}{a:Act}{l:Ψ Nat}{j:Ω Nat}{L:Array Bool}{k:Array Value}{m Y:Operand}{n:Ω (Ψ Deferred)}{q:Array Oper}{r:Code}{s:Bool}{X:Nat->Prop}{y:TypeInfo}{C:Ψ Value}{E:Nat×Nat}{F:Nat->Nat}{M:IntKind}{O:FuncId}{R:BinOp}{U:Prop}{V:Func}{Z:Obj}
theorem nz(h:G.heap[N]?=w.heap[N]?)(a:z):G.cell? ⟨N,a,A⟩=w.cell? ⟨N,a,A⟩:=by grind[World.cell?]
theorem Bv.later{x y:Cx}(h:x.Later y)(r:Bv x d c):Bv y d c:=by
 induction r with
 |bool b=>exact .bool b
 |int k n=>exact .int k n
 |str t J=>exact .str t J
 |nilp=>exact .nilp
 |ptr a w v m=>refine .ptr (DG a h.n) (Cs w (h.gen _ a)) v λe=>?_;have v:=h.gen _ a;have l:=h.same _ a o!;grind
 |vptr f q g m K p=>refine .vptr f (λo=>q (h.own _ g o)) (DG g h.size) (λj d H=>?_) p;rw[h.keep _ g q];grind
 |nils=>exact .nils
 |vs f s C u G K p=>refine .vs f s C u (λA_=>?_) p;obtain⟨B,F,e,q,g,m⟩:=G A_;refine⟨B,F,e,(λo=>q (h.own _ g o)),DG g h.size,λj e i d H N=>?_⟩;rw[h.keep _ g q];grind
 |sl a w v m=>refine .sl (DG a h.n) (Cs w (h.gen _ a)) v λe=>?_;have v:=h.gen _ a;have l:=h.same _ a o!;grind
 |fn v l _ _ D_ E=>exact .fn v l D_ E
 |yf a v m=>refine .yf (DG a h.n) v λe=>?_;have v:=h.gen _ a;have l:=h.same _ a o!;grind
 |mp a v m=>refine .mp (DG a h.n) v λe=>?_;have v:=h.gen _ a;have l:=h.same _ a o!;grind
 |itp a z v m=>refine .itp (DG a h.n) (DG z h.n) v λe=>?_;have v:=h.gen _ a;have l:=h.same _ a o!;obtain⟨B,g,I,O⟩:=m o!;refine⟨B,l.1.trans g,I,λe=>?_⟩;have L:=h.gen _ z;have M:=h.same _ z o!;grind
 |nilf=>exact .nilf
 |agg h v _ p=>exact .agg h v p
 |tup h _ p=>exact .tup h p
 |any c=>exact .any c
abbrev Env:=Ψ (z×AZ)
structure nu where
 n:Nat
 env:Env
 params:Array Tmp
 assign:Code
 body:Code
 state:LoopState
 pending:Option Code
inductive FO where
 |dead
 |live (g:Nat) (cells:List AZ)
 |lp (L:nu)
 |mp (k:IntKind) (es:List (Int×AZ))
 |it (n:Nat) (seen:List Nat)
 deriving Inhabited
def FO.isB:FO->Bool
 |.mp _ _=>ζ
 |.it _ _=>ζ
 |_=>η
abbrev As:=Ψ FO
structure Gh where
 io:Nat->Option Nat
 gen:Nat->Nat
 cap:Nat->Nat
def owned(h:Gh)(H:As)(B:z):Prop:=∃id e,H[id]?=D e/\e≠FO.dead/\h.io id=D B
def cx(X:z->Prop)(h:Gh)(H:As)(w:World):Cx:=⟨w,θ H,h.io,h.gen,h.cap,λB=>X B\/owned h H B⟩
def ACU(x:Cx)(id g:Nat)(cs:List AZ):Prop:=
 x.gen id=g/\((x.io id=none/\cs=[])\/ ∃(B:Nat) (arr:Array Value) (T:TypeId) (fz:Nat×Nat) (f:Nat->Value),x.io id=some B/\x.w.heap[B]? =some (.cells arr T fz)/\arr.size=x.cap id/\
  cs.length<=arr.size/\(∀i,i<arr.size->(decide (fz.1<=i)&&decide (i<fz.2))=false)/\
  ∀(j:Nat) (v:AZ),cs[j]? =some v->arr[j]? =some (f j)/\(f j).oneCell'=true/\Bv x v (f j))
def yD(x:Cx)(id:Nat)(L:nu):Prop:=
 x.gen id=0/\ ∃(B:Nat) (r:Loop),x.io id=some B/\x.w.heap[B]? =some (.loop r)/\r.state=L.state/\r.pending=L.pending/\r.params=L.params/\r.assign=L.assign/\r.body=L.body/\r.tmps.size=L.n/\
  ∀t v,(t,v)∈L.env->t<L.n/\Bv x v (r.tmps.getD t undef)
def BAt(h:Gh)(w:World)(id:Nat):FO->Prop
 | .mp k es=> ∃(B:Nat) (arr:Array MapEntry),h.io id=some B∧h.gen id=0∧w.heap[B]? =some (.map arr arr.size)∧arr.size=es.length∧
   ∀(j:Nat) (p:Int×AZ),es[j]? =some p-> ∃e:MapEntry,arr[j]? =some e/\e.born=j/\e.key= .int k p.1/\ ∀x,Bv x p.2 e.val
 | .it n seen=> ∃B,h.io id=some B/\h.gen id=0/\w.heap[B]? =some (.mapIter (some (h.cap id)) n seen.toArray n)
 |_=>True
structure Ig(X:Nat->Prop)(h:Gh)(H:As)(w:World):Prop where
 out:∀B,X B->B<w.heap.size/\¬owned h H B
 live:∀(id g:Nat)(cs:List AZ),H[id]?=some (FO.live g cs)->ACU (cx X h H w) id g cs
 lp:∀(id:Nat)(L:nu),H[id]?=some (FO.lp L)->yD (cx X h H w) id L
 inj:∀(id id':Nat)(e e':FO)(B:Nat),H[id]?=some e->H[id']?=some e'->e≠.dead->e'≠.dead->h.io id=some B->h.io id'=some B->id=id'
 bld:∀(id:Nat)(e:FO),H[id]?=some e->e.isB=true->BAt h w id e
variable {H S:As}{h Q:Gh}{g:Env}{p:FO}{B:AZ→As→Prop}{K:AZ->As->Prop}
theorem Ig.bldKeep{X:Nat→Prop}{h i:Gh}{H p:As}{w t:World}(s:Ig X h H w)
  (key: ∀(id:Nat) (e:FO),p[id]? =some e->e.isB=true->H[id]? =some e/\i.io id=h.io id/\i.gen id=h.gen id/\i.cap id=h.cap id/\ ∀B (o:Obj),h.io id=some B->w.heap[B]? =some o->(∀z,o≠ .deferred z)->t.heap[B]? =w.heap[B]?):
  ∀(id:Nat) (e:FO),p[id]? =some e->e.isB=true->BAt i t id e:=by
 intro id e v q;obtain⟨m,g,a,f,r⟩:=key id e v q;have b:=s.bld id e m q;cases e with
 |mp k x=>obtain⟨B,j,c,l,d,u⟩:=b;exact⟨B,j,g.trans c,a.trans l,(r B _ c d (λz=>by simp)).trans d,u⟩
 |it n seen=>obtain⟨B,c,l,d⟩:=b;exact⟨B,g.trans c,a.trans l,by rw[f];exact(r B _ c d (λz=>by simp)).trans d⟩
 |_=>trivial
def PW(x:Cx)(env:Env)(a:Act):Prop:=∀t v,(t,v)∈env->t<a.tmps.size/\Bv x v (a.tmps.getD t undef)
structure St(X:Nat->Prop)(h:Gh)(N:Nat)(env:Env)(H:As)(a:Act)(w:World):Prop where
 sim:Ig X h H w
 env:PW (cx X h H w) env a
 size:a.tmps.size=N
structure G3(h:Gh)(H:As)(w:World)(h':Gh)(H':As)(w':World):Prop where
 os:w'.os=w.os
 tape:w'.tape=w.tape
 output:w'.output=w.output
 size:w.heap.size<=w'.heap.size
 keep:∀B,B<w.heap.size->¬owned h H B->w'.heap[B]?=w.heap[B]?
 n:H.length<=H'.length
 gen:∀id,id<H.length->h.gen id<=h'.gen id
 same:∀id,id<H.length->h'.gen id=h.gen id->h'.io id=h.io id/\h'.cap id=h.cap id
 fresh:∀B,owned h' H' B->owned h H B\/w.heap.size<=B
 loops:∀(B:Nat)(r:Loop),w.heap[B]?=some (.loop r)->∃r':Loop,w'.heap[B]?=some (.loop r')
def G3.refl(h:Gh)(H:As)(w:World):G3 h H w h H w:=⟨rfl,rfl,rfl,Am _,λ_ _ _=>rfl,Am _,λ_ _=>Am _,λ_ _ _=>⟨rfl,rfl⟩,λ_ h=>.inl h,λ_ r h=>⟨r,h⟩⟩
theorem G3.trans{c j k}{f g i}{l m o}(a:G3 c f l j g m)(b:G3 j g m k i o):G3 c f l k i o where
 os:=b.os.trans a.os
 tape:=b.tape.trans a.tape
 output:=b.output.trans a.output
 size:=Cs a.size b.size
 keep B hB hn:=(b.keep B (DG hB a.size) λd=>by rcases a.fresh B d with h|h;grind;omega).trans (a.keep B hB hn)
 n:=Cs a.n b.n
 gen id hid:=Cs (a.gen id hid) (b.gen id (DG hid a.n))
 same id hid e:=by have q:=a.gen id hid;have s:=b.gen id (DG hid a.n);have u:=a.same id hid o!;have v:=b.same id (DG hid a.n) o!;grind
 fresh B d:=by rcases b.fresh B d with h|h;exact a.fresh B h;exact .inr (Cs a.size h)
 loops B r h:=by obtain⟨p,c⟩:=a.loops B r h;exact b.loops B p c
def G3.later{h c}{H b}{w d}(e:G3 h H w c b d)(X:z->Prop):(cx X h H w).Later (cx X c b d)where
 size:=e.size
 keep B hB hO off:=nz (e.keep B hB λa=>hO (.inr a)) off
 own B hB a:=by rcases a with a|a;exact .inl a;rcases e.fresh B a with h|h;exact .inr h;simp only[cx]at hB;omega
 n:=e.n
 gen:=e.gen
 same:=e.same
def PW.later{x y:Cx}(l:x.Later y)(h:PW x g a):PW y g a:=λt v m=>⟨(h t v m).1,(h t v m).2.later l⟩
def Ei(P:u)(F:FuncId)(args:Ψ AZ)(H:As)(Q:AZ->As->Prop):Prop:=
 ∀X h w(cargs:Array Value),Ig X h H w->cargs.size=θ args->
  (∀(j:z)(v:AZ)(c:Value),args[j]?=D v->cargs[j]?=D c->Bv (cx X h H w) v c)->
  Calls P F cargs w λe w'=>∃c v h' H',e=.returned c/\Q v H'/\Ig X h' H' w'/\Bv (cx X h' H' w') v c/\G3 h H w h' H' w'
def FR(r:Ω z):Fence:={Fence.wide with round:=r}
def Wr(a:Act)(w:World)(a':Act)(w':World):Prop:=
 ∃ds,a'.defers=ds++a.defers/\ds.Nodup/\∀d∈ds,∃D,d={target:=.collected D,args:= #[]}/\w.heap.size<=D/\w'.heap[D]?=δ (.deferred (δ []))
def aj(r:Ω z)(w:World):Prop:=∀l,r=D l->∃x:Loop,w.heap[l]?=D (.loop x)
def Wr.same{b:Act}{w c}(h:b.defers=a.defers):Wr a w b c:=⟨[],by simp[h],.nil,λ_ h=>by cases h⟩
def Ig.deferred(s:Ig X h H w)(j:w.heap[N]?=D (.deferred n)):¬owned h H N:=by
 rintro⟨id,e,l,o,b⟩;cases e with
 |dead=>exact o rfl
 |live g p=>rcases(s.live id g p l).2 with⟨hn,_⟩|⟨B,m,T,t,f,a,i,_⟩;rw[show(cx X h H w).io id=h.io id from rfl,b]at hn;cases hn;rw[show(cx X h H w).io id=h.io id from rfl,b]at a;injection a with e;subst e;rw[show(cx X h H w).w.heap=w.heap from rfl,j]at i;cases i
 |lp L=>obtain⟨_,B,r,a,i,_⟩:=s.lp id L l;rw[show(cx X h H w).io id=h.io id from rfl,b]at a;injection a with e;subst e;rw[show(cx X h H w).w.heap=w.heap from rfl,j]at i;cases i
 |mp k q=>obtain⟨B,m,c,_,d,_⟩:=s.bld id _ l rfl;rw[b]at c;injection c with e;subst e;rw[j]at d;cases d
 |it D_ seen=>obtain⟨B,c,_,d⟩:=s.bld id _ l rfl;rw[b]at c;injection c with e;subst e;rw[j]at d;cases d
theorem tj(h:w.heap[N]?=D Z):N<w.heap.size:=q!
def G3.defs(x:G3 h H w Q S G)(s:Ig X h H w)(a:w.heap[N]?=D (.deferred n)):G.heap[N]?=D (.deferred n):=(x.keep N (tj a) (s.deferred a)).trans a
theorem Wr.trans{X:Nat->Prop}{h j b}{H f n}{a a1 a2}{w e m}(o:Wr a w a1 e)(s:Ig X j f e)(z:G3 h H w j f e)(x:G3 j f e b n m)(p:Wr a1 e a2 m):Wr a w a2 m:=by obtain⟨g,B,t,v⟩:=o;obtain⟨i,C,u,y⟩:=p;refine⟨i++g,q!,H6.2 ⟨u,t,λd r A_ q E=>?_⟩,λd c=>?_⟩;grind;rcases Al.1 c with c|c;obtain⟨D_,k,b,l⟩:=y d c;exact⟨D_,k,Cs z.size b,l⟩;obtain⟨D_,k,b,l⟩:=v d c;exact⟨D_,k,b,x.defs s l⟩
def aj.later{h c}{H b}{w a}(k:aj j w)(x:G3 h H w c b a):aj j a:=λl e=>by obtain⟨y,d⟩:=k l e;exact x.loops l y d
def J0(P:u)(N:z)(c:Code)(env:Env)(H:As)(Q:Exit->Env->As->Prop):Prop:=
 ∀r X h a w,St X h N env H a w->aj r w->
  c.wpIn (FR r) 0 P (λe a' w'=>∃h' env' H',Q e env' H'/\St X h' N env' H' a' w'/\G3 h H w h' H' w'/\Wr a w a' w') a w
def Ei.mono{P}{F}{args}{H}{Q d:AZ->As->Prop}(h:Ei P F args H Q)(i:∀v b,Q v b->d v b):Ei P F args H d:=λX g w a s j hr=>(h X g w a s j hr).mono λ_ _ ⟨c,v,f,b,e,q,r⟩=>⟨c,v,f,b,e,i _ _ q,r⟩
def J0.mono{P}{N}{H}{Q f:Exit->Env->As->Prop}(h:J0 P N r g H Q)(j:∀e b d,Q e b d->f e b d):J0 P N r g H f:=λl X c a w s k=>wpIn_mono (h l X c a w s k) λ_ _ _ ⟨i,b,d,q,l⟩=>⟨i,b,d,j _ _ _ q,l⟩
def gO(K:Env->As->Prop)(Q:Exit->Env->As->Prop):Exit->Env->As->Prop
 |.normal,env,H=>K env H
 |e,env,H=>Q e env H
def rA(id:z)(Q:Exit->Env->As->Prop):Exit->Env->As->Prop
 |.exit id',env,H=>if id'=id then Q .normal env H else Q (.exit id') env H
 |e,env,H=>Q e env H
section rules
variable {P:Program}{N:Nat}{env:Env}{H:As}{Q:Exit->Env->As->Prop}
def J0.skip(h:Q .normal env H):J0 P N .skip env H Q:=λ_ _ _ _ _ s _=>wpIn_skip ⟨_,_,_,h,s,G3.refl _ _ _,.same rfl⟩
def J0.ret(h:Q .ret env H):J0 P N .ret env H Q:=λ_ _ _ _ _ s _=>wpIn_ret ⟨_,_,_,h,s,G3.refl _ _ _,.same rfl⟩
def J0.exit(h:Q (.exit t) env H):J0 P N (.exit t) env H Q:=λ_ _ _ _ _ s _=>wpIn_exit ⟨_,_,_,h,s,G3.refl _ _ _,.same rfl⟩
def J0.seq{x y}(h:J0 P N x env H (gO (λb d=>J0 P N y b d Q) Q)):J0 P N (.seq x y) env H Q:=by
 intro r X g a w s k;refine wpIn_seq (wpIn_mono (h r X g a w s k) ?_);rintro e n v ⟨j,b,d,q,f,c,i⟩;cases e with
 |normal=>apply wpIn_mono (q r X j n v f (k.later c));rintro e a2 z ⟨p,env2,m,t,u,l,o⟩;exact⟨p,env2,m,t,u,c.trans l,i.trans f.sim c l o⟩
 |_=>exact⟨j,b,d,q,f,c,i⟩
theorem J0.block{id}(h:J0 P N r env H (rA id Q)):J0 P N (.block id r) env H Q:=by intro c X g a w s k;refine wpIn_block (wpIn_mono (h c X g a w s k) ?_);rintro e f j ⟨i,b,d,q,c⟩;cases e<;>grind[rA,Exit.inBlock]
def FN(N n0:z)(env:Env)(H:As)(env2:Env)(H2:As):Prop:=
 n0<=θ H2/\∀X h a w,St X h N env H a w->
  ∃h2,St X h2 N env2 H2 a w/\(∀id,id<n0->h2.gen id=h.gen id/\h2.io id=h.io id/\h2.cap id=h.cap id)/\∀B,owned h2 H2 B->owned h H B
def FN.ext{j d:Gh}{f:As}(hn:θ f=N)(o:N≤θ S)
  (k:∀id,id<N->d.gen id=h.gen id/\d.io id=h.io id/\d.cap id=h.cap id) (m:∀B,owned d S B->owned h H B) (x:G3 j f G h H w):G3 j f G d S w where
 os:=x.os
 tape:=x.tape
 output:=x.output
 size:=x.size
 keep:=x.keep
 n:=o!
 gen id hid:=by rw[(k id o!).1];exact x.gen id hid
 same id hid e:=by obtain⟨a,b,c⟩:=k id o!;rw[a]at e;rw[b,c];exact x.same id hid e
 fresh B hB:=x.fresh B (m B hB)
 loops:=x.loops
theorem FN.refl(N:z)(env:Env)(H:As):FN N (θ H) env H env H:=⟨Am _,λ_ h _ _ s=>⟨h,s,λ_ _=>⟨rfl,rfl,rfl⟩,λ_ h=>h⟩⟩
def J0.weak(f:FN N (θ H) env H g S)(h:J0 P N r g S Q):J0 P N r env H Q:=by intro d X c a w s k;obtain⟨m,t,n,o⟩:=f.2 X c a w s;apply wpIn_mono (h d X m a w t k);rintro e v x ⟨l,b,i,q,p,u,j⟩;exact⟨l,b,i,q,p,(FN.ext rfl f.1 n o (G3.refl c H w)).trans u,j⟩
end rules
def Env.get:Env->z->AZ
 |[],_=>.any
 |(k,v)::r,t=>if k=t then v else Env.get r t
def Env.put(env:Env)(t:z)(v:AZ):Env:=(t,v)::env.filter λp=>decide (p.1≠t)
def Env.putO(env:Env):Ω z->AZ->Env
 |some t,v=>env.put t v
 |none,_=>env
theorem Oi{env}{t}:Env.get env t=.any\/(t,Env.get env t)∈env:=by induction env<;>grind[Env.get]
def se:Value->AZ
 |.bool b=>.bool b
 |.int k n=>.int k n
 |.string s=>.str s.data.toList
 |.pointer A=>.nilp
 |.slice A 0 0=>.nils
 |.nilFunc=>.nilf
 |_=>.any
def ADm:Value->AZ
 |.agg cs=>if cs.toList.all (·.oneCell')then .agg (cs.toList.map se)else .any
 |v=>se v
theorem rL(x:Cx)(v:Value):Bv x (se v) v:=by unfold se;split;exact .bool _;exact .int _ _;exact .str _ rfl;exact .nilp;exact .nils;exact .nilf;exact .any _
theorem AAB(x:Cx)(v:Value):Bv x (ADm v) v:=by unfold ADm;split;rename_i b;split;rename_i h;refine .agg k! (λj c a=>?_) λj v c a d=>?_;grind;grind[rL];exact .any _;exact rL x _
def BN(env:Env):Operand->AZ
 |.tmp t=>env.get t
 |.const v=>ADm v
 |.global _=>.any
 |.func f=>.fn (.func f) [] []
def Di(h:PW i g a)(o:Operand):Bv i (BN g o) (a.eval o):=by
 cases o with
 |tmp t=>rcases Oi (env:=g) (t:=t)with e|m;simp only[BN,e];exact .any _;exact(h _ _ m).2
 |const v=>exact AAB i v
 |global x=>exact .any _
 |func f=>exact .fn rfl rfl (λ_ _ _ h=>by simp at h) (λ_ _ _ h=>by simp at h)
theorem PW.put(h:PW i g a){d:z}{v}(x:d<a.tmps.size)(j:Bv i v c):PW i (g.put d v) (a.put (D d) c):=by
 intro t u m;simp only[Act.put];rcases A3.1 m with e|m;simp_all;rw[BZ]at m;obtain⟨m,b⟩:=m;have b:t≠d:=q!
 obtain⟨f,k⟩:=h t u m;have:(a.tmps.setIfInBounds d c).getD t undef=a.tmps.getD t undef:=by rw[Ra,Ra,wh (b ·.symm)]
 grind
def PW.putO(h:PW i g a){v}(b:∀t,j=D t->t<a.tmps.size)(e:Bv i v c):PW i (g.putO j v) (a.put j c):=by
 cases j with
 |none=>exact h
 |some j=>exact h.put (b j rfl) e
def gI(a:Act)(d:Ω z)(c:Value):(a.put d c).tmps.size=a.tmps.size:=by cases d<;>simp[Act.put]
def Jn(P:u)(N:z)(o:Oper)(env:Env)(H:As)(K:AZ->As->Prop):Prop:=
 ∀r X h a w,St X h N env H a w->∀Q:Exit->Act->World->Prop,
  Oper.wpIn (FR r) 0 P o a w (λa' w'=>∃c v h' H',a'=a.put o.dst c/\K v H'/\Bv (cx X h' H' w') v c/\Ig X h' H' w'/\G3 h H w h' H' w') Q
def Jn.mono{P}{N}{H}{d:AZ->As->Prop}(h:Jn P N o g H K)(i:∀v b,K v b->d v b):Jn P N o g H d:=λr X j a w s Q=>Oper.wpIn_mono (λ_ _ ⟨c,v,f,b,e,k,r⟩=>⟨c,v,f,b,e,i _ _ k,r⟩) (h r X j a w s Q)
def Op.plain:Op->Bool
 |.defer _=>η
 |_=>ζ
def C6(n:Op.plain o.op=ζ)(h:∀X h a w,St X h N g H a w→ ∀Q:Exit→Act→World→Prop,
  Oper.wp P o a w (λp b=>∃c v i e,p=a.put o.dst c/\B v e/\Bv (cx X i e b) v c/\Ig X i e b/\G3 h H w i e b) Q):Jn P N o g H B:=by
 intro r X K a w s Q;have d:=h X K a w s Q;refine⟨λ_ _=>P!,?_⟩;rw[Oper.semAt_eq _ _ _ (λc j=>by rw[j]at n;cases n)];unfold Oper.wp at d;generalize (execOp a.eval o).run P w=res at d;have j:∀{f}{args}{b}{R},Calls P f args b R->CallsIn (FR r) (0-1) P f args b R:=by
  intro f args b R t;have m:CallsIn Fence.wide (0-1) P f args b R:=callsIn_wide.2 t;cases r with
  |none=>exact m
  |some l=>exact m
 cases res with
 |ok v b=>
  cases v with
  |enter f args=>exact⟨(λh=>by cases h),j d⟩
  |row row args=>refine⟨(λh=>by cases h),λc q _=>?_⟩;obtain⟨v,k,u,y⟩:=d c q;exact⟨v,k,u,stepsIn_wide.2 y⟩
  |round l f tmps assign body=>exact d.elim
  |_=>exact d
 |halt x b=>cases x<;>exact d
def Xg(ops:Array Oper)(env:Env)(j:z):AZ:=
 match (ops[j]?).bind (·.dst)with
 |some d=>env.get d
 |none=>.any
def Y5(ops:Array Oper)(g:Ω (z×Bool))(env:Env)(A_ B:Prop):Prop:=
 match g with
 |none=>A_
 |some (j,want)=>
  match Xg ops env j with
  |.bool b=>(b=want->A_)/\(b=(!want)->B)
  |.tup []=>B
  |_=>False
def Ps(n:z)(ops:Ψ Oper):Bool:=ops.all λo=>match o.dst with|some d=>decide (d<n)|none=>ζ
theorem AAO(s:PW i g a){B:Prop}(h:Y5 q o.guard g U B):
  (Region.wanted o (yielded q a.tmps)=ζ/\U)\/(Region.wanted o (yielded q a.tmps)=η/\B):=by
 unfold Y5 at h;unfold Region.wanted;cases v:o.guard with
 |none=>grind
 |some p=>
  obtain⟨j,k⟩:=p;rw[v]at h;simp only at h⊢;cases x:Xg q g j with
  |bool b=>
   rw[x]at h;simp only at h;have r:yielded q a.tmps j=D b:=by
    unfold Xg at x;unfold yielded;cases n:(q[j]?).bind (·.dst)with
    |none=>grind
    |some d=>
     rw[n]at x;simp only at x;simp only[AD];rcases Oi (env:=g) (t:=d)with e|m;grind;rw[x]at m;obtain⟨A_,hr⟩:=s _ _ m;have:a.tmps[d]?=D (.bool b):=by
      have f:a.tmps.getD d undef=.bool b:=by generalize a.tmps.getD d undef=c at hr;cases hr;rfl
      rw[Ra]at f;grind[Array.getElem?_eq_getElem]
     rw[this]
   rw[r];by_cases u:b=k;grind;refine .inr ⟨by simp[u],h.2 ?_⟩;cases b<;>cases k<;>simp_all
  |tup w=>
   cases w with
   |cons _ _=>grind
   |nil=>
    rw[x]at h;simp only at h;refine .inr ⟨?_,h⟩;have r:yielded q a.tmps j=A:=by
     unfold Xg at x;unfold yielded;cases n:(q[j]?).bind (·.dst)with
     |none=>rfl
     |some d=>
      rw[n]at x;simp only at x;simp only[AD];rcases Oi (env:=g) (t:=d)with e|m;grind;rw[x]at m;obtain⟨A_,hr⟩:=s _ _ m;have f:∃l,a.tmps.getD d undef=.tuple l:=by generalize a.tmps.getD d undef=c at hr;cases hr;exact⟨_,rfl⟩
      obtain⟨l,f⟩:=f;have:a.tmps[d]?=D (.tuple l):=t!
      rw[this]
    rw[r];rfl
  |_=>grind
section
variable {P:Program}{N:Nat}{env:Env}{H:As}{Q:Exit->Env->As->Prop}
def J0.cond{y}{b:Bool}(d:BN env m=.bool b)(h:b=ζ->J0 P N r env H Q)(f:b=η->J0 P N y env H Q):J0 P N (.cond m r y) env H Q:=by
 intro c X g a w s k;have hr:=Di s.env m;rw[d]at hr;have e:a.eval m=.bool b:=by generalize a.eval m=v at hr;cases hr;rfl
 apply wpIn_cond e;cases b;exact f rfl c X g a w s k;exact h rfl c X g a w s k
end
mutual
def AZ.idsAll(p:z->Bool):AZ->Bool
 |.ptr id _ _=>p id
 |.sl id _ _ _ _=>p id
 |.yf id=>p id
 |.mp id=>p id
 |.itp id m=>p id&&p m
 |.vptr cs=>AZ.idsAllL p cs
 |.vs _ rows=>AZ.idsAllL p rows
 |.fn _ a b=>AZ.idsAllL p a&&AZ.idsAllL p b
 |.agg cs=>AZ.idsAllL p cs
 |.tup cs=>AZ.idsAllL p cs
 |.bool _|.int _ _|.str _|.nilp|.nils|.nilf|.any=>ζ
def AZ.idsAllL(p:z->Bool):Ψ AZ->Bool
 |[]=>ζ
 |v::r=>AZ.idsAll p v&&AZ.idsAllL p r
end
mutual
def AZ.ren(ρ:z->z):AZ->AZ
 |.ptr id g off=>.ptr (ρ id) g off
 |.sl id g sz off len=>.sl (ρ id) g sz off len
 |.yf id=>.yf (ρ id)
 |.mp id=>.mp (ρ id)
 |.itp id m=>.itp (ρ id) (ρ m)
 |.vptr cs=>.vptr (AZ.renL ρ cs)
 |.vs sz rows=>.vs sz (AZ.renL ρ rows)
 |.fn f a b=>.fn f (AZ.renL ρ a) (AZ.renL ρ b)
 |.agg cs=>.agg (AZ.renL ρ cs)
 |.tup cs=>.tup (AZ.renL ρ cs)
 |.bool b=>.bool b
 |.int k n=>.int k n
 |.str s=>.str s
 |.nilp=>.nilp
 |.nils=>.nils
 |.nilf=>.nilf
 |.any=>.any
def AZ.renL(ρ:z->z):Ψ AZ->Ψ AZ
 |[]=>[]
 |v::r=>AZ.ren ρ v::AZ.renL ρ r
end
theorem PM(a:z->z)(l:Ψ AZ):AZ.renL a l=l.map (AZ.ren a):=by induction l<;>grind[AZ.renL]
theorem Dn(p:z->Bool)(l:Ψ AZ):AZ.idsAllL p l=ζ↔∀v∈l,v.idsAll p=ζ:=by induction l<;>grind[AZ.idsAllL]
theorem Nd{p:z->Bool}(h:AZ.idsAllL p f=ζ)(a:f[N]?=D d):d.idsAll p=ζ:=by grind[Dn]
theorem xq(a:z->z)(v:AZ):(v.ren a).cells=v.cells.map (AZ.ren a):=by cases v<;>simp[AZ.ren,AZ.cells,PM]
def V8{p:z->Bool}(h:d.idsAll p=ζ):∀u∈d.cells,u.idsAll p=ζ:=by
 cases d<;>simp only[AZ.cells,A7]<;>first
  |(intro u a;subst a;exact h)
  |(simp only[AZ.idsAll]at h;exact(Dn _ _).1 h)
theorem Bv.ren{x y:Cx}{p:Nat→Bool}{ρ:Nat→Nat}(F:∀id,p id=ζ→id<x.n→ρ id<y.n∧y.gen (ρ id)=x.gen id∧y.io (ρ id)=x.io id∧y.cap (ρ id)=x.cap id)
  (Y:y.w=x.w) (hO:∀B,y.O B->x.O B) {v:AZ}  (r:Bv x v c):v.idsAll p=ζ->Bv y (v.ren ρ) c:=by
 induction r with
 |bool b=>exact λ_=>.bool b
 |int k n=>exact λ_=>.int k n
 |str t L=>exact λ_=>.str t L
 |nilp=>exact λ_=>.nilp
 | @ptr id g H c A_ T E z=>intro q;obtain⟨a,b,d,e⟩:=F id q A_;refine .ptr a (by rw[b];exact T) E λC=>?_;rw[b]at C;rw[d];exact z C
 | @vptr cs B H f K S z X M=>intro q;simp only[AZ.idsAll]at q;simp only[AZ.ren,PM];refine .vptr f (λo=>K (hO B o)) (by rw[Y];exact S) (λj v l=>?_) λj v l=>?_;grind;grind[Option.some.injEq,Nd]
 |nils=>exact λ_=>.nils
 | @vs sz D_ a cap f P W ag ha X M=>
  intro q;simp only[AZ.idsAll]at q;simp only[AZ.ren,PM];have I:∀{j:Nat}{e:AZ},(D_.map (AZ.ren ρ))[j]?=D e->∃u,D_[j]?=D u/\e=u.ren ρ:=by grind[Option.some.injEq]
  have G:∀{u:AZ}{i:Nat}{v:AZ},(u.ren ρ).cells[i]?=D v->∃t,u.cells[i]?=D t/\v=t.ren ρ:=by grind[xq,Option.some.injEq]
  have J:(D_.map (AZ.ren ρ)).length=θ D_:=k!
  rw[<-J];refine .vs f (by rw[J];exact P) W (λj e l=>?_) (λV=>?_) λj e i v l U=>?_;grind[xq,List.length_map];obtain⟨B,H,e,K,S,z⟩:=ha (by simpa using V);refine⟨B,H,e,λo=>K (hO B o),by rw[Y];exact S,λj e i v l U=>?_⟩;obtain⟨u,s,rfl⟩:=I l;obtain⟨t,L,rfl⟩:=G U;rw[Y];exact z j u i t s L;obtain⟨u,s,rfl⟩:=I l;obtain⟨t,L,rfl⟩:=G U;exact M j u i t s L (V8 (Nd q s) _ (BQ L))
 | @sl id g sz H len c A_ T E z=>intro q;obtain⟨a,b,d,e⟩:=F id q A_;refine .sl a (by rw[b];exact T) E λC=>?_;rw[b]at C;rw[d,e];exact z C
 | @fn f first N Q R E h2 ao ap Z ad=>
  intro q;simp only[AZ.idsAll,BS]at q;simp only[AZ.ren,PM];refine .fn (by simpa using E) (by simpa using h2) (λj v c l z=>?_) λj v c l z=>?_;rw[B9]at l;cases s:first[j]? with
  |none=>rw[s]at l;cases l
  |some u=>rw[s]at l;simp only[Br,Ap]at l;subst l;exact Z j u c s z (Nd q.1 s)
  rw[B9]at l;cases s:N[j]? with
  |none=>rw[s]at l;cases l
  |some u=>rw[s]at l;simp only[Br,Ap]at l;subst l;exact ad j u c s z (Nd q.2 s)
 | @yf id c A_ E z=>intro q;obtain⟨a,b,d,e⟩:=F id q A_;refine .yf a E λC=>?_;rw[b]at C;rw[d];exact z C
 | @mp id c A_ E z=>intro q;obtain⟨a,b,d,e⟩:=F id q A_;refine .mp a E λC=>?_;rw[b]at C;rw[d];exact z C
 | @itp id m c A_ hm E z=>intro q;simp only[AZ.idsAll,BS]at q;obtain⟨a,b,d,e⟩:=F id q.1 A_;obtain⟨a2,b2,d2,e2⟩:=F m q.2 hm;refine .itp a a2 E λC=>?_;rw[b]at C;rw[d,b2,d2,e];exact z C
 |nilf=>exact λ_=>.nilf
 | @agg cs al h E X M=>
  intro q;simp only[AZ.idsAll]at q;simp only[AZ.ren,PM];refine .agg (by simpa using h) E λj v c l z=>?_;rw[B9]at l;cases s:cs[j]? with
  |none=>rw[s]at l;cases l
  |some u=>rw[s]at l;simp only[Br,Ap]at l;subst l;exact M j u c s z (Nd q s)
 | @tup vs ar h X M=>
  intro q;simp only[AZ.idsAll]at q;simp only[AZ.ren,PM];refine .tup (by simpa using h) λj v c l z=>?_;rw[B9]at l;cases s:vs[j]? with
  |none=>rw[s]at l;cases l
  |some u=>rw[s]at l;simp only[Br,Ap]at l;subst l;exact M j u c s z (Nd q s)
 |any c=>exact λ_=>.any c
mutual
theorem ACD{p:z->Bool}{d:z->z}(c:∀id,p id=ζ->d id=id):∀v:AZ,v.idsAll p=ζ->v.ren d=v
 |.ptr id g off,h=>by simp only[AZ.ren,c id h]
 |.sl id g sz off len,h=>by simp only[AZ.ren,c id h]
 |.yf id,h=>by simp only[AZ.ren,c id h]
 |.mp id,h=>by simp only[AZ.ren,c id h]
 |.itp id m,h=>by simp only[AZ.idsAll,BS]at h;simp only[AZ.ren,c id h.1,c m h.2]
 |.vptr cs,h=>by simp only[AZ.ren,Yp c cs h]
 |.vs sz rows,h=>by simp only[AZ.ren,Yp c rows h]
 |.fn f a b,h=>by simp only[AZ.idsAll,BS]at h;simp only[AZ.ren,Yp c a h.1,Yp c b h.2]
 |.agg cs,h=>by simp only[AZ.ren,Yp c cs h]
 |.tup cs,h=>by simp only[AZ.ren,Yp c cs h]
 |.bool _,_=>rfl
 |.int _ _,_=>rfl
 |.str _,_=>rfl
 |.nilp,_=>rfl
 |.nils,_=>rfl
 |.nilf,_=>rfl
 |.any,_=>rfl
theorem Yp{p:z->Bool}{b:z->z}(a:∀id,p id=ζ->b id=id):∀l:Ψ AZ,AZ.idsAllL p l=ζ->AZ.renL b l=l
 |[],_=>rfl
 |v::r,h=>by simp only[AZ.idsAllL,BS]at h;simp only[AZ.renL,ACD a v h.1,Yp a r h.2]
end
def tI(P:u)(t:TypeId):Ω (Bool×z):=
 match P.info? t,P.underlying t with
 |some i,D d=>D ((match d with|.struct _|.array _ _=>ζ|_=>η),i.size)
 |_,_=>A
def Y0(h:tI P b=D (s,N))(w:World):(isAgg b).run P w=.ok s w:=by unfold tI at h;split at h;rename_i i d c a;unfold isAgg;simp only[Sem.run_bind,run_underlying a,Result.andThen_ok];split<;>simp_all;cases h
def L5{P}(h:tI P b=D (s,N))(w:World):(sizeOf b).run P w=.ok N w:=by unfold tI at h;split at h;rename_i i d a c;simp at h;simp[sizeOf,typeInfo,a,h.2];cases h
def Qx(H:As):AZ->z->Ω (Ψ AZ)
 |.ptr id g off,n=>
  match H[id]? with
  |some (.live g' cs)=>if g=g'/\off+n<=θ cs then D ((cs.drop off).take n)else A
  |_=>A
 |.vptr cs,n=>if n<=θ cs then D (cs.take n)else A
 |_,_=>A
def oL(x:Cx)(vs:Ψ AZ)(cs:Ψ Value):Prop:=θ cs=θ vs/\∀(j:z)(v:AZ)(c:Value),vs[j]?=D v->cs[j]?=D c->Bv x v c
theorem Pd(B a j:z):(⟨B,a,A⟩:Addr).add j=⟨B,a+j,A⟩:=by grind[Addr.add]
theorem Qh{w:World}(h:w.heap[N]?=D (.cells k b E))(B:z):w.cell? ⟨N,B,A⟩=k[B]? :=by grind[World.cell?]
theorem vt(s:Ig e h H w)(r:Bv (cx e h H w) d c)(hr:Qx H d N=D f):
  ∃(B a:Nat)(k:Ψ Value),c=.pointer (D ⟨B,a,A⟩)/\θ k=N/\(∀j u,k[j]?=D u->w.cell? ((⟨B,a,A⟩:Addr).add j)=D u/\u.oneCell'=ζ)/\oL (cx e h H w) f k:=by
 cases r with
 | @ptr id g a c O Z V x=>
  simp only[Qx]at hr;split at hr;rename_i U k L;split at hr;rename_i m;obtain⟨rfl,F⟩:=m;simp only[Ap]at hr;subst hr;obtain⟨t,q⟩:=s.live id g k L;obtain⟨B,o,rfl⟩:=x t;rcases q with⟨hn,_⟩|⟨D_,I,T,S,v,l,K,E,A_,M,i⟩;rw[hn]at o;cases o;have:D_=B:=by rw[show(cx e h H w).io id=D B from o]at l;injection l with n;exact n.symm
  subst this;refine⟨D_,a,(List.range N).map (λj=>v (a+j)),rfl,k!,?_,?_,?_⟩;intro j u p;have b:j<N:=by grind[Nat.lt_or_ge,u?]
  have Q:u=v (a+j):=by grind[List.getElem?_range]
  subst Q;have y:k[a+j]?=D (k[a+j]' o!):=Ar o!;obtain⟨J,P,_⟩:=i _ _ y;rw[Pd,Qh (w:=w) K];exact⟨J,P⟩;grind[List.length_map,List.length_range,r?,List.length_drop];grind[Nat.lt_or_ge,u?,List.getElem?_range,Option.some.injEq];cases hr;cases hr
 | @vptr k B a v Y W x R=>
  simp only[Qx]at hr;split at hr;rename_i A_;simp only[Ap]at hr;subst hr;refine⟨B,a,(List.range N).map v,rfl,k!,?_,?_,?_⟩;intro j u p;have b:j<N:=by grind[Nat.lt_or_ge,u?]
  rw[B9,R8 b]at p;simp only[Br,Ap]at p;subst p;rw[Pd];exact x j _ (Ar o!);grind[List.length_map,List.length_range,r?];intro j u X p z;have b:j<N:=by rcases Aw j N with C|G;exact C;simp_all[Cn]
  rw[dV,C! b]at p;rw[B9,R8 b]at z;simp only[Br,Ap]at z;subst z;exact R j u p;cases hr
 |_=>simp only[Qx]at hr;cases hr
def kB(P:u)(t:TypeId)(H:As)(v:AZ):Ω AZ:=
 match tI P t with
 |some (ζ,n)=>(Qx H v n).map AZ.agg
 |some (η,_)=>(Qx H v 1).bind List.head?
 |none=>A
theorem AAY(s:Ig e h H w)(r:Bv (cx e h H w) d c)(v:kB P b H d=D x):
  ∃B X l,c=.pointer (D ⟨B,X,A⟩)/\(loadVar b ⟨B,X,A⟩).run P w=.ok l w/\Bv (cx e h H w) x l:=by
 unfold kB at v;split at v;rename_i n g;cases hr:Qx H d n with
 |none=>grind
 |some o=>rw[hr]at v;simp at v;subst v;obtain⟨B,X,f,rfl,t,k,a⟩:=vt s r hr;refine⟨B,X,.agg f.toArray,rfl,?_,?_⟩;unfold loadVar;simp only[Sem.run_bind,Y0 g,Result.andThen_ok,if_true,L5 g];subst t;rw[run_loadCells_list w ⟨B,X,A⟩ f λj d i=>(k j d i).1];rfl;refine .agg (by simpa using a.1) (λj c i=>?_) λj d c i p=>?_;grind;exact a.2 j d c i q!
 rename_i n g;cases hr:Qx H d 1 with
 |none=>grind
 |some o=>
  rw[hr]at v;simp at v;obtain⟨B,X,f,rfl,t,k,a⟩:=vt s r hr;match f,t with
  |[c0],_=>
   match o,a.1 with
   |[u0],_=>simp at v;subst v;refine⟨B,X,c0,rfl,?_,a.2 0 _ _ rfl rfl⟩;unfold loadVar;have m:=(k 0 c0 rfl).1;simp only[Addr.add,if_true]at m;simp[Y0 g,m]
 cases v
def o8(P:u)(env:Env)(H:As):ResultVar->Ω AZ
 |.tmp t=>D (env.get t)
 |.cell a t=>kB P t H (env.get a)
def T2(P:u)(env:Env)(H:As):Ψ ResultVar->Ω (Ψ AZ)
 |[]=>D []
 |r::rs=>
  match o8 P env H r,T2 P env H rs with
  |some v,D vs=>D (v::vs)
  |_,_=>A
def kC(P:u)(fn:Func)(env:Env)(H:As):Ω AZ:=
 match T2 P env H fn.results.toList with
 |some [v]=>D v
 |some vs=>D (.tup vs)
 |none=>A
def lw(h:PW i g a)(t:z):Bv i (g.get t) (a.tmps.getD t undef):=Di h (.tmp t)
def vv(tmps:Array Value):ResultVar->Sem Value
 |.tmp t=>pure (tmps.getD t undef)
 |.cell a t=>do loadVar t (<-asAddr (tmps.getD a undef))
def ACF(b:Func)(tmps:Array Value):results b tmps=(do
  let a<-b.results.mapM (vv tmps);pure (if h:a.size=1 then a[0]else .tuple a)):=rfl
theorem tJ{P}{N}{X:Nat→Prop}{h}{env}{H}{a}{w}(s:St X h N env H a w):∀g(i:Ψ AZ),T2 P env H g=D i→
  ∃f,Sem.run P (g.mapM (vv a.tmps)) w=.ok f w/\oL (cx X h H w) i f
 |[],i,hv=>by simp only[T2,Ap]at hv;subst hv;exact⟨[],rfl,rfl,λ_ _ _ h=>by cases h⟩
 |r::g,i,hv=>by
  simp only[T2]at hv;split at hv;rename_i v l k n;simp at hv;subst hv;obtain⟨f,o,b⟩:=tJ s g l n;have e:∃c,Sem.run P (vv a.tmps r) w=.ok c w/\Bv (cx X h H w) v c:=by
   cases r with
   |tmp t=>simp only[o8,Ap]at k;subst k;exact⟨_,rfl,lw s.env t⟩
   |cell x t=>obtain⟨B,y,m,p,q,hr⟩:=AAY s.sim (lw s.env x) k;refine⟨m,?_,hr⟩;simp only[vv,p];simp[asAddr,q]
  obtain⟨c,z,hr⟩:=e;refine⟨c::f,?_,by simpa using b.1,?_⟩;simp_all;intro j u d C A_;cases j with
  |zero=>grind
  |succ j=>exact b.2 j u d q! q!
  cases hv
theorem AEE(s:St e h N g H a w)(X:kC P V g H=D d):
  ∃c,(results V a.tmps).run P w=.ok c w/\Bv (cx e h H w) d c:=by
 unfold kC at X;cases v:T2 P g H V.results.toList with
 |none=>grind
 |some l=>
  rw[v]at X;obtain⟨f,m,b⟩:=tJ s _ l v;have n:Sem.run P (V.results.mapM (vv a.tmps)) w=.ok f.toArray w:=by grind[Array.mapM_eq_mapM_toList,Sem.run_map,Result.andThen_ok]
  rw[ACF];simp only[Sem.run_bind,n];simp only[Result.andThen_ok,Sem.run_pure,Result.ok.injEq,and_true,exists_eq_left'];match l,b with
  |[],b=>simp at X;subst X;have:f=[]:=EX (by simpa using b.1);subst this;exact .tup rfl λj d c i _=>by cases i
  |[v0],b=>
   simp at X;subst X;match f,b.1 with
   |[c0],_=>exact b.2 0 _ _ rfl rfl
  |v0::v1::r,b=>
   simp at X;subst X;have k:f.toArray.size≠1:=by rw[gW,b.1];simp
   rw[dif_neg k];exact .tup (by simpa using b.1) λj d c i o=>b.2 j d c i q!
def PX(n0:z)(v:AZ)(H:As)(v2:AZ)(H2:As):Prop:=
 n0<=θ H2/\∀X h w c,Ig X h H w->Bv (cx X h H w) v c->
  ∃h2,Ig X h2 H2 w/\Bv (cx X h2 H2 w) v2 c/\(∀id,id<n0->h2.gen id=h.gen id/\h2.io id=h.io id/\h2.cap id=h.cap id)/\∀B,owned h2 H2 B->owned h H B
def PX.refl(v:AZ)(H:As)(hn:N<=θ H):PX N v H v H:=⟨hn,λ_ h _ _ s r=>⟨h,s,r,λ_ _=>⟨rfl,rfl,rfl⟩,λ_ h=>h⟩⟩
def AKi(P:u)(fn:Func)(n0:z)(Q:AZ->As->Prop):Exit->Env->As->Prop
 |.normal,env,H|.ret,env,H=>∃v v2 H2,kC P fn env H=D v/\PX n0 v H v2 H2/\Q v2 H2
 |_,_,_=>False
def env0:z->Ψ AZ->Env
 |_,[]=>[]
 |i,v::r=>(i,v)::env0 (i+1) r
theorem AAG{t:z}{v:AZ}:∀{i}{l},(t,v)∈env0 i l->i<=t/\l[t-i]?=D v
 |i,u::r,h=>by simp only[env0,A3]at h;rcases h with⟨rfl,rfl⟩|h;simp;obtain⟨a,b⟩:=AAG h;grind
theorem nk{y:Ω (Ψ Deferred)}(b:w.heap[N]?=D (.deferred n))(B a:z):(w.putObj N (.deferred y)).cell? ⟨B,a,A⟩=w.cell? ⟨B,a,A⟩:=by grind[World.cell?,World.putObj_heap_same,World.putObj_heap_other]
def Ig.shut(s:Ig e h H w){x y:Ω (Ψ Deferred)}(J:w.heap[N]?=D (.deferred x)):
  (cx e h H w).Later (cx e h H (w.putObj N (.deferred y)))/\Ig e h H (w.putObj N (.deferred y)):=by
 have C:(cx e h H w).Later (cx e h H (w.putObj N (.deferred y))):=⟨by simp[cx],λB _ _ G=>nk J B G,λ_ _ h=>h,Am _,λ_ _=>Am _,λ_ _ _=>⟨rfl,rfl⟩⟩
 have d:∀{B:Nat}{o:Obj},w.heap[B]?=D o->(∀z,o≠.deferred z)->(w.putObj N (.deferred y)).heap[B]?=D o:=by intro B o a F;by_cases i:B=N;subst i;rw[J]at a;injection a with X;exact(F x X.symm).elim;rw[World.putObj_heap_other i,a]
 refine⟨C,λB a=>⟨by simpa using(s.out B a).1,(s.out B a).2⟩,λid g K l=>?_,λid L l=>?_,s.inj,s.bldKeep λid X l _=>⟨l,rfl,rfl,rfl,λB o _ a F=>(d a F).trans a.symm⟩⟩;obtain⟨A_,n⟩:=s.live id g K l;refine⟨A_,?_⟩;rcases n with⟨hn,rfl⟩|⟨B,p,T,M,f,c,q,k,E,u,b⟩;exact .inl ⟨hn,rfl⟩;refine .inr ⟨B,p,T,M,f,c,d q (λz=>k!),k,E,u,λj v U=>?_⟩;obtain⟨V,W,Y⟩:=b j v U;exact⟨V,W,Y.later C⟩;obtain⟨A_,B,r,c,q,D_,O,P,Q,R,S,I⟩:=s.lp id L l;exact⟨A_,B,r,c,d q (λz=>k!),D_,O,P,Q,R,S,λt v m=>⟨(I t v m).1,(I t v m).2.later C⟩⟩
theorem G3.shut(x:G3 h H w Q S G){y z:Ω (Ψ Deferred)}(d:w.heap.size<=N)(e:G.heap[N]?=D (.deferred z)):G3 h H w Q S (G.putObj N (.deferred y))where
 os:=x.os
 tape:=x.tape
 output:=x.output
 size:=by simpa using x.size
 keep B hB hn:=by rw[World.putObj_heap_other o!];exact x.keep B hB hn
 n:=x.n
 gen:=x.gen
 same:=x.same
 fresh:=x.fresh
 loops B r hB:=by obtain⟨f,Q⟩:=x.loops B r hB;grind[World.putObj_heap_other]
def qL{P}{A_}{N}{X:Nat→Prop}{g h}{H b p:As}{z:World}{v t:AZ}{f}{a}{Q:AZ→As→Prop}(o:kC P A_ f b=D v)(j:PX (θ H) v b t p)(B:Q t p):
  ∀(i:Ψ Deferred)(w:World),i.Nodup->(∀d∈i,∃D_,d={target:=.collected D_,args:= #[]}/\z.heap.size<=D_/\w.heap[D_]?=D (.deferred (D [])))->
   St X h N f b a w->G3 g H z h b w->
   LeavesInM Fence.wide 0 P A_ a.tmps (λe u=>∃c v h b,e=.returned c/\Q v b/\Ig X h b u/\Bv (cx X h b u) v c/\G3 g H z h b u) i .returning w
 |[],w,_,_,s,x=>by obtain⟨c,m,l⟩:=AEE s o;obtain⟨J,n,r,I,K⟩:=j.2 X h w c s.sim l;exact⟨c,m,c,t,J,p,rfl,B,n,r,FN.ext rfl j.1 I K x⟩
 |d::i,w,hnd,hds,s,x=>by obtain⟨D_,rfl,G,q⟩:=hds d k!;simp only[Gv]at hnd;refine⟨k!,.inl ⟨D_,_,rfl,run_takeDeferred q,?_⟩⟩;have C:=s.sim.shut (y:=A) q;refine qL o j B i _ hnd.2 (λF k=>?_) ⟨C.2,s.env.later C.1,s.size⟩ (x.shut G q);obtain⟨E,rfl,o,j⟩:=hds F (CQ _ k);refine⟨E,rfl,o,?_⟩;rw[World.putObj_heap_other,j];rintro rfl;exact hnd.1 k
theorem Km(E:P.funcs[O]?=D V)(C:V.body=D r)(hn:θ f≤V.ntmps)
  (I:J0 P V.ntmps r (env0 0 f) H (AKi P V (θ H) B)):Ei P O f H B:=by
 intro X g w a s M hr;have D_:PW (cx X g H w) (env0 0 f) {tmps:=a++Array.replicate (V.ntmps-a.size) undef,defers:=[]}:=by
  intro t v m;obtain⟨_,N⟩:=AAG m;have G:t<θ f:=q!
  have L:a[t]?=D (a[t]' o!):=Oe o!;have:(a++Array.replicate (V.ntmps-a.size) undef).getD t undef=a[t]' o!:=by simp_all[ZE]
  grind
 refine(callsIn_wide (n:=0)).1 (callsIn_of_wp_marks E C trivial (wpIn_mono (I A X g {tmps:=a++Array.replicate (V.ntmps-a.size) undef,defers:=[]} w ⟨s,D_,w!⟩ (λl e=>by cases e)) ?_));rintro e z i ⟨u,j,d,q,J,K,A_,b,y,x⟩;have k:∀v h F,kC P V j d=D v->PX (θ H) v d h F->B h F->LeavesInM Fence.wide 0 P V z.tmps (λe i=>∃r v u d,e=.returned r/\B v d/\Ig X u d i/\Bv (cx X u d i) v r/\G3 g H w u d i) z.defers .returning i:=by intro v h F o p c;rw[b,D1];exact qL o p c A_ i y x J K
 cases e with
 |normal=>obtain⟨v,h,F,o,p,c⟩:=q;exact k v h F o p c
 |ret=>obtain⟨v,h,F,o,p,c⟩:=q;exact k v h F o p c
 |_=>exact q.elim
def Enters(P:u)(F:FuncId):Bool:=
 match P.funcs[F]? with
 |some fn=>fn.body.isSome&& !(fn.name== "runtime.NumGoroutine")
 |none=>false
def jm(h:Enters P O=ζ)(args:Array Value)(w:World):(callFunc O args).run P w=.ok (.enter O args) w:=by unfold Enters at h;split at h;rename_i a c;unfold callFunc;cases b:a.body<;>simp_all;cases h
def FO.ren(ρ:z->z):FO->FO
 |.dead=>.dead
 |.live g cs=>.live g (AZ.renL ρ cs)
 |.lp L=>.lp {L with env:=L.env.map λp=>(p.1,p.2.ren ρ)}
 |.mp k es=>.mp k es
 |.it n s=>.it n s
def FO.idsAll(p:z->Bool):FO->Bool
 |.dead=>ζ
 |.live _ cs=>AZ.idsAllL p cs
 |.lp L=>L.env.all λq=>q.2.idsAll p
 |.mp _ _=>ζ
 |.it _ _=>ζ
def ae(H:As)(bs:Ψ z):As:=bs.map λb=>(H.getD b .dead).ren (bs.idxOf ·)
def UB(H:As)(bs:Ψ z)(j:z):z:=if j<θ bs then bs.getD j 0 else θ H+(j-θ bs)
def dO(ρ:z->z):As->Ψ z->As->As
 |H,b::bs,e::es=>dO ρ (H.set b (e.ren ρ)) bs es
 |H,_,_=>H
def WC(H:As)(bs:Ψ z)(Hc:As):As:=dO (UB H bs) H bs Hc++(Hc.drop (θ bs)).map (FO.ren (UB H bs))
def Ts(c:z->z):∀bs H a,(dO c H bs a).length=θ H
 |[],H,a=>by cases a<;>rfl
 |b::bs,H,[]=>rfl
 |b::bs,H,e::es=>by simp only[dO];rw[Ts c bs];simp
def jn(c:z->z){id:z}:∀(bs:Ψ z)H a,id∉bs->(dO c H bs a)[id]?=H[id]?
 |[],H,a,_=>by cases a<;>rfl
 |b::bs,H,[],_=>rfl
 |b::bs,H,e::es,h=>by simp only[A3,not_or]at h;simp only[dO];rw[jn c bs _ _ h.2,DT (h.1 ·.symm)]
def xt(a:z->z):∀(bs:Ψ z)(H c:As)(j b:z),bs.Nodup->bs[j]?=D b->b<θ H->θ bs<=θ c->(dO a H bs c)[b]?=(c[j]?).map (FO.ren a)
 |[],_,_,_,_,_,hj,_,_=>by simp at hj
 |b0::bs,H,[],_,_,_,_,_,hl=>by simp at hl
 |b0::bs,H,e::es,j,b,hnd,hj,hb,hl=>by
  simp only[Gv]at hnd;simp only[dO];cases j with
  |zero=>simp at hj;subst hj;rw[jn a bs _ _ hnd.1];simp[hb]
  |succ j=>simp at hj;rw[xt a bs _ es j b hnd.2 hj (by simpa using hb) (by simpa using hl)];simp
def qI(h:N∈l):l.idxOf N<θ l:=List.idxOf_lt_length_of_mem h
theorem ja(h:N∈l):l[l.idxOf N]?=D N:=q!
theorem rj(a:l.Nodup)(h:l[N]?=D t):l.idxOf t=N:=q!
section
variable {X:Nat->Prop}{h:Gh}{H:As}{w:World}{bs:Ψ Nat}
mutual
theorem su:∀v:AZ,v.idsAll (λ_=>ζ)=ζ
 |.itp _ _=>rfl
 |.ptr _ _ _=>rfl
 |.sl _ _ _ _ _=>rfl
 |.yf _=>rfl
 |.mp _=>rfl
 |.vptr c=>QD c
 |.vs _ d=>QD d
 |.fn _ a b=>by simp only[AZ.idsAll,QD a,QD b,Ys]
 |.agg c=>QD c
 |.tup c=>QD c
 |.bool _|.int _ _|.str _|.nilp|.nils|.nilf|.any=>rfl
theorem QD:∀l:Ψ AZ,AZ.idsAllL (λ_=>ζ) l=ζ
 |[]=>rfl
 |v::r=>by simp only[AZ.idsAllL,su v,QD r,Ys]
end
def Xs(X:z->Prop)(h:Gh)(H:As)(bs:Ψ z)(B:z):Prop:=X B\/∃id e,id∉bs/\H[id]?=D e/\e≠FO.dead/\h.io id=D B
def Xr(h:Gh)(bs:Ψ z):Gh:=⟨λj=>(bs[j]?).bind h.io,λj=>((bs[j]?).map h.gen).getD 0,λj=>((bs[j]?).map h.cap).getD 0⟩
def AAs:p.ren F=.dead↔p=.dead:=by cases p<;>simp[FO.ren]
theorem nT(d:(ae H bs)[N]?=D p)(c:p≠.dead):∃b a,bs[N]?=D b/\H[b]?=D a/\a≠.dead/\p=a.ren (bs.idxOf ·):=by grind[ae,FO.ren]
theorem AGX(e:(ae H bs)[N]?=D (FO.live t f)):∃b a,bs[N]?=D b/\H[b]?=D (FO.live t a)/\f=AZ.renL (bs.idxOf ·) a:=by obtain⟨b,d,h,j,_,i⟩:=nT e k!;cases d<;>grind[FO.ren]
theorem gH(d:owned (Xr h bs) (ae H bs) N):∃b e,b∈bs/\H[b]?=D e/\e≠FO.dead/\h.io b=D N:=by obtain⟨j,e,f,c,a⟩:=d;grind[nT,Xr]
theorem zI(x:z)(c:τ (x∈bs)=ζ)(_:x<(cx X h H w).n):
  bs.idxOf x<(cx (Xs X h H bs) (Xr h bs) (ae H bs) w).n/\(cx (Xs X h H bs) (Xr h bs) (ae H bs) w).gen (bs.idxOf x)=(cx X h H w).gen x/\(cx (Xs X h H bs) (Xr h bs) (ae H bs) w).io (bs.idxOf x)=(cx X h H w).io x/\(cx (Xs X h H bs) (Xr h bs) (ae H bs) w).cap (bs.idxOf x)=(cx X h H w).cap x:=by
 have a:x∈bs:=q!
 have b:=ja a;refine⟨by simpa[cx,ae]using qI a,?_,?_,?_⟩<;>simp[cx,Xr,b]
def AGY(B:z)(a:(cx (Xs X h H bs) (Xr h bs) (ae H bs) w).O B):(cx X h H w).O B:=by rcases a with(a|⟨id,e,_,d,c,f⟩)|a;exact .inl a;exact .inr ⟨id,e,d,c,f⟩;obtain⟨b,e,_,d,c,f⟩:=gH a;exact .inr ⟨b,e,d,c,f⟩
theorem QK{w:World}(h:w.heap[N]?=D Z):N<w.heap.size:=q!
theorem Ig.io_at(s:Ig X h H w)(c:H[N]?=D p)(e:p≠.dead)(b:h.io N=D t):t<w.heap.size:=by
 cases p with
 |dead=>grind
 |live g l=>obtain⟨_,hn|⟨d,i,T,B,f,a,j,_⟩⟩:=s.live N g l c;rw[show(cx X h H w).io N=h.io N from rfl,b]at hn;grind;rw[show(cx X h H w).io N=h.io N from rfl,b]at a;injection a with p;subst p;exact QK j
 |lp L=>obtain⟨_,d,r,a,j,_⟩:=s.lp N L c;rw[show(cx X h H w).io N=h.io N from rfl,b]at a;injection a with p;subst p;exact QK j
 |mp k q=>obtain⟨d,i,m,_,o,_⟩:=s.bld N _ c rfl;grind[QK]
 |it n seen=>obtain⟨d,m,_,o⟩:=s.bld N _ c rfl;grind[QK]
def fH:(p.ren F).isB=p.isB:=by cases p<;>rfl
theorem BAt.ren{h h':Gh}{w w':World}{id id':Nat}{e:FO}{ρ:Nat->Nat}(b:BAt h w id e)(g:h'.io id'=h.io id)(a:h'.gen id'=h.gen id)(f:h'.cap id'=h.cap id)(l: ∀B (o:Obj),h.io id=some B->w.heap[B]? =some o->w'.heap[B]? =w.heap[B]?):BAt h' w' id' (e.ren ρ):=by
 cases e with
 |mp k p=>obtain⟨B,i,c,j,d,m⟩:=b;exact⟨B,i,g.trans c,a.trans j,(l B _ c d).trans d,m⟩
 |it n seen=>obtain⟨B,c,j,d⟩:=b;exact⟨B,g.trans c,a.trans j,by rw[f];exact(l B _ c d).trans d⟩
 |_=>trivial
theorem Ig.sub(s:Ig X h H w)(K:bs.Nodup)(hb:∀b∈bs,((H.getD b .dead).idsAll λid=>decide (id∈bs))=ζ):Ig (Xs X h H bs) (Xr h bs) (ae H bs) w where
 out B n:=by have M:¬(∃b e,b∈bs/\H[b]?=D e/\e≠FO.dead/\h.io b=D B)->¬owned (Xr h bs) (ae H bs) B:=λhn ho=>hn (gH ho);rcases n with n|⟨id,e,Z,d,o,k⟩;exact⟨(s.out B n).1,M λ⟨b,e,_,d,o,k⟩=>(s.out B n).2 ⟨b,e,d,o,k⟩⟩;exact⟨s.io_at d o k,M λ⟨b,e',hm,x,Q,C⟩=>Z (s.inj id b e e' B d x o Q k C▸hm)⟩
 live j g cs hj:=by
  obtain⟨b,A_,a,D_,rfl⟩:=AGX hj;obtain⟨Y,J⟩:=s.live b g A_ D_;refine⟨by simpa[cx,Xr,a]using Y,?_⟩;rcases J with⟨hn,rfl⟩|⟨B,N,T,fz,f,y,c,G,ad,W,l⟩;exact .inl ⟨by simpa[cx,Xr,a]using hn,rfl⟩;refine .inr ⟨B,N,T,fz,f,by simpa[cx,Xr,a]using y,c,by simpa[cx,Xr,a]using G,by rw[PM,BY];exact ad,W,?_⟩;intro i v z;rw[PM,B9]at z;cases hu:A_[i]? with
  |none=>rw[hu]at z;cases z
  |some u=>rw[hu]at z;simp only[Br,Ap]at z;subst z;obtain⟨d,k,x⟩:=l i u hu;refine⟨d,k,Bv.ren (p:=λid=>decide (id∈bs)) (zI ·) rfl AGY x ?_⟩;have:=hb b (BQ a);grind[Nd,FO.idsAll]
 lp j L hj:=by
  obtain⟨b,P,a,D_,o,I⟩:=nT hj k!;cases P with
  |dead=>exact(o rfl).elim
  |live g cs=>simp[FO.ren]at I
  |mp=>simp[FO.ren]at I
  |it=>simp[FO.ren]at I
  |lp L0=>simp only[FO.ren,FO.lp.injEq]at I;subst I;obtain⟨Y,B,r,y,c,d,k,x,C,h5,h6,h7⟩:=s.lp b L0 D_;refine⟨by simpa[cx,Xr,a]using Y,B,r,by simpa[cx,Xr,a]using y,c,d,k,x,C,h5,h6,λt v m=>?_⟩;obtain⟨q,hq,e⟩:=Bo.1 m;simp only[EW]at e;obtain⟨rfl,rfl⟩:=e;refine⟨(h7 q.1 q.2 hq).1,Bv.ren (p:=λid=>decide (id∈bs)) (zI ·) rfl AGY (h7 q.1 q.2 hq).2 ?_⟩;have:=hb b (BQ a);grind[FO.idsAll,List.all_eq_true]
 inj i i' e e' B d k hn1 hn2 x C:=by obtain⟨b,c0,E,R,U,_⟩:=nT d hn1;obtain⟨b',O,F,S,V,_⟩:=nT k hn2;have e:=s.inj b b' c0 O B R S U V (by simpa[Xr,E]using x) (by simpa[Xr,F]using C);subst e;rw[<-rj K E,<-rj K F]
 bld j e hj n:=by obtain⟨b,P,a,D_,o,rfl⟩:=nT hj (by rintro rfl;cases n);rw[fH]at n;exact(s.bld b P D_ n).ren (by simp[Xr,a]) (by simp[Xr,a]) (by simp[Xr,a]) (λ_ _ _ _=>rfl)
def OM(h:Gh)(H:As)(bs:Ψ z)(hc:Gh):Gh:=
 let pick {α:Type} (f fc:z->α) (id:z):α:=if id∈bs then fc (bs.idxOf id)else if id<θ H then f id else fc (θ bs+(id-θ H))
 ⟨pick h.io hc.io,pick h.gen hc.gen,pick h.cap hc.cap⟩
def oG:(WC H bs S).length=θ H+(θ S-θ bs):=by simp[WC,Ts]
def Zt(h:bs.Nodup)(k:θ bs≤θ S)(a:(WC H bs S)[N]?=D p):
  (N∉bs/\N<θ H/\H[N]?=D p)\/∃j f,N=UB H bs j/\S[j]?=D f/\p=f.ren (UB H bs):=by
 unfold WC at a;rcases Aw N (θ H)with b|b;rw[CW (by rw[Ts];exact b)]at a;by_cases g:N∈bs;have i:=ja g;rw[xt _ bs H S _ N h i b k]at a;cases d:S[bs.idxOf N]? with
 |none=>rw[d]at a;cases a
 |some f=>rw[d]at a;simp only[Br,Ap]at a;refine .inr ⟨bs.idxOf N,f,?_,d,a.symm⟩;unfold UB;rw[C! (qI g),R7,i];rfl
 rw[jn _ bs H S g]at a;exact .inl ⟨g,b,a⟩;rw[Cm (by rw[Ts];exact b),Ts,B9,IW]at a;cases d:S[θ bs+(N-θ H)]? with
 |none=>rw[d]at a;cases a
 |some f=>rw[d]at a;simp only[Br,Ap]at a;refine .inr ⟨_,f,?_,d,a.symm⟩;unfold UB;rw[D! o!];omega
theorem da{hc}(f:bs.Nodup)(a:∀b∈bs,b<θ H)(j:z)(g:j<θ S):
  UB H bs j<(WC H bs S).length/\(OM h H bs hc).gen (UB H bs j)=hc.gen j/\(OM h H bs hc).io (UB H bs j)=hc.io j/\(OM h H bs hc).cap (UB H bs j)=hc.cap j:=by
 rw[oG];unfold UB;split;grind[OM];have c:θ H+(j-θ bs)∉bs:=λc=>by have:=a _ c;omega
 have e:θ bs+(θ H+(j-θ bs)-θ H)=j:=o!
 simp only[OM,c,if_false,show¬(θ H+(j-θ bs)<θ H)from by omega,e,and_true];omega
theorem o6(c:bs.Nodup)(k:∀b∈bs,b<θ H)(r:θ bs≤θ S)(s:owned (OM h H bs Q) (WC H bs S) N):
  (∃id e,id∉bs/\H[id]?=D e/\e≠FO.dead/\h.io id=D N)\/owned Q S N:=by
 obtain⟨id,e,o,l,a⟩:=s;rcases Zt c r o with⟨u,p,t⟩|⟨j,m,rfl,q,d⟩;grind[OM];have i:j<θ S:=q!
 rw[(da (h:=h) (hc:=Q) c k j i).2.2.1]at a;exact .inr ⟨j,m,q,λn=>l (d.trans (AAs.2 n)),a⟩
theorem G3.back(l:bs.Nodup)(k:∀b∈bs,b<θ H)(x:G3 (Xr h bs) (ae H bs) w Q S G):G3 h H w (OM h H bs Q) (WC H bs S) G:=by
 have r:θ bs<=θ S:=by have:=x.n;simpa[ae]using this
 refine⟨x.os,x.tape,x.output,x.size,λB p hn=>x.keep B p λa=>?_,?_,?_,?_,?_,x.loops⟩;obtain⟨b,e,_,g,f,i⟩:=gH a;exact hn ⟨b,e,g,f,i⟩;rw[oG];omega;intro id c;by_cases d:id∈bs;have q:=ja d;have:=x.gen (bs.idxOf id) (by simpa[ae]using qI d);grind[OM,Xr];simp[OM,d,c];intro id c;by_cases d:id∈bs;have q:=ja d;have:=x.same (bs.idxOf id) (by simpa[ae]using qI d);grind[OM,Xr];simp[OM,d,c];intro B a;rcases o6 l k r a with⟨id,e,_,g,f,i⟩|a;exact .inl ⟨id,e,g,f,i⟩;rcases x.fresh B a with a|a;obtain⟨b,e,_,g,f,i⟩:=gH a;exact .inl ⟨b,e,g,f,i⟩;grind
def Bv.back(g:bs.Nodup)(f:∀b∈bs,b<θ H)(l:θ bs≤θ S)
  (r:Bv (cx (Xs X h H bs) Q S w) d c):Bv (cx X (OM h H bs Q) (WC H bs S) w) (d.ren (UB H bs)) c:=by
 refine Bv.ren (x:=cx (Xs X h H bs) Q S w) (y:=cx X (OM h H bs Q) (WC H bs S) w) (ρ:=UB H bs) (p:=λ_=>ζ) (λj _ k=>da (h:=h) (hc:=Q) g f j k) rfl (λB a=>?_) r (su d);rcases a with a|a;exact .inl (.inl a);rcases o6 g f l a with a|a;exact .inl (.inr a);exact .inr a
theorem Ig.back(s:Ig X h H w)(l:bs.Nodup)(z:∀b∈bs,b<θ H)(x:G3 (Xr h bs) (ae H bs) w Q S G)
  (sc:Ig (Xs X h H bs) Q S G):Ig X (OM h H bs Q) (WC H bs S) G:=by
 have Y:θ bs<=θ S:=by have:=x.n;simpa[ae]using this
 have xb:=G3.back (h:=h) l z x;have M:∀{id:Nat}{e:FO}{B:Nat}{o:Obj},id∉bs->H[id]?=D e->e≠.dead->h.io id=D B->w.heap[B]?=D o->G.heap[B]?=D o:=by intro id e B o y E al c d;refine(x.keep B (QK d) λho=>?_).trans d;obtain⟨b,e',ao,I,h0,n⟩:=gH ho;exact y (s.inj id b e e' B E I al h0 c n▸ao)
 have lt:∀{j:Nat}{D_:FO},S[j]?=D D_->j<θ S:=by intro j D_ F;rcases Aw j (θ S)with A_|A_;exact A_;grind[u?]
 refine⟨λB O=>⟨DG (s.out B O).1 x.size,λho=>?_⟩,λid g cs U=>?_,λid L U=>?_,λid ap e e' B C A_ ad ag I n=>?_,λid e U O=>?_⟩;rcases o6 l z Y ho with⟨id,e,_,C,h0,A_⟩|ho;exact(s.out B O).2 ⟨id,e,C,h0,A_⟩;exact(sc.out B (.inl O)).2 ho;rcases Zt l Y U with⟨y,k,E⟩|⟨j,D_,rfl,F,a⟩;obtain⟨W,K⟩:=s.live id g cs E;refine⟨by simpa[cx,OM,y,k]using W,?_⟩;rcases K with⟨hn,rfl⟩|⟨B,N,T,fz,f,c,d,J,Z,V,p⟩;exact .inl ⟨by simpa[cx,OM,y,k]using hn,rfl⟩;refine .inr ⟨B,N,T,fz,f,by simpa[cx,OM,y,k]using c,M y E k! c d,by simpa[cx,OM,y,k]using J,Z,V,λi v P=>?_⟩;obtain⟨C,A_,I⟩:=p i v P;exact⟨C,A_,I.later (xb.later X)⟩;cases D_ with
 |dead=>simp[FO.ren]at a
 |lp L=>simp[FO.ren]at a
 |mp=>simp[FO.ren]at a
 |it=>simp[FO.ren]at a
 |live g0 R=>
  simp only[FO.ren,FO.live.injEq]at a;obtain⟨rfl,rfl⟩:=a;obtain⟨_,r1,r2,r3⟩:=da (h:=h) (hc:=Q) l z j (lt F);obtain⟨W,K⟩:=sc.live j g R F;refine⟨r1.trans W,?_⟩;rcases K with⟨hn,rfl⟩|⟨B,N,T,fz,f,c,d,J,Z,V,p⟩;exact .inl ⟨r2.trans hn,rfl⟩;refine .inr ⟨B,N,T,fz,f,r2.trans c,d,J.trans r3.symm,by rw[PM,BY];exact Z,V,λi v P=>?_⟩;rw[PM,B9]at P;cases hu:R[i]? with
  |none=>rw[hu]at P;cases P
  |some u=>rw[hu]at P;simp only[Br,Ap]at P;subst P;obtain⟨C,A_,I⟩:=p i u hu;exact⟨C,A_,Bv.back l z Y I⟩
 rcases Zt l Y U with⟨y,k,E⟩|⟨j,D_,rfl,F,a⟩;obtain⟨W,B,r,c,d,C,A_,I,n,h5,h6,h7⟩:=s.lp id L E;exact⟨by simpa[cx,OM,y,k]using W,B,r,by simpa[cx,OM,y,k]using c,M y E k! c d,C,A_,I,n,h5,h6,λt v m=>⟨(h7 t v m).1,(h7 t v m).2.later (xb.later X)⟩⟩;cases D_ with
 |dead=>simp[FO.ren]at a
 |live g0 R=>simp[FO.ren]at a
 |mp=>simp[FO.ren]at a
 |it=>simp[FO.ren]at a
 |lp L0=>simp only[FO.ren,FO.lp.injEq]at a;subst a;obtain⟨_,r1,r2,r3⟩:=da (h:=h) (hc:=Q) l z j (lt F);obtain⟨W,B,r,c,d,C,A_,I,n,h5,h6,h7⟩:=sc.lp j L0 F;refine⟨r1.trans W,B,r,r2.trans c,d,C,A_,I,n,h5,h6,λt v m=>?_⟩;obtain⟨q,hq,e⟩:=Bo.1 m;simp only[EW]at e;obtain⟨rfl,rfl⟩:=e;exact⟨(h7 q.1 q.2 hq).1,Bv.back l z Y (h7 q.1 q.2 hq).2⟩
 have key:∀{id:Nat}{e:FO},(WC H bs S)[id]?=D e→e≠.dead→(OM h H bs Q).io id=D B→
   (id∉bs/\H[id]?=D e/\h.io id=D B)\/∃j D_,id=UB H bs j/\S[j]?=D D_/\D_≠.dead/\Q.io j=D B:=by
  intro id e U al c;rcases Zt l Y U with⟨y,k,E⟩|⟨j,D_,rfl,F,a⟩;exact .inl ⟨y,E,by simpa[OM,y,k]using c⟩;exact .inr ⟨j,D_,rfl,F,λh0=>al (a.trans (AAs.2 h0)),by rw[<-(da (h:=h) (hc:=Q) l z j (lt F)).2.2.1];exact c⟩
 rcases key C ad I with⟨m1,a1,b1⟩|⟨j1,g1,e1,a1,d1,b1⟩<;>rcases key A_ ag n with⟨m2,a2,b2⟩|⟨j2,g2,e2,a2,d2,b2⟩;exact s.inj _ _ _ _ B a1 a2 ad ag b1 b2;exact((sc.out B (.inr ⟨_,_,m1,a1,ad,b1⟩)).2 ⟨j2,g2,a2,d2,b2⟩).elim;exact((sc.out B (.inr ⟨_,_,m2,a2,ag,b2⟩)).2 ⟨j1,g1,a1,d1,b1⟩).elim;rw[e1,e2,sc.inj _ _ _ _ B a1 a2 d1 d2 b1 b2];rcases Zt l Y U with⟨y,k,E⟩|⟨j,D_,rfl,F,rfl⟩;have b:=s.bld id e E O;have a:e.ren (λx=>x)=e:=by cases e<;>simp_all[FO.ren,FO.isB]
 have:=b.ren (h':=OM h H bs Q) (w':=G) (id':=id) (ρ:=λx=>x) (by simp[OM,y,k]) (by simp[OM,y,k]) (by simp[OM,y,k]) (λB o c hb=>(M y E (by rintro rfl;cases O) c hb).trans hb.symm);rwa[a]at this;rw[fH]at O;obtain⟨_,r1,r2,r3⟩:=da (h:=h) (hc:=Q) l z j (lt F);exact(sc.bld j D_ F O).ren r2 r1 r3 (λ_ _ _ _=>rfl)
end
def pU(env:Env)(c:Call)(first caps:Ψ AZ):Ψ AZ:=first++c.args.toList.map (BN env)++caps
def fI(P:u)(s f:z):Ω (z×TypeId×z):=
 match P.underlying s with
 |some (.struct fs)=>
  match fs[f]? with
  |some fd=>
   match tI P fd.type with
   |some (_,n)=>D (fd.offset,fd.type,n)
   |none=>A
  |none=>A
 |_=>A
def eI(P:u)(t:TypeId):Ω (Ω z×TypeId×z):=
 match P.underlying t with
 |some (.array len e)=>(tI P e).map λi=>(D len,e,i.2)
 |some (.slice e)=>(tI P e).map λi=>(A,e,i.2)
 |_=>A
inductive Kd where
 |bool|int (k:IntKind)|str|bytes|other
 deriving DecidableEq
def kd(P:u)(t:TypeId):Kd:=
 match P.underlying t with
 |some .bool=>.bool
 |some (.int k)=>.int k
 |some .string=>.str
 |some (.slice e)=>match P.underlying e with|some (.int .u8)=>.bytes|_=>.other
 |_=>.other
def UR(H:As)(id g:z):Bool:=
 match H[id]? with
 |some (.live g' _)=>g'==g
 |_=>η
def Ig.cur{w}(s:Ig X h H w)(a:UR H N t=ζ):h.gen N=t:=by unfold UR at a;split at a;rename_i c b d;have:=(s.live N c b d).1;simp at a;exact this.trans a;cases a
def shift(H:As)(k:z):AZ->Ω AZ
 |.ptr id g off=>if UR H id g then D (.ptr id g (off+k))else A
 |.vptr cs=>if k<=θ cs then D (.vptr (cs.drop k))else A
 |_=>A
theorem xv(s:Ig e h H w)(r:Bv (cx e h H w) d c)(b:shift H N d=D x):
  ∃B a,c=.pointer (D ⟨B,a,A⟩)/\Bv (cx e h H w) x (.pointer (D ((⟨B,a,A⟩:Addr).add N))):=by
 cases r with
 | @ptr id g a c k o t l=>simp only[shift]at b;split at b;rename_i X;simp at b;subst b;obtain⟨B,i,rfl⟩:=l (s.cur X);refine⟨B,a,rfl,.ptr k o rfl λ_=>⟨B,i,by rw[Pd]⟩⟩;cases b
 | @vptr q B a f n m l v=>simp only[shift]at b;split at b;simp at b;subst b;refine⟨B,a,rfl,?_⟩;rw[Pd];refine .vptr (λj=>f (N+j)) n m (λj d p=>?_) λj d p=>?_;grind;grind;cases b
 |_=>grind[shift]
def XA(P:u)(H:As)(s f:z)(v:AZ):Ω AZ:=
 match fI P s f with
 |some (off,_,n)=>if n=0 then A else shift H off v
 |none=>A
def wW(sim:Ig e h H w)(r:Bv (cx e h H w) d c)(X:XA P H N t d=D x):
  ∃i,(Instr.fieldAt N c t).run P w=.ok i w/\Bv (cx e h H w) x i:=by
 unfold XA at X;split at X;rename_i k f n a;split at X;cases X;rename_i hn;obtain⟨B,o,rfl,hr⟩:=xv sim r X;unfold fI at a;split at a;rename_i p g;split at a;rename_i l s;split at a;rename_i b m j;obtain⟨rfl,rfl,rfl⟩:=a;refine⟨_,?_,hr⟩;simp[Instr.fieldAt,run_underlying g,s,Instr.sureAddr,fieldPlace,L5 j,hn];cases a;cases a;cases a;cases X
def XF(P:u)(H:As)(t:TypeId)(v:AZ)(i:AZ):Ω AZ:=
 match eI P t,i with
 |some (D len,_,sz),.int _ i=>if 0<=i/\i<len then shift H (i.toNat*sz) v else A
 |some (A,_,sz),.int _ i=>
  match v with
  |.vs sz' rows=>if 0<=i/\sz=sz' then(rows[i.toNat]?).map λe=>.vptr e.cells else A
  |.sl id g sz' off len=>if 0<=i/\i<len/\sz=sz'/\UR H id g=ζ then D (.ptr id g (off+i.toNat*sz))else A
  |_=>A
 |_,_=>A
theorem wa(sim:Ig e h H w)(r:Bv (cx e h H w) d c)(v:Bv (cx e h H w) x I)
  (l:XF P H b d x=D T):∃O,(Instr.indexAt b c I).run P w=.ok O w/\Bv (cx e h H w) T O:=by
 unfold XF at l;split at l;rename_i len u sz k n t;cases v;split at l;rename_i A_;obtain⟨B,o,rfl,hr⟩:=xv sim r l;unfold eI at t;split at t;rename_i F y X;cases m:tI P y with
 |none=>rw[m]at t;cases t
 |some p=>rw[m]at t;simp only[Br,Ap,EW]at t;obtain⟨rfl,rfl,rfl⟩:=t;refine⟨_,?_,hr⟩;simp[Instr.indexAt,asIntOf,run_underlying X,Instr.sureAddr,A_,L5 m]
 rename_i y X;cases m:tI P y<;>grind;cases t;cases l;rename_i u sz k n t;cases v;have X:∃x,P.underlying b=D (.slice u)/\tI P u=D x/\x.2=sz:=by
  unfold eI at t;split at t;rename_i F y X;cases m:tI P y with
  |none=>rw[m]at t;cases t
  |some p=>rw[m]at t;simp at t
  rename_i y X;cases m:tI P y with
  |none=>rw[m]at t;cases t
  |some p=>rw[m]at t;simp only[Br,Ap,EW]at t;obtain⟨_,rfl,rfl⟩:=t;exact⟨p,X,m,rfl⟩
  cases t
 obtain⟨p,X,m,rfl⟩:=X;cases r with
 | @vs N q a cap f C Y S W Z=>
  simp only at l;split at l;rename_i A_;obtain⟨G,rfl⟩:=A_;cases Q:q[n.toNat]? with
  |none=>rw[Q]at l;cases l
  |some R=>
   rw[Q]at l;simp only[Br,Ap]at l;subst l;have s:n.toNat<θ q:=by rcases Aw n.toNat (θ q)with i|i;exact i;rw[Cn i]at Q;cases Q
   obtain⟨B,z,rfl,V,U,J⟩:=W (by intro u;rw[u]at s;simp at s);refine⟨.pointer (D ⟨B,z+n.toNat*p.2,A⟩),?_,.vptr (f n.toNat ·) V U (λj d M=>?_) λj d M=>Z _ R _ d Q M⟩;have E:n<θ q:=o!
   simp[Instr.indexAt,asIntOf,run_underlying X,G,E,L5 m,Pd];have:=J _ R j d Q M;rw[gZ];exact this
  cases l
 | @sl id g N z len c K Q h1 J=>simp only at l;split at l;rename_i A_;obtain⟨G,s,rfl,D_⟩:=A_;simp only[Ap]at l;subst l;rcases J (sim.cur D_)with⟨_,hl,_,_⟩|⟨B,cap,L,C,_,rfl⟩;omega;refine⟨.pointer (D ⟨B,z+n.toNat*p.2,A⟩),?_,.ptr K Q rfl λ_=>⟨B,L,rfl⟩⟩;simp[Instr.indexAt,asIntOf,run_underlying X,G,s,L5 m,Pd];cases l
 |_=>cases l
 cases l
def vp(P:u)(t:TypeId)(cs:Ψ AZ)(off:z):Ω AZ:=
 match tI P t with
 |some (ζ,n)=>if off+n<=θ cs then D (.agg ((cs.drop off).take n))else A
 |some (η,_)=>cs[off]?
 |none=>A
theorem AAl{P:u}{w:World}(l:k.size=θ f)(o:∀(j:z)(c:Value),k[j]?=D c→c.oneCell'=ζ)
  (m:∀(j:z)(v:AZ)(c:Value),f[j]?=D v->k[j]?=D c->Bv i v c) (e:vp P b f N=D d):∃c,(part b k N).run P w=.ok c w/\Bv i d c:=by
 unfold vp at e;split at e;rename_i n t;split at e;rename_i a;simp at e;subst e;refine⟨.agg (k.extract N (N+n)),by simp[part,Y0 t,L5 t],.agg w! (λj c h=>?_) λj v c h g=>?_⟩;grind[Array.getElem?_extract];grind;cases e;rename_i n t;have x:N<θ f:=q!
 have g:k[N]?=D (k[N]' o!):=Oe o!;exact⟨_,by simp[part,Y0 t,g],m N d _ e g⟩;cases e
def uw(P:u)(s f:z)(v:AZ):Ω AZ:=
 match fI P s f,v with
 |some (off,t,_),.agg cs=>vp P t cs off
 |_,_=>A
def ADo(r:Bv i d c)(s:uw P N t d=D x):∃b,(Instr.field N c t).run P w=.ok b w/\Bv i x b:=by
 unfold uw at s;split at s;rename_i o v n f a;cases r with
 | @agg f j g k m=>obtain⟨b,l,hr⟩:=AAl (P:=P) (w:=w) g k m s;unfold fI at a;split at a;rename_i q h;split at a;rename_i p e;split at a;simp at a;obtain⟨rfl,rfl,rfl⟩:=a;exact⟨b,by simp[Instr.field,run_underlying h,e,asAgg,l],hr⟩;cases a;cases a;cases a
 cases s
def mQ(P:u)(t:TypeId)(v i:AZ):Ω AZ:=
 match v,i with
 |.agg cs,.int _ i=>
  match eI P t with
  |some (D len,e,sz)=>if 0<=i/\i<len then vp P e cs (i.toNat*sz)else A
  |_=>A
 |.str s,.int _ i=>if kd P t=.str/\0<=i then(s[i.toNat]?).map λb=>.int .u8 b.toNat else A
 |_,_=>A
theorem vP{P}(h:kd P b=.str):P.underlying b=D .string:=by unfold kd at h;grind
theorem AJN(h:kd P b=.int M):P.underlying b=D (.int M):=by unfold kd at h;grind
theorem ADt(r:Bv i d c)(B:Bv i x I)(a:mQ P b d x=D T):∃f,(Instr.index b c I).run P w=.ok f w/\Bv i T f:=by
 unfold mQ at a;split at a;rename_i C k n;cases B;split at a;rename_i len e sz t;split at a;rename_i g;cases r with
 | @agg C D_ m F J=>
  obtain⟨f,G,hr⟩:=AAl (P:=P) (w:=w) m F J a;unfold eI at t;split at t;rename_i A_ E o;cases z:tI P E with
  |none=>grind
  |some p=>rw[z]at t;simp only[Br,Ap,EW]at t;obtain⟨rfl,rfl,rfl⟩:=t;exact⟨f,by simp[Instr.index,asIntOf,run_underlying o,g,L5 z,G],hr⟩
  simp_all;cases t
 cases a;cases a;rename_i s k n;cases B;cases r with
 | @str s h u=>
  split at a;rename_i g;subst u;cases y:h.data.toList[n.toNat]? with
  |none=>grind
  |some v=>
   rw[y]at a;simp only[Br,Ap]at a;subst a;have j:h[n.toNat]?=D v:=by
    obtain⟨H,t⟩:=F8.1 y;have l:n.toNat<h.size:=by simpa using H
    rw[getElem?_pos h n.toNat l];exact E! D t
   exact⟨.int .u8 v.toNat,by simp[Instr.index,asIntOf,run_underlying (vP g.1),g.2,j],.int _ _⟩
  cases a
 cases a
def AEO(P:u)(g:TypeId->Option (List Kd)):List Field->z->Option (List Kd)
 |[],_=>some []
 |f::r,off=>
  if f.offset=off/\(f.name== "_")=false then
   match g f.type with
   |some ks=>if ks.length=P.cellsOf f.type then(AEO P g r (off+ks.length)).map (ks++ ·)else none
   |none=>none
  else none
def yS(P:u):z->TypeId->Ω (Ψ Kd)
 |0,_=>A
 |d+1,t=>
  match P.underlying t with
  |some .bool=>D [.bool]
  |some (.int k)=>D [.int k]
  |some .string=>D [.str]
  |some (.array n e)=>
   match yS P d e with
   |some ks=>if θ ks=P.cellsOf e/\(P.info? e).isSome then D (ς n ks).flatten else A
   |none=>A
  |some (.struct fs)=>if P.stoodInHeld t then A else AEO P (yS P d) fs.toList 0
  |_=>A
def ABh:Kd->AZ->Bool
 |.bool,.bool _=>ζ
 |.int k,.int k' _=>decide (k=k')
 |.str,.str _=>ζ
 |_,_=>η
def typed:Ψ Kd->Ψ AZ->Bool
 |[],[]=>ζ
 |k::ks,v::vs=>ABh k v&&typed ks vs
 |_,_=>η
def sEq:AZ->AZ->Bool
 |.bool a,.bool b=>a==b
 |.int _ a,.int _ b=>a==b
 |.str a,.str b=>a==b
 |_,_=>η
def wU:Ψ AZ->Ψ AZ->Bool
 |[],[]=>ζ
 |a::as,b::bs=>sEq a b&&wU as bs
 |_,_=>η
variable {J:Ψ Kd}
def Yr{b:Ψ Kd}:∀{a},typed (J++b) a=ζ->typed J (a.take (θ J))=ζ/\typed b (a.drop (θ J))=ζ:=by
 induction J with
 |nil=>intro a h;exact⟨by simp[typed],by simpa using h⟩
 |cons k f e=>
  intro a h;cases a with
  |nil=>simp[typed]at h
  |cons v a=>simp only[dS,typed,BS]at h;obtain⟨c,d⟩:=e h.2;exact⟨by simp[typed,h.1,c],by simpa using d⟩
def Gn:∀{a}{b},typed a b=ζ->θ b=θ a
 |[],[],_=>rfl
 |_::_,_::_,h=>by simp only[typed,BS]at h;simp[Gn h.2]
 |[],_::_,h=>by simp[typed]at h
 |_::_,[],h=>by simp[typed]at h
def rO:∀n(c bs:Ψ AZ),θ c=θ bs->wU c bs=(wU (c.take n) (bs.take n)&&wU (c.drop n) (bs.drop n))
 |0,c,bs,_=>by simp[wU]
 |n+1,[],[],_=>by simp[wU]
 |n+1,a::c,b::bs,h=>by simp only[CY,Nat.add_right_cancel_iff]at h;simp only[wU,List.take_succ_cons,List.drop_succ_cons,rO n c bs h,Bool.and_assoc]
 |n+1,[],_::_,h=>by simp at h
 |n+1,_::_,[],h=>by simp at h
def Over(P:Program)(x:Cx)(t:TypeId)(as:List AZ)(a:Value):Prop:=
 ∃(b:Bool) (n:Nat) (cs:List Value),tI P t=some (b,n)/\as.length=n/\oL x as cs/\(if b then a= .agg cs.toArray else cs=[a])
def EqF(P:u)(d:z)(t:TypeId)(ks:Ψ Kd):Prop:=
 ∀w x a b as bs,Over P x t as a->Over P x t bs b->typed ks as=ζ->typed ks bs=ζ->(Op.equalIn d t a b).run P w=.ok (wU as bs) w
theorem nN{P:Program}{x:Cx}{t:TypeId}{h:List AZ}{d:List Value}{off n:Nat}{w:World}{b:Bool}(hr:oL x h d)(f:tI P t=some (b,n))(m:b=false→n=1)(o:off+n≤h.length):
  ∃a,(part t d.toArray off).run P w= .ok a w/\Over P x t ((h.drop off).take n) a:=by
 have e:oL x ((h.drop off).take n) ((d.drop off).take n):=by
  refine⟨by simp[hr.1],λj v c g i=>?_⟩;rw[dV]at g i;split at g
  ·rename_i k;rw[if_pos k]at i;rw[IW]at g i;exact hr.2 _ v c g i
  ·cases g
 cases b with
 |true=>refine⟨.agg (d.toArray.extract off (off+n)),by simp[part,Y0 f,L5 f],true,n,(d.drop off).take n,f,by simp;omega,e,?_⟩;simp only[if_true,Value.agg.injEq];apply Array.toList_inj.1;simp only[Array.toList_extract,wm,UA]
 |false=>
  obtain rfl:=m rfl;have l:off<d.length:=by rw[hr.1];omega
  refine⟨d[off],by simp[part,Y0 f,l],false,1,(d.drop off).take 1,f,by simp;omega,e,?_⟩;rw[if_neg (by simp),J4 l];rfl
def pA{d}(h:yS P d b=D J):∃t,tI P b=D (t,P.cellsOf b)/\(t=η->θ J=1):=by
 cases d with
 |zero=>simp[yS]at h
 |succ d=>
  unfold yS at h;unfold tI Program.cellsOf;cases f:P.info? b with
  |none=>
   have a:P.underlying b=A:=by simp[Program.underlying,f]
   rw[a]at h;cases h
  |some i=>
   cases a:P.underlying b with
   |none=>rw[a]at h;cases h
   |some c=>rw[a]at h;refine⟨_,rfl,?_⟩;cases c<;>simp_all<;>(subst h;rfl)
def AAv{P:Program}{d:Nat}{g:TypeId→Option (List Kd)}(C: ∀t i,g t=some i→EqF P d t i∧ ∃b,tI P t=some (b,P.cellsOf t)∧(b=false→i.length=1)){x:Cx}{w:World}{l bs:List AZ}{H I:List Value}
  (A_:oL x l H) (B:oL x bs I) (j:l.length=bs.length): ∀(m:List Field) (h:Nat) (i:List Kd),AEO P g m h=some i->h<=l.length->typed i (l.drop h)=true->typed i (bs.drop h)=true->(Op.eqFields d H.toArray I.toArray m).run P w= .ok (wU (l.drop h) (bs.drop h)) w
 |[],h,i,hk,_,ta,tb=>by simp only[AEO,Ap]at hk;subst hk;have J:=Gn ta;have K:=Gn tb;rw[EX J,EX K];simp[Op.eqFields,wU]
 |f::m,h,i,hk,ho,ta,tb=>by
  simp only[AEO]at hk;split at hk;rename_i L;obtain⟨rfl,k⟩:=L;split at hk;rename_i k1 u;split at hk;rename_i o;cases hr:AEO P g m (f.offset+k1.length)with
  |none=>rw[hr]at hk;cases hk
  |some N=>
   rw[hr]at hk;simp only[Br,Ap]at hk;subst hk;obtain⟨q,y⟩:=Yr ta;obtain⟨r,z⟩:=Yr tb;obtain⟨s,b,D_,n⟩:=C _ _ u;have E:=Gn q;have O:=Gn r;have v:f.name≠ "_" :=by simpa using k
   obtain⟨a,Q,F⟩:=nN (P:=P) (w:=w) (off:=f.offset) A_ D_ (λe=>o▸n e) (by rw[<-o];simp at E;omega);obtain⟨c,R,G⟩:=nN (P:=P) (w:=w) (off:=f.offset) B D_ (λe=>o▸n e) (by rw[<-o];simp at O;omega);rw[<-o]at F G;have p:=s w x a c _ _ F G q r;have M:=AAv C (w:=w) A_ B j m (f.offset+k1.length) N hr (by simp at E;omega) (by simpa[M8]using y) (by simpa[M8]using z);rw[rO k1.length _ _ (by simp[j])];simp only[Op.eqFields,if_pos v,Sem.run_bind,Q,R,p,Result.andThen_ok];cases wU ((l.drop f.offset).take k1.length) ((bs.drop f.offset).take k1.length);simp;simp only[Ce,Qf,if_false,qh,M,M8]
  cases hk;cases hk;cases hk
def xr{P:Program}{d:Nat}{e:TypeId}{f:Ψ Kd}(o:EqF P d e f){b:Bool}(s:tI P e=D (b,θ f))(j:b=η→θ f=1){x:Cx}{w:World}{h bs:Ψ AZ}{z A_:Ψ Value}
  (u:oL x h z) (v:oL x bs A_) (g:θ h=θ bs):∀(n i:Nat),i*θ f<=θ h->typed (ς n f).flatten (h.drop (i*θ f))=ζ->typed (ς n f).flatten (bs.drop (i*θ f))=ζ->(Op.eqItems d e (θ f) z.toArray A_.toArray (List.range' i n)).run P w=.ok (wU (h.drop (i*θ f)) (bs.drop (i*θ f))) w
 |0,i,_,ta,tb=>by have B:=Gn ta;have C:=Gn tb;rw[EX (l:=h.drop _) (by simpa using B),EX (l:=bs.drop _) (by simpa using C)];simp[Op.eqItems,wU]
 |n+1,i,ho,ta,tb=>by
  rw[oP,qw]at ta tb;obtain⟨q,k⟩:=Yr ta;obtain⟨r,m⟩:=Yr tb;have y:=Gn q;have E:=Gn r;obtain⟨a,H,F⟩:=nN (P:=P) (w:=w) (off:=i*θ f) u s j (by simp at y;omega);obtain⟨c,I,G⟩:=nN (P:=P) (w:=w) (off:=i*θ f) v s j (by simp at E;omega);have p:=o w x a c _ _ F G q r;rw[M8]at k m;have t:i*θ f+θ f=(i+1)*θ f:=by rw[ED];omega
  rw[t]at k m;have D_:=xr o s j (w:=w) u v g n (i+1) (by simp at y;omega) k m;rw[rO (θ f) _ _ (by simp[g]),M8,M8,t];rw[List.range'_succ];simp only[Op.eqItems,Sem.run_bind,H,I,p,Result.andThen_ok];cases wU ((h.drop (i*θ f)).take (θ f)) ((bs.drop (i*θ f)).take (θ f));simp;simp[D_]
def yT{P}(d:Nat):∀m t(y:Ψ Kd),yS P m t=D y->EqF P (d+m) t y
 |0,_,_,h=>by simp[yS]at h
 |m+1,t,y,h=>by
  obtain⟨bt,T,_⟩:=pA h;intro w x a b F bs X Y o p;obtain⟨O,n1,xs,c,U,ra,j⟩:=X;obtain⟨Z,n2,ys,r,V,E,l⟩:=Y;rw[c]at r;simp only[Ap,EW]at r;obtain⟨rfl,rfl⟩:=r;have I:=Gn o;have J:=Gn p;have g:∀q,P.underlying t=D q->O=(match q with|.struct _|.array _ _=>ζ|_=>η):=by intro q S;unfold tI at c;rw[S]at c;split at c;rename_i G;injection G with e;subst e;simp only[Ap,EW]at c;exact c.1.symm;cases c
  unfold yS at h;split at h;rename_i f;simp only[Ap]at h;subst h;have:=g _ f;simp only at this;subst this;simp only[Qf,if_false]at j l;subst j l;match F,I,bs,J with
  |[u],_,[v],_=>have C:=ra.2 0 u a rfl rfl;have D_:=E.2 0 v b rfl rfl;simp only[typed,R3]at o p;cases u<;>simp[ABh]at o;cases v<;>simp[ABh]at p;cases C;cases D_;rw[show d+(m+1)=(d+m)+1 from rfl,run_equalIn_bool' w (d+m) t _ _ f];simp[wU,sEq]
  rename_i k f;simp only[Ap]at h;subst h;have:=g _ f;simp only at this;subst this;simp only[Qf,if_false]at j l;subst j l;match F,I,bs,J with
  |[u],_,[v],_=>have C:=ra.2 0 u a rfl rfl;have D_:=E.2 0 v b rfl rfl;simp only[typed,R3]at o p;cases u<;>simp[ABh]at o;cases v<;>simp[ABh]at p;cases C;cases D_;subst o p;rw[show d+(m+1)=(d+m)+1 from rfl,run_equalIn_int w (d+m) t _ _ _ _ f];simp[wU,sEq]
  rename_i f;simp only[Ap]at h;subst h;have:=g _ f;simp only at this;subst this;simp only[Qf,if_false]at j l;subst j l;match F,I,bs,J with
  |[u],_,[v],_=>
   have C:=ra.2 0 u a rfl rfl;have D_:=E.2 0 v b rfl rfl;simp only[typed,R3]at o p;cases u<;>simp[ABh]at o;cases v<;>simp[ABh]at p;cases C with
   |str s1 Q=>
    cases D_ with
    |str s2 R=>subst Q R;rw[show d+(m+1)=(d+m)+1 from rfl,run_equalIn_string w (d+m) t _ _ f];simp[wU,sEq,ByteArray.toList_eq]
  rename_i n e f;split at h;rename_i k1 A_;split at h;rename_i H;simp only[Ap]at h;subst h;have:=g _ f;simp only at this;subst this;simp only[if_true]at j l;subst j l;obtain⟨N,s⟩:=gb.1 H.2;obtain⟨b,L,B⟩:=pA A_;rw[<-H.1]at L;have i:=xr (yT d m e k1 A_) L B (w:=w) ra E o! n 0 k! (by simpa using o) (by simpa using p);rw[show d+(m+1)=(d+m)+1 from rfl,run_equalIn_array w (d+m) _ _ f s,<-H.1,List.range_eq_range'];simpa using i;cases h;cases h;rename_i K f;split at h;cases h;rename_i W;have:=g _ f;simp only at this;subst this;simp only[if_true]at j l;subst j l;have z:P.fieldsOf t=K:=by simp[Program.fieldsOf,f]
  have i:=AAv (d:=d+m) (λt y M=>⟨yT d m t y M,pA M⟩) (w:=w) ra E o! K.toList 0 y h k! (by simpa using o) (by simpa using p);rw[show d+(m+1)=(d+m)+1 from rfl,run_equalIn_struct w (d+m) t _ _ (by rw[z];exact f) (by simpa using W),z];simpa using i;cases h
def qy(op:BinOp)(k:IntKind)(a b:Int):Ω AZ:=
 match op with
 |.add=>D (.int k (k.wrap (a+b)))
 |.sub=>D (.int k (k.wrap (a-b)))
 |.mul=>D (.int k (k.wrap (a*b)))
 |.quo=>if b=0 then A else D (.int k (k.wrap (a.tdiv b)))
 |.rem=>if b=0 then A else D (.int k (a.tmod b))
 |.and=>D (.int k (k.wrap (κ k.bits a&&&κ k.bits b).toNat))
 |.or=>D (.int k (k.wrap (κ k.bits a|||κ k.bits b).toNat))
 |.xor=>D (.int k (k.wrap (κ k.bits a^^^κ k.bits b).toNat))
 |.andNot=>D (.int k (k.wrap (κ k.bits a&&& ~~~κ k.bits b).toNat))
 |.eql=>D (.bool (a==b))
 |.neq=>D (.bool (a !=b))
 |.lss=>D (.bool (τ (a<b)))
 |.leq=>D (.bool (τ (a<=b)))
 |.gtr=>D (.bool (τ (a>b)))
 |.geq=>D (.bool (τ (a>=b)))
 |.shl|.shr=>A
def ABM{a k}(w:World)(h:qy R M a k=D d):∃c,(binOp R b (.int M a) (.int M k)).run P w=.ok c w/\Bv i d c:=by
 cases R<;>simp only[qy]at h<;>(try split at h)<;>first
  |cases h;done
  |(simp at h;subst h;first
    |exact⟨_,by simp[binOp,Op.intArith,Op.intDiv,Op.intBits, *],.int _ _⟩
    |exact⟨_,by simp[binOp,Op.intCmp],.bool _⟩)
def mb(op:BinOp)(k:IntKind)(a b:Int):Option AZ:=
 if b<0 then ε else
 match op with
 |.shl=>δ (.int k (k.wrap (a*2^min b.toNat k.bits)))
 |.shr=>δ (.int k (a.fdiv (2^min b.toNat k.bits)))
 |_=>ε
def AE8(P:u)(t:TypeId):Ω (Ψ Kd):=
 if P.eqGuardType P.depth t then A else
 match yS P 12 t with
 |some ks=>if tI P t=D (ζ,θ ks)then D ks else A
 |none=>A
def yM(op:BinOp)(a b:Ψ UInt8):Ω AZ:=
 match op with
 |.add=>if θ a+θ b<=9223372036854775807 then D (.str (a++b))else A
 |.eql=>D (.bool (a==b))
 |.neq=>D (.bool (a !=b))
 |.lss=>D (.bool (Op.bytesLess a b))
 |.leq=>D (.bool (Op.bytesLess a b||a==b))
 |.gtr=>D (.bool (!(Op.bytesLess a b||a==b)))
 |.geq=>D (.bool (!Op.bytesLess a b))
 |_=>A
def zn(P:u)(op:BinOp)(t:TypeId)(x y:AZ):Ω AZ:=
 match x,y with
 |.int k a,.int k' b=>
  match op with
  |.shl|.shr=>mb op k a b
  |_=>if k=k' then qy op k a b else A
 |.bool a,.bool b=>
  match op with
  |.eql=>if kd P t=.bool then D (.bool (a==b))else A
  |.neq=>if kd P t=.bool then D (.bool (!(a==b)))else A
  |_=>A
 |.str a,.str b=>yM op a b
 |.agg as,.agg bs=>
  match AE8 P t with
  |some ks=>
   if typed ks as=ζ/\typed ks bs=ζ then
    match op with
    |.eql=>D (.bool (wU as bs))
    |.neq=>D (.bool (!wU as bs))
    |_=>A
   else A
  |none=>A
 |_,_=>A
theorem AC5(h:kd P b=.bool):P.underlying b=D .bool:=by unfold kd at h;grind
def toList_data(t:ByteArray):t.toList=t.data.toList:=ByteArray.toList_eq t
theorem AG5{P:Program}{e:BinOp}{t:TypeId}{x y:Operand}{a b u:AZ}{f g:Value}{X:Cx}(w:World)(ra:Bv X a f)(A_:Bv X b g)(h:zn P e t a b=some u):
  ∃c,(do eqGuard e t x y f g;binOp e t f g:Sem Value).run P w= .ok c w/\Bv X u c:=by
 unfold zn at h;split at h
 ·rename_i k n T U;cases ra;cases A_;have m:(eqGuard e t x y (.int k n) (.int T U)).run P w= .ok () w:=by unfold eqGuard;cases e<;>simp
  simp only[Sem.run_bind,m,Result.andThen_ok];split at h
  ·unfold mb at h;split at h
   ·cases h
   ·rename_i C;simp only[Ap]at h;subst h;exact⟨_,by simp[binOp,Op.shift,C],.int _ _⟩
  ·unfold mb at h;split at h
   ·cases h
   ·rename_i C;simp only[Ap]at h;subst h;exact⟨_,by simp[binOp,Op.shift,C],.int _ _⟩
  ·simp_all[ABM]
 ·rename_i p q;cases ra;cases A_;have m:(eqGuard e t x y (.bool p) (.bool q)).run P w= .ok () w:=by unfold eqGuard;cases e<;>simp
  simp only[Sem.run_bind,m,Result.andThen_ok];split at h
  ·split at h
   ·rename_i I;simp only[Ap]at h;subst h;exact⟨_,run_eql_bool w t p q (AC5 I),.bool _⟩
   ·cases h
  ·split at h
   ·rename_i I;simp only[Ap]at h;subst h;refine⟨_,?_,.bool _⟩;simp only[binOp];simp[run_equal_bool w t p q (AC5 I)]
   ·cases h
  ·cases h
 ·rename_i s1 s2;cases ra with
  |str s L=>
   cases A_ with
   |str z O=>
    have m:(eqGuard e t x y (.string s) (.string z)).run P w= .ok () w:=by unfold eqGuard;cases e<;>simp
    simp only[Sem.run_bind,m,Result.andThen_ok];subst L O;unfold yM at h;split at h
    ·split at h
     ·rename_i S;simp only[Ap]at h;subst h;have o: ¬(((s.size+z.size:Nat):Int)>IntKind.i64.max):=by
       have Z:s.data.toList.length=s.size:=by simp
       have e2:z.data.toList.length=z.size:=by simp
       have K:IntKind.i64.max=9223372036854775807:=by decide
       rw[K];omega
      exact⟨.string (s++z),by simp only[binOp];simp only[Op.stringOp,if_neg o];rfl,.str _ (by simp)⟩
     ·cases h
    all_goals first
     |cases h;done
     |(simp only[Ap]at h
       subst h;exact⟨_,by simp only[binOp];simp[Op.stringOp,toList_data,bne],.bool _⟩)
 ·rename_i B bs;cases ra with
  | @agg B f V M Y=>
   cases A_ with
   | @agg bs g W N vb=>
    split at h
    ·rename_i ks d;unfold AE8 at d;split at d
     ·cases d
     ·rename_i G;split at d
      ·rename_i J E;split at d
       ·rename_i r;simp only[Ap]at d;subst d;split at h
        ·rename_i i;have F:=yT (P:=P) 9988 12 t J E;have Q:=Gn i.1;have R:=Gn i.2;have l:(Op.equalIn 10000 t (.agg f) (.agg g)).run P w= .ok (wU B bs) w:=
          F w X (.agg f) (.agg g) B bs ⟨true,_,f.toList,r,by omega,⟨by simpa using V,λj v c H D_=>Y j v c H (by simpa using D_)⟩,by simp⟩
           ⟨true,_,g.toList,r,by omega,⟨by simpa using W,λj v c H D_=>vb j v c H (by simpa using D_)⟩,by simp⟩ i.1 i.2
         have m:(eqGuard e t x y (.agg f) (.agg g)).run P w= .ok () w:=run_eqGuard_agg w e t x y f g (by simpa using G);simp only[Sem.run_bind,m,Result.andThen_ok];split at h
         ·simp only[Ap]at h;subst h;exact⟨_,by rw[run_eql_struct,l];rfl,.bool _⟩
         ·simp only[Ap]at h;subst h;exact⟨_,by rw[run_neq_struct,l];rfl,.bool _⟩
         ·cases h
        ·cases h
       ·cases d
      ·cases d
    ·cases h
 ·cases h
def unV(op:UnOp)(v:AZ):Ω AZ:=
 match op,v with
 |.neg,.int k n=>D (.int k (k.wrap (0-n)))
 |.xor,.int k n=>D (.int k (k.wrap (κ k.bits (if k.signed then-1 else k.max)^^^κ k.bits n).toNat))
 |.not,.bool b=>D (.bool !b)
 |_,_=>A
def AJr{b}(w:World)(r:Bv i d c)(h:unV b d=D x):∃a,(Op.unary b c).run P w=.ok a w/\Bv i x a:=by unfold unV at h;split at h;cases r;simp at h;subst h;exact⟨_,by simp[Op.unary,Op.intArith],.int _ _⟩;cases r;simp at h;subst h;exact⟨_,by simp only[Op.unary];rfl,.int _ _⟩;cases r;simp at h;subst h;exact⟨_,by simp[Op.unary],.bool _⟩;cases h
def rowsOf(H:As):AZ->Ω (Ψ AZ)
 |.vs sz rows=>if sz=1 then D (rows.flatMap AZ.cells)else A
 |.sl id g sz off len=>
  match H[id]? with
  |some (.live g' cs)=>if g=g'/\sz=1/\off+len<=θ cs then D ((cs.drop off).take len)else A
  |_=>A
 |.nils=>D []
 |_=>A
def u8s:Ψ AZ->Ω (Ψ UInt8)
 |[]=>D []
 |.int .u8 n::r=>(u8s r).map (UInt8.ofNat n.toNat:: ·)
 |_=>A
def YL(P:u)(H:As)(src dst:TypeId)(v:AZ):Ω AZ:=
 match kd P dst,v with
 |.int k,.int _ n=>if(P.underlying src).isSome then D (.int k (k.wrap n))else A
 |.str,.str s=>if(P.underlying src).isSome then D (.str s)else A
 |.str,v=>
  if kd P src=.bytes then
   match rowsOf H v with
   |some cs=>(u8s cs).map AZ.str
   |none=>A
  else A
 |_,_=>A
theorem sL{sz:z}:∀{rows:Ψ AZ},(∀(j:z)(e:AZ),rows[j]?=D e->θ e.cells=sz)->(rows.flatMap AZ.cells).length=θ rows*sz
 |[],_=>k!
 |e::r,h=>by have b:=h 0 e rfl;have d:=sL (rows:=r) λj a c=>h (j+1) a q!;grind
theorem flat_get{sz:z}(c:0<sz):∀{rows:Ψ AZ},(∀(j:z)(e:AZ),rows[j]?=D e→θ e.cells=sz)→ ∀(i:z)(v:AZ),(rows.flatMap AZ.cells)[i]?=D v→
  ∃e,rows[i/sz]?=D e/\e.cells[i%sz]?=D v
 |e::r,h,i,v,hi=>by
  have d:=h 0 e rfl;simp at hi;rcases Aw i sz with f|a;grind[Nat.div_eq_of_lt,Nat.mod_eq_of_lt];rw[Cm o!,d]at hi;obtain⟨b,l,m⟩:=flat_get c (rows:=r) (λj b n=>h (j+1) b q!) (i-sz) v hi;have g:i/sz=(i-sz)/sz+1:=by rw[<-Nat.add_div_right _ c,Nat.sub_add_cancel a]
  have k:i%sz=(i-sz)%sz:=by rw[<-Nat.add_mod_right (i-sz),Nat.sub_add_cancel a]
  grind
def ACI{P:Program}(s:Ig e h H w)(r:Bv (cx e h H w) d c)(hr:rowsOf H d=D f):
  ∃a n cap V,c=.slice a n cap/\n=θ f/\oL (cx e h H w) f V/\((a=A/\n=0)\/∃C,a=D C/\(loadCells C n).run P w=.ok V.toArray w):=by
 cases r with
 |nils=>simp only[rowsOf,Ap]at hr;subst hr;exact⟨A,0,0,[],rfl,rfl,⟨rfl,λ_ _ _ h=>by cases h⟩,.inl ⟨rfl,rfl⟩⟩
 | @vs sz b a cap v D_ ap m Z hv=>
  simp only[rowsOf]at hr;split at hr;rename_i R;subst R;simp only[Ap]at hr;subst hr;have l:=sL m;rw[Nat.mul_one]at l;cases b with
  |nil=>
   cases a with
   |none=>exact⟨A,0,cap,[],rfl,rfl,⟨rfl,λ_ _ _ h=>by cases h⟩,.inl ⟨rfl,rfl⟩⟩
   |some C=>exact⟨D C,0,cap,[],rfl,rfl,⟨rfl,λ_ _ _ h=>by cases h⟩,.inr ⟨C,rfl,by simp[loadCells,loadCellsFrom]⟩⟩
  |cons Y I=>
   obtain⟨B,i,rfl,hO,hB,L⟩:=Z k!;generalize Y::I=b at*;refine⟨_,θ b,cap,(List.range (θ b)).map λj=>v j 0,rfl,l.symm,⟨by simp[l],λj d X A_ o=>?_⟩,.inr ⟨_,rfl,?_⟩⟩;obtain⟨K,p,E⟩:=flat_get o! m j d A_;rw[Nat.div_one]at p;rw[Nat.mod_one]at E;have t:j<θ b:=by rcases Aw j (θ b)with y|y;exact y;rw[Cn y]at p;cases p
   rw[B9,R8 t]at o;simp only[Br,Ap]at o;subst o;exact hv j K 0 d p E;have:=run_loadCells (P:=P) w ⟨B,i,A⟩ (θ b) (v · 0) λj A_=>by have J:b[j]?=D (b[j]):=Ar A_;have hl:=m j _ J;have M:(b[j]).cells[0]?=D ((b[j]).cells[0]' o!):=Ar o!;rw[Pd];have:=(L j _ 0 _ J M).1;simpa[cx]using this
   exact this
  cases hr
 | @sl id g sz i len c al hg R L=>
  simp only[rowsOf]at hr;split at hr;rename_i g' x J;split at hr;rename_i z;obtain⟨rfl,rfl,ao⟩:=z;simp only[Ap]at hr;subst hr;obtain⟨G,F⟩:=s.live id g x J;rcases L G with⟨q,rfl,rfl,rfl⟩|⟨B,cap,q,D_,N,rfl⟩;exact⟨A,0,0,[],rfl,k!,⟨k!,λ_ _ _ _ h=>by cases h⟩,.inl ⟨rfl,rfl⟩⟩;rcases F with⟨hn,_⟩|⟨Q,W,T,fz,v,u,hb,S,U,ag,k⟩;rw[hn]at q;cases q;have:Q=B:=by rw[q]at u;injection u with K;exact K.symm
  subst this;refine⟨_,len,cap,(List.range len).map λj=>v (i+j),rfl,w!,⟨w!,λj d X A_ o=>?_⟩,.inr ⟨_,rfl,?_⟩⟩;have t:j<len:=by rcases Aw j len with y|y;exact y;rw[Cn (by simpa using y)]at o;cases o
  rw[dV,C! t,IW]at A_;rw[B9,R8 t]at o;simp only[Br,Ap]at o;subst o;exact(k _ d A_).2.2;exact run_loadCells (P:=P) w ⟨Q,i,A⟩ len (λj=>v (i+j)) λj A_=>by have O:x[i+j]?=D (x[i+j]' o!):=Ar o!;rw[Pd,Qh (w:=w) hb];exact(k _ _ O).1
  cases hr;cases hr
 |_=>simp only[rowsOf]at hr;cases hr
theorem AA3{x}:∀{d}{b}{bs:Ψ UInt8},oL x d b->u8s d=D bs->∃e:Ψ Int,b=e.map (Value.int .u8)/\bs=e.map λn=>UInt8.ofNat n.toNat
 |[],b,bs,hr,hb=>by simp only[u8s]at hb;rw[EX hr.1];simp_all
 |v::d,b,bs,hr,hb=>by
  match b,hr with
  |u::b,hr=>
   have h:=hr.2 0 v u rfl rfl;have l:oL x d b:=⟨by have:=hr.1;simpa using this,λj a c p o=>hr.2 (j+1) a c q! q!⟩
   unfold u8s at hb;split at hb<;>rename_i f<;>(try cases f)<;>try (cases hb;done)
   cases k:u8s d with
   |none=>grind
   |some g=>obtain⟨e,i,m⟩:=AA3 l k;cases h;exact⟨_::e,by rw[i];rfl,q!⟩
def ABb(a:Ψ Int):∀s:ByteArray,(a.foldl (λr n=>r.push (UInt8.ofNat n.toNat)) s).data.toList=s.data.toList++a.map λn=>UInt8.ofNat n.toNat:=by induction a<;>simp_all
theorem AFZ{P}(h:kd P b=.bytes):∃e,P.underlying b=D (.slice e)/\P.underlying e=D (.int .u8):=by unfold kd at h;grind
theorem AFF(s:Ig e h H w)(r:Bv (cx e h H w) d c)(o:YL P H b W d=D x):
  ∃y,(convert b W c).run P w=.ok y w/\Bv (cx e h H w) x y:=by
 unfold YL at o;split at o;rename_i k I n j;split at o;rename_i i;obtain⟨C,i⟩:=gb.1 i;simp only[Ap]at o;subst o;cases r;exact⟨_,by simp[convert,run_underlying i,run_underlying (AJN j),Conv.intToInt],.int _ _⟩;cases o;rename_i J j;split at o;rename_i i;obtain⟨C,i⟩:=gb.1 i;simp only[Ap]at o;subst o;cases r with
 |str t F=>exact⟨_,by simp[convert,run_underlying i,run_underlying (vP j)],.str _ F⟩
 cases o;rename_i L j _;split at o;rename_i D_;split at o;rename_i B p;cases q:u8s B with
 |none=>rw[q]at o;cases o
 |some bs=>
  rw[q]at o;simp only[Br,Ap]at o;subst o;obtain⟨l,m,z⟩:=AFZ D_;obtain⟨a,n,cap,K,rfl,hn,X,f⟩:=ACI (P:=P) s r p;obtain⟨v,rfl,rfl⟩:=AA3 X q;rcases f with⟨rfl,E⟩|⟨A_,rfl,g⟩;have:v=[]:=by have G:=X.1;grind[List.length_map,List.eq_nil_of_length_eq_zero]
  subst this;exact⟨.string .empty,by simp[convert,run_underlying m,run_underlying (vP j),run_underlying z,Conv.bytesToString],.str _ rfl⟩;refine⟨_,?_,.str _ (ABb v ByteArray.empty)⟩;simp only[convert,Sem.run_bind,run_underlying m,run_underlying (vP j),run_underlying z,Result.andThen_ok];exact run_bytesToString w A_ n cap v (by simpa using g)
 cases o;cases o;cases o
def rn(P:u)(H:As)(t:TypeId)(v:AZ):Ω AZ:=
 match P.underlying t,v with
 |some .string,.str s=>D (.int .i64 (θ s))
 |some (.array n _),_=>D (.int .i64 n)
 |some (.slice _),.vs _ rows=>D (.int .i64 (θ rows))
 |some (.slice _),.sl _ _ _ _ len=>D (.int .i64 len)
 |some (.slice _),.nils=>D (.int .i64 0)
 |_,_=>A
def AHY{P}{w}{t ty:TypeId}(s:Ig e h H w)(r:Bv (cx e h H w) d c)(b:rn P H t d=D x):
  ∃f,(Builtin.len_ #[t] ty #[c]).run P w=.ok f w/\Bv (cx e h H w) x f:=by
 unfold rn at b;split at b;rename_i p X;simp only[Ap]at b;subst b;cases r with
 |str j m=>
  refine⟨.int .i64 j.size,by simp[Builtin.len_,run_underlying X,goInt],?_⟩;have:θ p=j.size:=by rw[<-m];simp
  rw[this];exact .int _ _
 rename_i n v X;simp only[Ap]at b;subst b;exact⟨.int .i64 n,by simp[Builtin.len_,run_underlying X,goInt],.int _ _⟩;rename_i sz i X;simp only[Ap]at b;subst b;cases r;exact⟨_,by simp[Builtin.len_,run_underlying X,goInt],.int _ _⟩;rename_i id g sz o len X;simp only[Ap]at b;subst b;cases r with
 |sl l u k q=>obtain⟨a,cap,rfl⟩:=k;exact⟨_,by simp[Builtin.len_,run_underlying X,goInt],.int _ _⟩
 rename_i X;simp only[Ap]at b;subst b;cases r;exact⟨_,by simp[Builtin.len_,run_underlying X,goInt],.int _ _⟩;cases b
def mmV(mx:Bool):Ψ AZ->Ω AZ
 |[.int k a,.int _ b]=>D (.int k (if mx then(if b>a then b else a)else(if b<a then b else a)))
 |_=>A
def AFk{P:u}{w:World}{mx}{ts:Array TypeId}{ty:TypeId}(g:Bv i d I)(h:Bv i x c)(a:mmV mx [d,x]=D T):
  ∃f,((if mx then Builtin.max_ ts ty #[I,c]else Builtin.min_ ts ty #[I,c]):Sem Value).run P w=.ok f w/\Bv i T f:=by
 cases d<;>try (simp[mmV]at a;done)
 cases x<;>try (simp[mmV]at a;done)
 cases g;cases h;simp only[mmV,Ap]at a;subst a;cases mx;exact⟨_,by simp[Builtin.min_,Builtin.min2],.int _ _⟩;exact⟨_,by simp[Builtin.max_,Builtin.max2],.int _ _⟩
def mm3:AZ->AZ->AZ->Ω AZ
 |.int k a,.int _ b,.int _ c=>D (.int k (if c<(if b<a then b else a)then c else(if b<a then b else a)))
 |_,_,_=>A
def AHd{P:Program}{w:World}{ts:Array TypeId}{ty:TypeId}{u:AZ}{e}(f:Bv i d c)(j:Bv i x I)(k:Bv i T e)(a:mm3 d x T=D u):
  ∃b,(Builtin.min_ ts ty #[c,I,e]).run P w=.ok b w/\Bv i u b:=by
 unfold mm3 at a;split at a;cases f;cases j;cases k;simp at a;subst a;exact⟨_,by simp[Builtin.min_,Builtin.min2],.int _ _⟩;cases a
def ve:AZ->Ω z
 |.int _ i=>if 0<=i then D i.toNat else A
 |_=>A
def Xx(d:z):Ω AZ->Ω z
 |none=>D d
 |some v=>ve v
def jp(P:u)(H:As)(t:TypeId)(v:AZ)(lo hi mx:Ω AZ):Ω AZ:=
 match v with
 |.str s=>
  match Xx 0 lo,Xx (θ s) hi,mx with
  |some l,D h,A=>if kd P t=.str/\l<=h/\h<=θ s then D (.str ((s.drop l).take (h-l)))else A
  |_,_,_=>A
 |.vs sz rows=>
  match Xx 0 lo,Xx (θ rows) hi,Xx (θ rows) mx,eI P t with
  |some l,D h,D m,D (A,_,sz')=>if sz=sz'/\l<=h/\h<=m/\m<=θ rows/\(mx.isSome=ζ->hi.isSome=ζ)then D (.vs sz ((rows.drop l).take (h-l)))else A
  |_,_,_,_=>A
 |.sl id g sz off len=>
  match Xx 0 lo,Xx len hi,Xx len mx,eI P t with
  |some l,D h,D m,D (A,_,sz')=>
   if sz=sz'/\0<sz/\l<=h/\h<=m/\m<=len/\UR H id g=ζ/\(mx.isSome=ζ->hi.isSome=ζ)then
    if l=0 then D (.sl id g sz off h)else if l=h then D (.vs sz [])else D (.sl id g sz (off+l*sz) (h-l))
   else A
  |_,_,_,_=>A
 |.nils=>
  match Xx 0 lo,Xx 0 hi,Xx 0 mx,eI P t with
  |some 0,D 0,D 0,D (A,_,_)=>if mx.isSome=ζ->hi.isSome=ζ then D .nils else A
  |_,_,_,_=>A
 |_=>A
theorem AD1(r:Bv i d c)(h:ve d=D N):∃k x,c=.int k x/\0<=x/\x.toNat=N:=by
 cases d<;>try (simp[ve]at h;done)
 cases r;grind[ve]
def run_sliceBound{P:u}{w:World}{code}(r:Bv i d c)(h:ve d=D N)(b:N<=t):(Instr.sliceBound c t code).run P w=.ok N w:=by
 obtain⟨k,x,rfl,a,rfl⟩:=AD1 r h;have:x<=t:=o!
 simp[Instr.sliceBound,asIntOf,a,this]
def Zx{P:Program}{w:World}{isSlice:Bool}{len cap l h m:Nat}{k j mx:Ω AZ}{e b cmx:Ω Value}(x:∀v,k=D v→ ∃c,e=D c∧Bv i v c)(g:k=A→e=A)
  (o:∀v,j=D v->∃c,b=D c/\Bv i v c) (t:j=A->b=A) (z:∀v,mx=D v->∃c,cmx=D c/\Bv i v c) (u:mx=A->cmx=A)
  (a:Xx 0 k=D l) (q:Xx len j=D h) (D_:Xx len mx=D m) (s:l<=h) (E:h<=m) (J:m<=len) (K:len<=cap) (F:mx.isSome=ζ->j.isSome=ζ):
  (Instr.sliceBounds isSlice len cap e b cmx).run P w=.ok (l,h,if mx.isSome then m else cap) w:=by
 unfold Instr.sliceBounds;cases mx with
 |none=>
  obtain rfl:=u rfl;cases j with
  |none=>
   obtain rfl:=t rfl;simp only[Xx,Ap]at q;subst q;cases k with
   |none=>obtain rfl:=g rfl;simp only[Xx,Ap]at a;simp[a]
   |some v=>obtain⟨d,rfl,r⟩:=x v rfl;have n:=λc=>run_sliceBound (P:=P) (w:=w) (code:=c) r a s;simp[n]
  |some A_=>
   obtain⟨B,rfl,y⟩:=o A_ rfl;have p:=λc=>run_sliceBound (P:=P) (w:=w) (code:=c) y q (show h<=cap by omega);cases k with
   |none=>obtain rfl:=g rfl;simp only[Xx,Ap]at a;simp[a,p]
   |some v=>obtain⟨d,rfl,r⟩:=x v rfl;have n:=λc=>run_sliceBound (P:=P) (w:=w) (code:=c) r a s;simp[p,n]
 |some H=>
  obtain⟨I,rfl,G⟩:=z H rfl;have f:=F rfl;cases j with
  |none=>simp at f
  |some A_=>
   obtain⟨B,rfl,y⟩:=o A_ rfl;have C:=λc=>run_sliceBound (P:=P) (w:=w) (code:=c) G D_ (show m<=cap by omega);have p:=λc=>run_sliceBound (P:=P) (w:=w) (code:=c) y q E;simp only[Sem.run_bind,C,p,Result.andThen_ok,Option.isSome_some,if_true];cases k with
   |none=>obtain rfl:=g rfl;simp only[Xx,Ap]at a;simp[a]
   |some v=>obtain⟨d,rfl,r⟩:=x v rfl;have n:=λc=>run_sliceBound (P:=P) (w:=w) (code:=c) r a s;simp[n]
theorem Rf{P}(a:eI P b=D (A,W,N)):P.underlying b=D (.slice W)/\∃t,tI P W=D (t,N):=by unfold eI at a;split at a;simp_all;rename_i c d;cases f:tI P c<;>grind;cases a
theorem AEL{lo V q:Ω AZ}{N L A_:Ω Value}(s:Ig e h H w)(r:Bv (cx e h H w) d c)
  (K:∀d,lo=D d->∃c,N=D c/\Bv (cx e h H w) d c) (G:lo=A->N=A)
  (J:∀d,V=D d->∃c,L=D c/\Bv (cx e h H w) d c) (F:V=A->L=A) (R:∀d,q=D d->∃c,A_=D c/\Bv (cx e h H w) d c) (I:q=A->A_=A)
  (X:jp P H b d lo V q=D x):∃c',(Instr.sliceAt b c N L A_).run P w=.ok c' w/\Bv (cx e h H w) x c':=by
 unfold jp at X;split at X;rename_i s';split at X;rename_i l p S O;split at X;rename_i o;obtain⟨hk,h1,U⟩:=o;simp only[Ap]at X;subst X;obtain rfl:=I rfl;cases r with
 |str t' ht=>
  have u:θ s'=t'.size:=by rw[<-ht];simp
  rw[u]at O U;have o:=Zx (P:=P) (w:=w) (isSlice:=η) (len:=t'.size) (cap:=t'.size) (mx:=A) (cmx:=A) K G J F (λ_ h=>by cases h) (λ_=>rfl) S O rfl h1 U (Am _) (Am _) (λh=>by cases h);refine⟨.string (t'.extract l p),?_,.str _ ?_⟩;simp only[Instr.sliceAt,Instr.slice,Sem.run_bind,run_underlying (vP hk),Result.andThen_ok,Option.isSome_none,Qf,if_false,o,Sem.run_pure];simp_all[wm]
 cases X;cases X;rename_i sz k;split at X;rename_i l p m v a0 S O Z he;split at X;rename_i o;obtain⟨rfl,h1,U,h3,h4⟩:=o;simp only[Ap]at X;subst X;obtain⟨z,t,y⟩:=Rf he;cases r with
 | @vs sz k a cap f C Y al ha X=>
  have o:=Zx (P:=P) (w:=w) (isSlice:=ζ) (len:=θ k) (cap:=cap) K G J F R I S O Z h1 U h3 C h4;have E:∀{j:Nat}{v:AZ},((k.drop l).take (p-l))[j]?=D v->k[l+j]?=D v:=q!
  have u:((k.drop l).take (p-l)).length=p-l:=w!
  refine⟨.slice (if(if q.isSome then m else cap)=l then a else a.map (·.add (l*sz))) (p-l) ((if q.isSome then m else cap)-l),?_,?_⟩;simp only[Instr.sliceAt,Instr.slice,Sem.run_bind,run_underlying z,Result.andThen_ok,o,L5 y,Sem.run_pure];have hM:p<=(if q.isSome then m else cap):=by split<;>omega
  generalize (if q.isSome then m else cap)=M at hM;have T:Bv (cx e h H w) (.vs sz ((k.drop l).take (p-l))) (.slice (if M=l then a else a.map (·.add (l*sz))) ((k.drop l).take (p-l)).length (M-l)):=?_;rw[u]at T;exact T;refine .vs (λj i=>f (l+j) i) (by rw[u];omega) Y (λj v hj=>al _ v (E hj)) (λa3=>?_) λj v i d hj V=>X _ v i d (E hj) V;have a2:l<p:=by rcases Aw l p with h5|h5;exact h5;simp_all[EX]
  obtain⟨B,n,rfl,hO,hB,hc⟩:=ha (by intro v;rw[v]at h3;simp at h3;omega);refine⟨B,n+l*sz,?_,hO,hB,λj v i d hj V=>?_⟩;grind[Pd];have:=hc _ v i d (E hj) V;rw[ED]at this;rw[show n+l*sz+(j*sz+i)=n+(l*sz+j*sz+i)from by omega];exact this
 cases X;cases X;rename_i id g sz n len;split at X;rename_i l p m v a0 S O Z he;split at X;rename_i o;obtain⟨rfl,Y,h1,U,h3,ad,h4⟩:=o;obtain⟨z,t,y⟩:=Rf he;cases r with
 | @sl id g sz n len c W hg a1 hc=>
  rcases hc (s.cur ad)with⟨Q,rfl,rfl,rfl⟩|⟨B,cap,Q,C,D_,rfl⟩;have o:=Zx (P:=P) (w:=w) (isSlice:=ζ) (len:=0) (cap:=0) K G J F R I S O Z h1 U h3 (Am _) h4;have ar:l=0:=o!
  have ap:p=0:=o!
  have ax:m=0:=o!
  subst ar ap ax;simp only[if_true,Ap]at X;subst X;refine⟨.slice A 0 0,?_,.sl W hg ⟨_,_,rfl⟩ λ_=>.inl ⟨Q,rfl,rfl,rfl⟩⟩;simp only[Instr.sliceAt,Instr.slice,Sem.run_bind,run_underlying z,Result.andThen_ok,o,L5 y,Sem.run_pure];cases q<;>simp;have o:=Zx (P:=P) (w:=w) (isSlice:=ζ) (len:=len) (cap:=cap) K G J F R I S O Z h1 U h3 C h4
  have ao:(Instr.sliceAt b (.slice (D ⟨B,n,A⟩) len cap) N L A_).run P w=
    .ok (.slice (if(if q.isSome then m else cap)=l then D ⟨B,n,A⟩else(D ⟨B,n,A⟩:Ω Addr).map (·.add (l*sz))) (p-l) ((if q.isSome then m else cap)-l)) w:=by
   simp only[Instr.sliceAt,Instr.slice,Sem.run_bind,run_underlying z,Result.andThen_ok,o,L5 y,Sem.run_pure]
  refine⟨_,ao,?_⟩;have hM:p<=(if q.isSome then m else cap)/\(if q.isSome then m else cap)<=cap:=by split<;>omega
  generalize (if q.isSome then m else cap)=M at hM;split at X;rename_i hl;subst hl;simp only[Ap]at X;subst X;refine .sl W hg ⟨_,_,rfl⟩ λ_=>.inr ⟨B,M,Q,hM.1,?_,?_⟩;exact Cs (Nat.add_le_add_left (Nh _ hM.2) _) D_;simp[Pd];rename_i hl;split at X;rename_i ag;subst ag;simp only[Ap]at X;subst X;rw[Gw];exact Bv.vs (rows:=[]) (λ_ _=>undef) (Bh _) Y (λ_ _ h=>by simp at h) (λh=>(h rfl).elim) λ_ _ _ _ h=>by simp at h
  rename_i ag;simp only[Ap]at X;subst X;refine .sl W hg ⟨_,_,rfl⟩ λ_=>.inr ⟨B,M-l,Q,o!,?_,?_⟩;rw[gZ,<-ED];have:l+(M-l)=M:=o!
  rw[this];exact Cs (Nat.add_le_add_left (Nh _ hM.2) _) D_;rw[D! o!];simp[Pd]
 cases X;cases X;split at X;rename_i v sz S O Z he;split at X;rename_i h4;simp only[Ap]at X;subst X;obtain⟨z,t,y⟩:=Rf he;cases r;have o:=Zx (P:=P) (w:=w) (isSlice:=ζ) (len:=0) (cap:=0) K G J F R I S O Z (Am _) (Am _) (Am _) (Am _) h4;refine⟨.slice A 0 0,?_,.nils⟩;simp only[Instr.sliceAt,Instr.slice,Sem.run_bind,run_underlying z,Result.andThen_ok,o,L5 y,Sem.run_pure];cases q<;>simp;cases X;cases X;cases X
def AZ.solid:AZ->Bool
 |.any=>η
 |.tup _=>η
 |_=>ζ
def cells_one(h:c.oneCell'=ζ):c.cells= #[c]:=by cases c<;>first|rfl|(simp[Value.oneCell']at h;done)
theorem Xo(r:Bv i d c)(h:d.solid=ζ):Bv i (.agg d.cells) (.agg c.cells):=by
 have one:∀{u}{v},Bv i u v->v.oneCell'=ζ->v.cells= #[v]->u.cells=[u]->Bv i (.agg u.cells) (.agg v.cells):=by intro u v A_ g q z;rw[q,z];refine .agg rfl (λj c s=>?_) λj d c s l=>?_;grind;grind
 cases r with
 |agg o g p=>exact .agg o g p
 |any c=>simp[AZ.solid]at h
 |tup o p=>simp[AZ.solid]at h
 |ptr x m g l=>exact one (.ptr x m g l) g (cells_one g) rfl
 |sl x m g l=>obtain⟨a,cap,rfl⟩:=g;exact one (.sl x m ⟨a,cap,rfl⟩ l) rfl (cells_one rfl) rfl
 |bool b=>exact one (.bool b) rfl rfl rfl
 |int k n=>exact one (.int k n) rfl rfl rfl
 |str t y=>exact one (.str t y) rfl rfl rfl
 |nilp=>exact one .nilp rfl rfl rfl
 |vptr f a b c v=>exact one (.vptr f a b c v) rfl rfl rfl
 |nils=>exact one .nils rfl rfl rfl
 |vs f a b c v e=>exact one (.vs f a b c v e) rfl rfl rfl
 |fn a b c v=>exact one (.fn a b c v) rfl rfl rfl
 |yf x g l=>exact one (.yf x g l) g (cells_one g) rfl
 |mp x g l=>exact one (.mp x g l) g (cells_one g) rfl
 |itp x w g l=>exact one (.itp x w g l) g (cells_one g) rfl
 |nilf=>exact one .nilf rfl rfl rfl
def Xn(cs:Ψ AZ)(off:z)(vs:Ψ AZ):Ψ AZ:=cs.take off++vs++cs.drop (off+θ vs)
theorem ma(h:N+θ v<=θ f):(Xn f N v).length=θ f:=by grind[Xn]
theorem vz(h:N+θ v<=θ f)(j:z):(Xn f N v)[j]?=if N<=j/\j<N+θ v then v[j-N]? else f[j]? :=by grind[Xn,List.getElem?_append_left]
inductive bK where
 |arr (sz:Nat)
 |str (l:List (Nat×Nat))
def bK.at_:bK->z->Ω (z×z)
 |.arr sz,i=>D (i*sz,sz)
 |.str l,i=>l[i]?
def Z0(P:u)(t:TypeId):Ω (Ψ AZ):=
 match (P.info? t).bind (·.zero)with
 |some z=>if z.cells.toList.all (·.oneCell')then D (z.cells.toList.map se)else A
 |none=>A
def placesOf(P:u)(t:TypeId):Ω bK:=
 match P.underlying t with
 |some (.struct fs)=>(fs.toList.mapM λf=>(P.info? f.type).map λi=>(f.offset,i.size)).map bK.str
 |some (.array _ e)=>(P.info? e).map λi=>bK.arr i.size
 |_=>A
def si(p:bK):Ψ AZ->Ψ (z×AZ)->Ω (Ψ AZ)
 |cs,[]=>D cs
 |cs,(i,v)::r=>
  match p.at_ i with
  |some (off,size)=>if v.solid=ζ/\θ v.cells=size/\off+size<=θ cs then si p (Xn cs off v.cells) r else A
  |none=>A
def uV(P:u)(t:TypeId)(parts:Ψ (Nat×AZ)):Ω AZ:=
 match Z0 P t,placesOf P t with
 |some z,D p=>(si p z parts).map AZ.agg
 |_,_=>A
theorem gQ(x:Cx)(h:Z0 P b=D f):∃i v,P.info? b=D i/\i.zero=D v/\Bv x (.agg f) (.agg v.cells):=by
 unfold Z0 at h;cases d:P.info? b with
 |none=>grind
 |some i=>
  cases z:i.zero with
  |none=>grind
  |some v=>rw[d]at h;simp only[AD,z]at h;split at h;rename_i a;simp at h;subst h;refine⟨i,v,rfl,z,.agg k! (λj c e=>?_) λj u c e t=>?_⟩;grind;grind[rL];cases h
theorem foldl_set(a:z):∀(l:Ψ Value)(k:z)(b:Array Value),a+k+θ l≤b.size→
  ((l.zipIdx k).foldl (λb (p:Value×z)=>b.setIfInBounds (a+p.2) p.1) b).size=b.size/\∀j,((l.zipIdx k).foldl (λb (p:Value×z)=>b.setIfInBounds (a+p.2) p.1) b)[j]?=if a+k<=j/\j<a+k+θ l then l[j-(a+k)]? else b[j]?
 |[],k,b,_=>by simp;intro j c d;omega
 |v::l,k,b,h=>by simp at h⊢;obtain⟨c,d⟩:=foldl_set a l (k+1) (b.setIfInBounds (a+k) v) w!;grind
theorem AGP{d:Array Value}{off:z}(r:Bv i (.agg f) (.agg k))(p:Bv i (.agg v) (.agg d))(h:off+θ v≤θ f)(a:Array Value)
  (g:a.size=k.size) (x:∀j,a[j]?=if off<=j/\j<off+d.size then d[j-off]? else k[j]?):Bv i (.agg (Xn f off v)) (.agg a):=by
 cases r with
 |agg m q t=>
  cases p with
  |agg n b o=>refine .agg (by rw[g,m,ma h]) (λj c l=>?_) λj e c l s=>?_;grind;grind[vz]
theorem xH{x}(p:bK):∀(b:Ψ (Nat×AZ))(a:Ψ (Nat×Value))f d(n:Ψ AZ),a.map (·.1)=b.map (·.1)→
  (∀(j:Nat)(q:Nat×AZ)(o:Nat×Value),b[j]?=D q->a[j]?=D o->Bv x q.2 o.2)->Bv x (.agg f) (.agg d)->si p f b=D n->
  ∃l,Instr.fill p.at_ d a=D l/\Bv x (.agg n) (.agg l)
 |[],a,f,d,n,m,_,r,h=>by
  have:a=[]:=t!
  subst this;simp only[si,Ap]at h;subst h;exact⟨d,rfl,r⟩
 |(i,v)::b,(i',c)::a,f,d,n,m,hr,r,h=>by
  simp at m;obtain⟨rfl,m⟩:=m;simp only[si]at h;split at h;rename_i e size E;split at h;rename_i u;obtain⟨g,rfl,s⟩:=u;have t:=Xo (hr 0 (i',v) (i',c) rfl rfl) g;have z:c.cells.size=θ v.cells:=by cases t with|agg h _ _=>exact h
  have w:d.size=θ f:=by cases r with|agg h _ _=>exact h
  have k:=foldl_set e c.cells.toList 0 d q!;have B:c.cells.zipIdx.foldl (λf (p:Value×Nat)=>f.setIfInBounds (e+p.2) p.1) d=(c.cells.toList.zipIdx 0).foldl (λf (p:Value×Nat)=>f.setIfInBounds (e+p.2) p.1) d:=by rw[<-Array.foldl_toList,Array.toList_zipIdx]
  have A_:=AGP (off:=e) r t s ((c.cells.toList.zipIdx 0).foldl (λf (p:Value×Nat)=>f.setIfInBounds (e+p.2) p.1) d) k.1 (λj=>q!);obtain⟨l,C,D_⟩:=xH p b a _ _ n m (λj q o F y=>hr (j+1) q o q! q!) A_ h;grind[Instr.fill];cases h;cases h
theorem ADc{t:Ψ (Nat×AZ)}{a:Array (Nat×Value)}(E:a.toList.map (·.1)=t.map (·.1))
  (hr:∀(j:Nat)(q:Nat×AZ)(A_:Nat×Value),t[j]?=D q->a.toList[j]?=D A_->Bv i q.2 A_.2) (h:uV P b t=D d):∃c,(Instr.build b a).run P w=.ok c w/\Bv i d c:=by
 unfold uV at h;split at h;rename_i z p F x;cases y:si p z t with
 |none=>grind
 |some H=>
  rw[y]at h;simp at h;subst h;obtain⟨u,v,D_,k,G⟩:=gQ i F;obtain⟨m,s,C⟩:=xH p t a.toList z v.cells H E hr G y;refine⟨.agg m,run_build w b a m ?_,C⟩;unfold Program.built;rw[D_];unfold placesOf at x;split at x;rename_i B r;rw[r];cases o:B.toList.mapM (λf=>(P.info? f.type).map λu=>(f.offset,u.size))with
  |none=>grind
  |some l=>simp only[k,o];rw[<-s];congr 1;grind[bK.at_]
  rename_i n e r;rw[r];cases g:P.info? e with
  |none=>grind
  |some I=>rw[g]at x;simp at x;subst x;simp only[k,g];exact s
  cases x
 cases h
def Cd(P:u)(env:Env)(H:As):Op->Ω AZ
 |.move x|.assign x=>D (BN env x)
 |.pick c a b=>
  match BN env c with
  |.bool t=>D (if t then BN env a else BN env b)
  |_=>A
 |.load t a=>kB P t H (BN env a)
 |.nilCheck x=>
  match BN env x with
  |.ptr id g off=>if UR H id g then D (.ptr id g off)else A
  |.vptr cs=>D (.vptr cs)
  |.fn (.func f) a b=>D (.fn (.func f) a b)
  |_=>A
 |.binOp op t x y _=>zn P op t (BN env x) (BN env y)
 |.unOp op _ x=>unV op (BN env x)
 |.convert s d x=>YL P H s d (BN env x)
 |.fieldAddr s x f=>XA P H s f (BN env x)
 |.field s x f=>uw P s f (BN env x)
 |.indexAddr t x i=>XF P H t (BN env x) (BN env i)
 |.index t x i=>mQ P t (BN env x) (BN env i)
 |.slice t x lo hi mx=>jp P H t (BN env x) (lo.map (BN env)) (hi.map (BN env)) (mx.map (BN env))
 |.extract x i=>
  match BN env x with
  |.tup vs=>vs[i]?
  |_=>A
 |.makeFunc f a b=>D (.fn f (a.toList.map (BN env)) (b.toList.map (BN env)))
 |.build t parts=>uV P t (parts.toList.map λp=>(p.1,BN env p.2))
 |.call {callee:=.builtin .len,args:=⟨[x]⟩,argTypes:=⟨[t]⟩}=>rn P H t (BN env x)
 |.call {callee:=.builtin .max,args:=⟨[x,y]⟩,.. }=>mmV ζ [BN env x,BN env y]
 |.call {callee:=.builtin .min,args:=⟨[x,y]⟩,.. }=>mmV η [BN env x,BN env y]
 |.call {callee:=.builtin .min,args:=⟨[x,y,z]⟩,.. }=>mm3 (BN env x) (BN env y) (BN env z)
 |_=>A
def AEA{P}{N}{X:Nat→Prop}{h}{env}{H}{a}{w}{o:Oper}{v:AZ}(s:St X h N env H a w)(b:Cd P env H o.op=D v):
  ∃c,(execOp a.eval o).run P w=.ok (.value c) w/\Bv (cx X h H w) v c:=by
 have k:=λx=>Di s.env x;have d:∀{m:Sem Value},(∃c,m.run P w=.ok c w/\Bv (cx X h H w) v c)->∃c,(do pure (Next.value (<-m)):Sem Next).run P w=.ok (.value c) w/\Bv (cx X h H w) v c:=by rintro m ⟨c,u,hr⟩;exact⟨c,by simp[u],hr⟩
 unfold execOp;cases e:o.op with
 |move x=>rw[e]at b;simp only[Cd,Ap]at b;subst b;exact⟨_,rfl,k x⟩
 |assign x=>rw[e]at b;simp only[Cd,Ap]at b;subst b;exact⟨_,rfl,k x⟩
 |pick c x y=>rw[e]at b;simp only[Cd]at b;split at b;rename_i t ht;have u:=k c;rw[ht]at u;simp only[Ap]at b;subst b;generalize W:a.eval c=cv at u;cases u;simp only[W,asBool];cases t;exact⟨_,k!,k y⟩;exact⟨_,k!,k x⟩;cases b
 |load t x=>rw[e]at b;simp only[Cd]at b;obtain⟨B,ad,D_,E,hl,hr⟩:=AAY s.sim (k x) b;exact d ⟨D_,by rw[E];simp[Instr.loadAt,Instr.sureAddr,hl],hr⟩
 |nilCheck x=>
  rw[e]at b;simp only[Cd]at b;have z:=k x;split at b;rename_i id g ad E;rw[E]at z;split at b;rename_i M;simp only[Ap]at b;subst b;generalize A_:a.eval x=c at z;cases z with
  |ptr Y S n u=>obtain⟨B,ag,rfl⟩:=u (s.sim.cur M);exact⟨_,by simp only[A_];rfl,.ptr Y S n u⟩
  cases b;rename_i cs E;rw[E]at z;simp only[Ap]at b;subst b;generalize A_:a.eval x=c at z;cases z with
  |vptr f n r U V=>exact⟨_,by simp only[A_];rfl,.vptr f n r U V⟩
  rename_i f p q E;rw[E]at z;simp only[Ap]at b;subst b;generalize A_:a.eval x=c at z;cases z with
  |fn n r U V=>exact⟨_,by simp only[A_];rfl,.fn n r U V⟩
  cases b
 |binOp op t x y yt=>rw[e]at b;simp only[Cd]at b;exact d (AG5 w (k x) (k y) b)
 |unOp op t x=>rw[e]at b;simp only[Cd]at b;exact d (AJr w (k x) b)
 |convert p q x=>rw[e]at b;simp only[Cd]at b;exact d (AFF s.sim (k x) b)
 |fieldAddr p x f=>rw[e]at b;simp only[Cd]at b;exact d (wW s.sim (k x) b)
 |field p x f=>rw[e]at b;simp only[Cd]at b;exact d (ADo (k x) b)
 |indexAddr t x i=>rw[e]at b;simp only[Cd]at b;exact d (wa s.sim (k x) (k i) b)
 |index t x i=>rw[e]at b;simp only[Cd]at b;exact d (ADt (k x) (k i) b)
 |slice t x lo hi T=>
  rw[e]at b;simp only[Cd]at b;have G:∀(y:Ω Operand)(v:AZ),y.map (BN env)=D v->∃c,y.map a.eval=D c/\Bv (cx X h H w) v c:=by
   intro y v Q;cases y with
   |none=>cases Q
   |some y=>simp only[Br,Ap]at Q;subst Q;exact⟨_,rfl,k y⟩
  have C:∀(y:Ω Operand),y.map (BN env)=A->y.map a.eval=A:=by
   intro y Q;cases y with
   |none=>rfl
   |some y=>cases Q
  exact d (AEL s.sim (k x) (G lo) (C lo) (G hi) (C hi) (G T) (C T) b)
 |extract x i=>
  rw[e]at b;simp only[Cd]at b;have z:=k x;split at b;rename_i vs E;rw[E]at z;generalize u:a.eval x=c at z;cases z with
  | @tup vs R hs Z=>
   have al:i<θ vs:=by rcases Aw i (θ vs)with r|r;exact r;rw[Cn r]at b;cases b
   have S:R[i]?=D (R[i]' o!):=Oe o!;refine d ⟨_,?_,Z i v _ b S⟩;simp only[Instr.extract,u,S];rfl
  cases b
 |makeFunc f p q=>
  rw[e]at b;simp only[Cd,Ap]at b;subst b;have L:∀(p:Array Operand)(j:Nat)(v:AZ)(c:Value),(p.toList.map (BN env))[j]?=D v->(p.map a.eval)[j]?=D c->Bv (cx X h H w) v c:=by
   intro p j v c J u;rw[B9,Qe]at J;rw[dX]at u;cases O:p[j]? with
   |none=>rw[O]at J;cases J
   |some y=>rw[O]at J u;simp only[Br,Ap]at J u;subst J u;exact k y
  exact d ⟨_,rfl,.fn k! k! (L p) (L q)⟩
 |build t I=>
  rw[e]at b;simp only[Cd]at b;refine d (ADc ?_ ?_ b);simp;intro j q q' K F;rw[B9,Qe]at K;rw[Qe,dX]at F;cases O:I[j]? with
  |none=>rw[O]at K;cases K
  |some y=>rw[O]at K F;simp only[Br,Ap]at K F;subst K F;exact k y.2
 |call c=>
  rw[e]at b;simp only[Cd]at b;split at b<;>rename_i l<;>first
   |(cases b;done)
   |(cases l;done)
   |skip
  injection l with l;subst l;simp only[resolve,invoke,builtin,Sem.run_bind,Sem.run_pure,Result.andThen_ok,RU,Bz,Hz];obtain⟨D_,n,r⟩:=AHY (ty:=o.type) s.sim (k _) b;exact⟨D_,by rw[n];rfl,r⟩;injection l with l;subst l;simp only[resolve,invoke,builtin,Sem.run_bind,Sem.run_pure,Result.andThen_ok,RU,Bz,Hz];obtain⟨D_,n,r⟩:=AFk (P:=P) (w:=w) (mx:=ζ) (ts:=_) (ty:=o.type) (k _) (k _) b;exact⟨D_,by simp only[if_true]at n;rw[n];rfl,r⟩;injection l with l;subst l;simp only[resolve,invoke,builtin,Sem.run_bind,Sem.run_pure,Result.andThen_ok,RU,Bz,Hz];obtain⟨D_,n,r⟩:=AFk (P:=P) (w:=w) (mx:=η) (ts:=_) (ty:=o.type) (k _) (k _) b;exact⟨D_,by simp only[Qf,if_false]at n;rw[n];rfl,r⟩;injection l with l;subst l;simp only[resolve,invoke,builtin,Sem.run_bind,Sem.run_pure,Result.andThen_ok,RU,Bz,Hz];obtain⟨D_,n,r⟩:=AHd (P:=P) (w:=w) (ts:=_) (ty:=o.type) (k _) (k _) (k _) b;exact⟨D_,by rw[n];rfl,r⟩
 |_=>rw[e]at b;simp[Cd]at b
def Dm{P}{N}{H}{v:AZ}(b:Cd P g H o.op=D v)(e:K v H):Jn P N o g H K:=by apply C6 (by cases f:o.op<;>first|rfl|(rw[f]at b;simp[Cd]at b));intro X h a w s Q;obtain⟨c,d,hr⟩:=AEA s b;unfold Oper.wp;rw[d,Oper.upon_value];exact⟨c,v,h,H,rfl,e,hr,s.sim,G3.refl _ _ _⟩
section
variable {X:Nat->Prop}{h:Gh}{H:As}{w:World}
def Gh.at_(h:Gh)(id:z)(io:Ω z)(gen cap:z):Gh:=
 ⟨λi=>if i=id then io else h.io i,λi=>if i=id then gen else h.gen i,λi=>if i=id then cap else h.cap i⟩
def Holds(x:Cx)(cs:Ψ AZ)(arr:Array Value)(fz:z×z):Prop:=
 ∃f:z->Value,θ cs<=arr.size/\(∀i,i<arr.size->(τ (fz.1<=i)&&τ (i<fz.2))=η)/\
  ∀(j:z)(v:AZ),cs[j]?=D v->arr[j]?=D (f j)/\(f j).oneCell'=ζ/\Bv x v (f j)
def Q3(r:Bv i (.agg f) (.agg k)):Holds i f k (0,0):=by
 cases r with
 |agg l h a=>
  refine⟨λj=>k.getD j undef,o!,λx _=>k!,λj v c=>?_⟩;have b:j<k.size:=by rcases Aw j (θ f)with g|g;omega;rw[Cn g]at c;cases c
  have d:k[j]?=D (k[j]):=Oe b;have e:k.getD j undef=k[j]:=by simp[b]
  show k[j]?=D (k.getD j undef)/\(k.getD j undef).oneCell'=ζ/\Bv i v (k.getD j undef);rw[e];exact⟨d,h j _ d,a j v _ c d⟩
def Ig.of_ext'(s:Ig X h H w)(V:G3 h H w Q S G)
  (key:∀(id:Nat)(e:FO),S[id]?=D e->e≠.dead->(H[id]?=D e/\Q.gen id=h.gen id/\Q.io id=h.io id/\Q.cap id=h.cap id/\∀B,h.io id=D B->G.heap[B]?=w.heap[B]?)\/((∃g K,e=.live g K/\ACU (cx X Q S G) id g K)\/(∃L,e=.lp L/\yD (cx X Q S G) id L)\/(e.isB=ζ/\BAt Q G id e)))
  (inj:∀(id x:Nat)(e W:FO)(B:Nat),S[id]?=D e->S[x]?=D W->e≠.dead->W≠.dead->Q.io id=D B->Q.io x=D B->id=x):Ig X Q S G:=by
 have hl:=V.later X;refine⟨λB l=>⟨DG (s.out B l).1 V.size,λN=>?_⟩,λid g K I=>?_,λid L I=>?_,inj,λid e I l=>?_⟩;rcases V.fresh B N with N|N;exact(s.out B l).2 N;have:=(s.out B l).1;omega;rcases key id _ I k! with⟨c,y,q,M,z⟩|⟨Y,D_,e,hn⟩|⟨L,e,_⟩|⟨e,_⟩;obtain⟨T,J⟩:=s.live id g K c;refine⟨y.trans T,?_⟩;rcases J with⟨hn,rfl⟩|⟨B,C,T',P,f,d,R,i,U,A_,o⟩;exact .inl ⟨q.trans hn,rfl⟩;refine .inr ⟨B,C,T',P,f,q.trans d,(z B d).trans R,i.trans M.symm,U,A_,λj v hj=>?_⟩;obtain⟨p1,p2,p3⟩:=o j v hj;exact⟨p1,p2,p3.later hl⟩;injection e with a b;subst a b;exact hn;cases e;cases e;rcases key id _ I k! with⟨c,y,q,M,z⟩|⟨Y,D_,e,hn⟩|⟨L',e,hn⟩|⟨e,_⟩;obtain⟨T,B,r,d,R,u,E,F,p,h5,h6,Z⟩:=s.lp id L c;exact⟨y.trans T,B,r,q.trans d,(z B d).trans R,u,E,F,p,h5,h6,λt v m=>⟨(Z t v m).1,(Z t v m).2.later hl⟩⟩;cases e;injection e with a;subst a;exact hn;cases e;rcases key id _ I (by rintro rfl;cases l)with⟨c,y,q,M,z⟩|⟨Y,D_,e,hn⟩|⟨L',e,hn⟩|⟨_,hn⟩;cases e with
 |mp k es=>obtain⟨B,O,u,E,F,p⟩:=s.bld id _ c l;exact⟨B,O,q.trans u,y.trans E,(z B u).trans F,p⟩
 |it n seen=>obtain⟨B,u,E,F⟩:=s.bld id _ c l;exact⟨B,q.trans u,y.trans E,by rw[M];exact(z B u).trans F⟩
 |_=>cases l
 subst e;cases l;subst e;cases l;exact hn
def Ig.of_ext(s:Ig X h H w)(m:G3 h H w Q S G)
  (key:∀(id:z)(e:FO),S[id]?=D e->e≠.dead->(H[id]?=D e/\Q.gen id=h.gen id/\Q.io id=h.io id/\Q.cap id=h.cap id/\∀B,h.io id=D B->G.heap[B]?=w.heap[B]?)\/((∃g j,e=.live g j/\ACU (cx X Q S G) id g j)\/∃L,e=.lp L/\yD (cx X Q S G) id L))
  (inj:∀(id c:z)(e k:FO)(B:z),S[id]?=D e->S[c]?=D k->e≠.dead->k≠.dead->Q.io id=D B->Q.io c=D B->id=c):Ig X Q S G:=
 s.of_ext' m (λi e l f=>(key i e l f).imp id λh=>h.imp id .inl) inj
def JK{e:FO}(a:(H++[p])[N]?=D e):(N<θ H/\H[N]?=D e)\/(N=θ H/\e=p):=by rcases RY N (θ H)with b|rfl|c;rw[CW b]at a;exact .inl ⟨b,a⟩;rw[Cm (Am _),Gw]at a;simp at a;exact .inr ⟨rfl,a.symm⟩;rw[Cn w!]at a;cases a
def Jm{e:FO}(c:N<θ H)(a:(H.set N p)[t]?=D e):(t≠N/\H[t]?=D e)\/(t=N/\e=p):=by by_cases b:t=N;subst b;rw[GY c]at a;simp at a;exact .inr ⟨rfl,a.symm⟩;rw[DT (b ·.symm)]at a;exact .inl ⟨b,a⟩
def G3.push(o:Obj)(cap:z)(E:FO):
  G3 h H w (h.at_ (θ H) (D w.heap.size) 0 cap) (H++[E]) {w with heap:=w.heap.push o}where
 os:=rfl
 tape:=rfl
 output:=rfl
 size:=k!
 keep B hB _:=by simp[UV,Bj hB]
 n:=k!
 gen id hid:=by simp[Gh.at_,Bj hid]
 same id hid _:=by simp[Gh.at_,Bj hid]
 fresh B ho:=by obtain⟨id,e,b,d,a⟩:=ho;rcases JK b with⟨c,b⟩|⟨rfl,rfl⟩;exact .inl ⟨id,e,b,d,by simpa[Gh.at_,Bj c]using a⟩;simp[Gh.at_]at a;exact .inr o!
 loops B r hB:=⟨r,by have:=QK hB;simp[UV,Bj this,hB]⟩
def Ig.push_any(s:Ig X h H w)(o:Obj)(cap:z)(E:FO)
  (t:E≠.dead->((∃g l,E=.live g l/\ACU (cx X (h.at_ (θ H) (D w.heap.size) 0 cap) (H++[E]) {w with heap:=w.heap.push o}) (θ H) g l)\/∃L,E=.lp L/\yD (cx X (h.at_ (θ H) (D w.heap.size) 0 cap) (H++[E]) {w with heap:=w.heap.push o}) (θ H) L)):
  Ig X (h.at_ (θ H) (D w.heap.size) 0 cap) (H++[E]) {w with heap:=w.heap.push o}:=by
 refine s.of_ext (G3.push o cap E) (λid e f d=>?_) λid u e v B p q b c i j=>?_;rcases JK f with⟨a,f⟩|⟨rfl,rfl⟩;refine .inl ⟨f,by simp[Gh.at_,Bj a],by simp[Gh.at_,Bj a],by simp[Gh.at_,Bj a],λB k=>?_⟩;have:=s.io_at f d k;simp[UV,Bj this];exact .inr (t d);rcases JK p with⟨l1,m⟩|⟨rfl,_⟩<;>rcases JK q with⟨l2,n⟩|⟨rfl,_⟩;exact s.inj _ _ _ _ B m n b c (by simpa[Gh.at_,Bj l1]using i) (by simpa[Gh.at_,Bj l2]using j);have r:=s.io_at m b (by simpa[Gh.at_,Bj l1]using i);simp[Gh.at_]at j;omega;have r:=s.io_at n c (by simpa[Gh.at_,Bj l2]using j);simp[Gh.at_]at i;omega;rfl
theorem Ig.push(s:Ig X h H w)(a:Array Value)(T:TypeId)(c:Nat×Nat)(g:List AZ)(i:Holds (cx X h H w) g a c):
  Ig X (h.at_ H.length (some w.heap.size) 0 a.size) (H++[.live 0 g]) {w with heap:=w.heap.push (.cells a T c)}:=by
 refine s.push_any _ _ _ λ_=>.inl ⟨0,g,rfl,?_⟩;obtain⟨f,e,d,b⟩:=i;refine⟨by simp[cx,Gh.at_],.inr ⟨w.heap.size,a,T,c,f,by simp[cx,Gh.at_],by show(w.heap.push (.cells a T c))[w.heap.size]? =_;simp,by simp[cx,Gh.at_],e,d,λj v k=>?_⟩⟩;obtain⟨l,m,n⟩:=b j v k;exact⟨l,m,n.later ((G3.push _ _ _).later X)⟩
theorem Ig.upd(s:Ig X h H w){id g g' B:Nat}{K cs':List AZ}{arr:Array Value}{T:TypeId}{fz:Nat×Nat}{w':World}(y:H[id]? =some (FO.live g K))(hg:g≤g')
  (z:g'=g->h.io id=some B/\h.cap id=arr.size) (a:h.io id=some B\/w.heap.size<=B) (hb:w'.heap[B]? =some (.cells arr T fz)) (N: ∀k,k<w.heap.size->k≠B->w'.heap[k]? =w.heap[k]?)
  (R:w'.os=w.os) (C:w'.tape=w.tape) (G:w'.output=w.output) (A_:w.heap.size<=w'.heap.size) (hh:Holds (cx X h H w) cs' arr fz):
  Ig X (h.at_ id (some B) g' arr.size) (H.set id (.live g' cs')) w'/\G3 h H w (h.at_ id (some B) g' arr.size) (H.set id (.live g' cs')) w':=by
 have q:id<H.length:=by
  rcases Aw id H.length with o|o
  ·exact o
  ·rw[Cn o]at y;cases y
 have u:h.gen id=g:=(s.live id g K y).1;have S:G3 h H w (h.at_ id (some B) g' arr.size) (H.set id (.live g' cs')) w':=by
  refine⟨R,C,G,A_,λk O hn=>?_,by simp,λi n=>?_,λi n e=>?_,λk ho=>?_,λk r hr=>⟨r,?_⟩⟩
  ·refine N k O λe=>?_;subst e;rcases a with a|a
   ·exact hn ⟨id,_,y,by simp,a⟩
   ·omega
  ·by_cases e:i=id
   ·subst e;simp[Gh.at_,u,hg]
   ·simp[Gh.at_,e]
  ·by_cases Z:i=id
   ·subst Z;simp only[Gh.at_,if_true]at e⊢;have:=z (e.trans u);exact⟨this.1.symm,this.2.symm⟩
   ·simp[Gh.at_,Z]
  ·obtain⟨i,d,t,b,o⟩:=ho;rcases Jm q t with⟨n,l⟩|⟨rfl,_⟩
   ·exact .inl ⟨i,d,l,b,by simpa[Gh.at_,n]using o⟩
   ·simp[Gh.at_]at o;subst o;rcases a with a|a
    ·exact .inl ⟨i,_,y,by simp,a⟩
    ·exact .inr a
  ·have Q:=QK hr;refine(N k Q λe=>?_).trans hr;subst e;rcases a with a|a
   ·rcases(s.live id g K y).2 with⟨hn,_⟩|⟨W,Y,T',ad,f',x,D_,_⟩
    ·rw[show(cx X h H w).io id=h.io id from rfl,a]at hn;cases hn
    ·rw[show(cx X h H w).io id=h.io id from rfl,a]at x;injection x with e;subst e;rw[show(cx X h H w).w.heap=w.heap from rfl,hr]at D_;cases D_
   ·omega
 have hl:=S.later X;have c: ∀{i:Nat} {d:FO},i≠id->H[i]? =some d->d≠ .dead->h.io i=some B->False:=by
  intro i d n t b m;rcases a with a|a
  ·exact n (s.inj i id d _ B t y b (by simp) m a)
  ·have:=s.io_at t b m;omega
 refine⟨s.of_ext S (λi d t b=>?_) (λi i' d L k t o E F I J=>?_),S⟩
 ·rcases Jm q t with⟨n,l⟩|⟨rfl,rfl⟩
  ·refine .inl ⟨l,by simp[Gh.at_,n],by simp[Gh.at_,n],by simp[Gh.at_,n],λW m=>N W (s.io_at l b m) λe=>?_⟩;subst e;exact c n l b m
  ·obtain⟨f,P,M,p⟩:=hh;refine .inr (.inl ⟨g',cs',rfl,by simp[cx,Gh.at_],.inr ⟨B,arr,T,fz,f,by simp[cx,Gh.at_],hb,by simp[cx,Gh.at_],P,M,λj v hj=>?_⟩⟩);obtain⟨p1,p2,p3⟩:=p j v hj;exact⟨p1,p2,p3.later hl⟩
 ·rcases Jm q t with⟨U,d⟩|⟨rfl,_⟩<;>rcases Jm q o with⟨V,L⟩|⟨rfl,_⟩
  ·exact s.inj _ _ _ _ k d L E F (by simpa[Gh.at_,U]using I) (by simpa[Gh.at_,V]using J)
  ·simp[Gh.at_]at J;subst J;exact(c U d E (by simpa[Gh.at_,U]using I)).elim
  ·simp[Gh.at_]at I;subst I;exact(c V L F (by simpa[Gh.at_,V]using J)).elim
  ·rfl
end
def ADr(h:w.heap[N]?=D (.cells k b E))(a:z):w.frozen? ⟨N,a,A⟩=(τ (E.1<=a)&&τ (a<E.2)):=by unfold World.frozen?;rw[h]
def WF{P:Program}{B off:Nat}{T:TypeId}{h:Nat×Nat}:∀(g:Ψ Value)(i:Nat)a(w:World),w.heap[B]?=D (.cells a T h)→off+i+θ g≤a.size→
  (∀j,j<a.size->(τ (h.1<=j)&&τ (j<h.2))=η)->(∀v∈g,v.oneCell'=ζ)->
  ∃d b,(storeCells ⟨B,off,A⟩ g i).run P w=.ok () d/\d.heap[B]?=D (.cells b T h)/\b.size=a.size/\(∀j,b[j]?=if off+i<=j/\j<off+i+θ g then g[j-(off+i)]? else a[j]?)/\(∀k,k≠B->d.heap[k]?=w.heap[k]?)/\d.os=w.os/\d.tape=w.tape/\d.output=w.output/\d.heap.size=w.heap.size
 |[],i,a,w,hb,_,_,_=>⟨w,a,rfl,hb,rfl,λj=>by rw[D! k!],λ_ _=>rfl,rfl,rfl,rfl,rfl⟩
 |v::g,i,a,w,hb,hle,hfz,h1=>by
  simp only[CY]at hle;have o:w.cell? ⟨B,off+i,A⟩=D (a[off+i]' o!):=by rw[Qh (w:=w) hb];exact Oe o!
  have p:w.frozen? ⟨B,off+i,A⟩=η:=by rw[ADr hb];exact hfz _ o!
  have c:(store ⟨B,off+i,A⟩ v).run P w=.ok () (w.setCell ⟨B,off+i,A⟩ v):=by rw[run_store P w _ v .plain (h1 v k!),o];simp[p]
  have l:(w.setCell ⟨B,off+i,A⟩ v).heap[B]?=D (.cells (a.setIfInBounds (off+i) v) T h):=by simp[World.setCell,dQ,hb]
  obtain⟨d,b,r,s,t,x,y,z,A_,C,D_⟩:=WF (P:=P) (off:=off) g (i+1) (a.setIfInBounds (off+i) v) (w.setCell ⟨B,off+i,A⟩ v) l w!
   (by simpa using hfz) (λu q=>h1 u (CQ _ q))
  refine⟨d,b,?_,s,by rw[t];simp,λj=>?_,λk n=>?_,z,A_,C,by rw[D_];simp[World.setCell]⟩;simp only[storeCells,Pd,Sem.run_bind,c,Result.andThen_ok];exact r;rw[x];by_cases m:j=off+i;subst m;rw[D! o!,C! k!,Array.getElem?_setIfInBounds_self_of_lt o!];simp;by_cases f:off+(i+1)<=j/\j<off+(i+1)+θ g;rw[C! f,C! w!,show j-(off+i)=(j-(off+(i+1)))+1 from by omega];rfl;rw[D! f,D! w!,wh (m ·.symm)];rw[y k n];simp[World.setCell,dQ,Pf n]
section
variable {P:Program}{N:Nat}{o:Oper}{env:Env}{H:As}{K:AZ->As->Prop}
def Jn.alloc{t:TypeId}(d:o.op=.alloc t)(g:Z0 P t=D f)(z:K (.ptr (θ H) 0 0) (H++[.live 0 f])):Jn P N o env H K:=by
 apply C6 (by rw[d];rfl);intro X h a w s Q;obtain⟨i,v,e,c,j⟩:=gQ (cx X h H w) g;have b:(execOp a.eval o).run P w=.ok (.value (.pointer (D ⟨w.heap.size,0,A⟩))) {w with heap:=w.heap.push (.cells v.cells t)}:=by unfold execOp;rw[d];simp[Instr.alloc,zeroValue,typeInfo,e,c,newVar,newRow]
 unfold Oper.wp;rw[b,Oper.upon_value];refine⟨_,_,_,_,rfl,z,?_,s.sim.push v.cells t (0,0) f (Q3 j),G3.push _ _ _⟩;exact .ptr (by simp[cx]) (by simp[cx,Gh.at_]) rfl λ_=>⟨w.heap.size,by simp[cx,Gh.at_],rfl⟩
def Jn.box(c:o.op=.box b m)(g:BN env m=d)(f:d.solid=ζ)(e:K (.ptr (θ H) 0 0) (H++[.live 0 d.cells])):Jn P N o env H K:=by
 apply C6 (by rw[c];rfl);intro X h a w s Q;have t:=Di s.env m;rw[g]at t;have i:=Xo t f;have x:(execOp a.eval o).run P w=.ok (.value (.pointer (D ⟨w.heap.size,0,A⟩))) {w with heap:=w.heap.push (.cells (a.eval m).cells b)}:=by unfold execOp;rw[c];simp[Instr.box,newVar,newRow]
 unfold Oper.wp;rw[x,Oper.upon_value];refine⟨_,_,_,_,rfl,e,?_,s.sim.push _ b (0,0) d.cells (Q3 i),G3.push _ _ _⟩;exact .ptr (by simp[cx]) (by simp[cx,Gh.at_]) rfl λ_=>⟨w.heap.size,by simp[cx,Gh.at_],rfl⟩
def Jn.store{id g off:Nat}{v:AZ}{cs:Ψ AZ}{b:Bool}(ho:o.op=.store W m Y)(hx:BN env m=.ptr id g off)(hy:BN env Y=v)(hs:v.solid=ζ)
  (he:H[id]?=D (FO.live g cs)) (ht:tI P W=D (b,θ v.cells)) (J:off+θ v.cells<=θ cs) (V:K .any (H.set id (.live g (Xn cs off v.cells)))):Jn P N o env H K:=by
 apply C6 (by rw[ho];rfl);intro X h a w s Q;have Z:=Di s.env m;rw[hx]at Z;have t:=Di s.env Y;rw[hy]at t;have rz:=Xo t hs;obtain⟨I,F⟩:=s.sim.live id g cs he;obtain⟨B,i,S⟩:∃B,h.io id=D B/\a.eval m=.pointer (D ⟨B,off,A⟩):=by
  generalize a.eval m=c at Z;cases Z with
  |ptr ag O h1 hc=>obtain⟨B,i,rfl⟩:=hc I;exact⟨B,i,rfl⟩
 rcases F with⟨hn,_⟩|⟨B',D_,T,R,f,z,hb,E,ad,G,y⟩;rw[show(cx X h H w).io id=h.io id from rfl,i]at hn;cases hn;rw[show(cx X h H w).io id=h.io id from rfl,i]at z;injection z with e;subst e;generalize U:a.eval Y=c at t rz;obtain⟨M,A_,x⟩:c.cells.size=θ v.cells/\(∀(j:Nat)(d:Value),c.cells[j]?=D d->d.oneCell'=ζ)/\(∀(j:Nat)(u:AZ)(d:Value),v.cells[j]?=D u->c.cells[j]?=D d->Bv (cx X h H w) u d):=by cases rz with|agg p q r=>exact⟨p,q,r⟩
 obtain⟨w',n,p1,p2,p3,p4,p5,p6,p7,p8,p9⟩:=WF (P:=P) (off:=off) c.cells.toList 0 D_ w hb w! G (λd hd=>by obtain⟨j,C⟩:=Cu hd;exact A_ j d (by simpa using C));have L:(execOp a.eval o).run P w=.ok .skip w':=by unfold execOp;rw[ho];simp only[S,U,Instr.storeAt,Instr.sureAddr,Sem.run_bind,Sem.run_pure,Result.andThen_ok,storeVar,L5 ht];rw[D! (by simp[M])];simp only[Result.andThen_ok,p1]
 have hh:Holds (cx X h H w) (Xn cs off v.cells) n R:=by
  refine⟨λj=>if off<=j/\j<off+θ v.cells then c.cells.getD (j-off) undef else f j,by rw[ma J];omega,by rw[p3];exact G,λj u C=>?_⟩;rw[vz J]at C;rw[p4];simp only[Lc,Dq,M,Qe];split at C;rename_i l;rw[C! l,C! l];have hl:j-off<c.cells.size:=o!
  have O:c.cells[j-off]?=D (c.cells[j-off]):=Oe hl;have e:c.cells.getD (j-off) undef=c.cells[j-off]:=by simp[hl]
  rw[e];exact⟨O,A_ _ _ O,x _ u _ C O⟩;rename_i l;rw[D! l,D! l];exact y j u C
 obtain⟨q1,q2⟩:=s.sim.upd (g':=g) (B:=B) (arr:=n) (T:=T) (fz:=R) (w':=w') he (Am _) (λ_=>⟨i,by rw[p3];exact E.symm⟩) (.inl i) p2 (λk _ V=>p5 k V) p6 p7 p8 (by rw[p9];exact Am _) hh;unfold Oper.wp;rw[L,Oper.upon_skip];exact⟨_,_,_,_,rfl,V,.any _,q1,q2⟩
end
section
variable {X:Nat->Prop}{h:Gh}{H:As}{w w':World}
def G3.grow(b:w'.os=w.os)(f:w'.tape=w.tape)(d:w'.output=w.output)(e:w.heap.size<=w'.heap.size)(c:∀k,k<w.heap.size->w'.heap[k]?=w.heap[k]?):G3 h H w h H w':=⟨b,f,d,e,λB a _=>c B a,Am _,λ_ _=>Am _,λ_ _ _=>⟨rfl,rfl⟩,λ_ h=>.inl h,λB r a=>⟨r,(c B (QK a)).trans a⟩⟩
def Ig.grow(s:Ig X h H w)(c:w'.os=w.os)(i:w'.tape=w.tape)(f:w'.output=w.output)(g:w.heap.size<=w'.heap.size)(e:∀k,k<w.heap.size->w'.heap[k]?=w.heap[k]?):Ig X h H w':=s.of_ext (G3.grow c i f g e) (λ_ _ d b=>.inl ⟨d,rfl,rfl,rfl,λB a=>e B (s.io_at d b a)⟩) s.inj
def G3.virt:G3 h H w (h.at_ (θ H) A 0 0) (H++[.live 0 []]) w where
 os:=rfl
 tape:=rfl
 output:=rfl
 size:=Am _
 keep B _ _:=rfl
 n:=k!
 gen id hid:=by simp[Gh.at_,Bj hid]
 same id hid _:=by simp[Gh.at_,Bj hid]
 fresh B ho:=by obtain⟨id,e,b,d,a⟩:=ho;rcases JK b with⟨c,b⟩|⟨rfl,rfl⟩;exact .inl ⟨id,e,b,d,by simpa[Gh.at_,Bj c]using a⟩;simp[Gh.at_]at a
 loops B r hB:=⟨r,hB⟩
theorem Ig.virt(s:Ig X h H w):Ig X (h.at_ (θ H) A 0 0) (H++[.live 0 []]) w:=by refine s.of_ext G3.virt (λid e f m=>?_) λid n e o B j k a b c d=>?_;rcases JK f with⟨l,f⟩|⟨rfl,rfl⟩;grind[Gh.at_];exact .inr (.inl ⟨0,[],rfl,by simp[cx,Gh.at_],.inl ⟨by simp[cx,Gh.at_],rfl⟩⟩);rcases JK j with⟨l1,g⟩|⟨rfl,_⟩<;>rcases JK k with⟨l2,i⟩|⟨rfl,_⟩;exact s.inj _ _ _ _ B g i a b (by simpa[Gh.at_,Bj l1]using c) (by simpa[Gh.at_,Bj l2]using d);simp[Gh.at_]at d;simp[Gh.at_]at c;rfl
def Ig.bump(s:Ig X h H w){id g:Nat}{cs}(n:H[id]?=D (FO.live g cs))(hn:h.io id=A):
  Ig X (h.at_ id A (g+1) (h.cap id)) (H.set id (.live (g+1) [])) w/\G3 h H w (h.at_ id A (g+1) (h.cap id)) (H.set id (.live (g+1) [])) w:=by
 have a:id<θ H:=by rcases Aw id (θ H)with b|b;exact b;rw[Cn b]at n;cases n
 have c:h.gen id=g:=(s.live id g cs n).1;have own:∀B,owned (h.at_ id A (g+1) (h.cap id)) (H.set id (.live (g+1) [])) B->owned h H B:=by rintro B ⟨i,e,j,l,b⟩;rcases Jm a j with⟨f,d⟩|⟨rfl,_⟩;exact⟨i,e,d,l,by simpa[Gh.at_,f]using b⟩;simp[Gh.at_]at b
 have u:G3 h H w (h.at_ id A (g+1) (h.cap id)) (H.set id (.live (g+1) [])) w:=by refine⟨rfl,rfl,rfl,Am _,λk A_ hn=>rfl,k!,λi f=>?_,λi f e=>?_,λB C=>.inl (own B C),λB r y=>⟨r,y⟩⟩;by_cases e:i=id;subst e;simp[Gh.at_,c];simp[Gh.at_,e];by_cases m:i=id;subst m;simp[Gh.at_,c]at e;simp[Gh.at_,m]
 refine⟨s.of_ext u (λi e j l=>?_) (λi F e m k j b o p q t=>?_),u⟩;rcases Jm a j with⟨f,d⟩|⟨rfl,rfl⟩;exact .inl ⟨d,by simp[Gh.at_,f],by simp[Gh.at_,f],by simp[Gh.at_,f],λB z=>rfl⟩;exact .inr (.inl ⟨g+1,[],rfl,by simp[cx,Gh.at_],.inl ⟨by simp[cx,Gh.at_],rfl⟩⟩);rcases Jm a j with⟨D_,v⟩|⟨rfl,_⟩<;>rcases Jm a b with⟨E,x⟩|⟨rfl,_⟩;exact s.inj _ _ _ _ k v x o p (by simpa[Gh.at_,D_]using q) (by simpa[Gh.at_,E]using t);simp[Gh.at_]at t;simp[Gh.at_]at q;rfl
end
def Ka(H:As)(sz:z):AZ->Ω (z×Ψ AZ)
 |.vs sz' rows=>if sz=sz' then D (θ rows,rows.flatMap AZ.cells)else A
 |.sl id g sz' off len=>
  match H[id]? with
  |some (.live g' cs)=>if g=g'/\sz=sz'/\off+len*sz<=θ cs then D (len,(cs.drop off).take (len*sz))else A
  |_=>A
 |.nils=>D (0,[])
 |_=>A
theorem PU{P:Program}{X:Nat→Prop}{h}{H}{w}{v}{c}{sz m:Nat}{J:Ψ AZ}(s:Ig X h H w)(r:Bv (cx X h H w) v c)(N:0<sz)(hr:Ka H sz v=D (m,J)):
  ∃a cap S,c=.slice a m cap/\θ J=m*sz/\oL (cx X h H w) J S/\(∀u∈S,u.oneCell'=ζ)/\(Builtin.lenOf c).run P w=.ok m w/\(Builtin.firstCells sz m c).run P w=.ok S.toArray w:=by
 cases r with
 |nils=>simp only[Ka,Ap,EW]at hr;obtain⟨rfl,rfl⟩:=hr;exact⟨A,0,[],rfl,k!,⟨rfl,λ_ _ _ h=>by cases h⟩,(λ_ h=>by cases h),rfl,rfl⟩
 | @vs R b a cap f y Z D_ ha hv=>
  simp only[Ka]at hr;split at hr;rename_i F;subst F;simp only[Ap,EW]at hr;obtain⟨rfl,rfl⟩:=hr;have q:=sL D_;cases b with
  |nil=>refine⟨a,cap,[],rfl,k!,⟨rfl,λ_ _ _ h=>by cases h⟩,(λ_ h=>by cases h),rfl,?_⟩;cases a<;>simp[Builtin.firstCells,loadCells,loadCellsFrom]
  |cons e0 E=>
   obtain⟨B,k,rfl,hO,hB,L⟩:=ha k!;generalize e0::E=b at*;have K:∀j,j<θ b*sz->∃e v,b[j/sz]?=D e/\e.cells[j%sz]?=D v:=by intro j o;have F:j/sz<θ b:=(Nat.div_lt_iff_lt_mul N).2 o;have I:b[j/sz]?=D (b[j/sz]):=Ar F;grind[Nat.mod_lt,m?]
   refine⟨_,cap,(List.range (θ b*sz)).map λj=>f (j/sz) (j%sz),rfl,q,⟨by simp[q],λj v d o G=>?_⟩,λu O=>?_,rfl,?_⟩;grind[flat_get,Nat.lt_or_ge,u?,List.getElem?_range,Option.some.injEq];grind;have:=run_loadCells (P:=P) w ⟨B,k,A⟩ (θ b*sz) (λj=>f (j/sz) (j%sz)) λj o=>by obtain⟨e,v,I,Q⟩:=K j o;rw[Pd];have V:=(L _ e _ v I Q).1;rw[Nat.div_add_mod' j sz]at V;exact V
   grind[Builtin.firstCells]
  cases hr
 | @sl id g R k len c al hg F L=>
  simp only[Ka]at hr;split at hr;rename_i g' l I;split at hr;rename_i x;obtain⟨rfl,rfl,ao⟩:=x;simp only[Ap,EW]at hr;obtain⟨rfl,rfl⟩:=hr;obtain⟨A_,z⟩:=s.live id g l I;rcases L A_ with⟨n,rfl,rfl,rfl⟩|⟨B,cap,n,y,M,rfl⟩;exact⟨A,0,[],rfl,k!,⟨k!,λ_ _ _ _ h=>by cases h⟩,(λ_ h=>by cases h),rfl,rfl⟩;rcases z with⟨hn,_⟩|⟨U,ad,T,fz,f,p,hb,W,Y,ag,i⟩;rw[hn]at n;cases n;have:U=B:=by rw[n]at p;injection p with e;exact e.symm
  subst this;refine⟨_,cap,(List.range (len*sz)).map λj=>f (k+j),rfl,w!,⟨w!,λj v d o G=>?_⟩,λu O=>?_,rfl,?_⟩;have C:j<len*sz:=by grind[Nat.lt_or_ge,u?]
  rw[dV,C! C,IW]at o;rw[B9,R8 C]at G;simp only[Br,Ap]at G;subst G;exact(i _ v o).2.2;simp only[Bo,H5]at O;obtain⟨j,o,rfl⟩:=O;have t:l[k+j]?=D (l[k+j]' o!):=Ar o!;exact(i _ _ t).2.1;have:=run_loadCells (P:=P) w ⟨U,k,A⟩ (len*sz) (λj=>f (k+j)) λj o=>by have t:l[k+j]?=D (l[k+j]' o!):=Ar o!;rw[Pd,Qh (w:=w) hb];exact(i _ _ t).1
  simpa[Builtin.firstCells]using this;cases hr;cases hr
 |_=>simp only[Ka]at hr;cases hr
theorem ABu(a b:z)(h:b<a):Builtin.nextslicecap a b<=2*a+2048:=by grind[Builtin.nextslicecap,Builtin.growBy]
def S9(P:u)(e:TypeId):Bool:=
 match P.info? e with
 |some i=>decide (i.bytes<=1048576)&&(match i.zero with|some z=>decide (z.cells.size=i.size)|none=>η)
 |none=>η
section
variable {P:Program}{N:Nat}{o:Oper}{env:Env}{H:As}{K:AZ->As->Prop}
theorem VI(h:S9 P b=ζ):∃i z,P.info? b=D i/\i.bytes<=1048576/\i.zero=D z/\z.cells.size=i.size:=by grind[S9]
theorem nU(h:tI P b=D (s,N))(a:P.info? b=D y):y.size=N:=by unfold tI at h;grind
theorem Jn.buildSlice{t e:TypeId}{len sz:Nat}{f:Array (Nat×Operand)}{W:Ψ AZ}(ho:o.op=.buildSlice t len f)(he:eI P t=D (A,e,sz))(ax:0<sz)(a4:S9 P e=ζ)
  (C:f.toList.map (·.1)=List.range len) (a6:f.toList.map (BN env ·.2)=W) (O:∀v∈W,v.solid=ζ/\θ v.cells=sz) (L:len<=4096/\sz<=4096) (hk:K (.vs sz W) H):Jn P N o env H K:=by
 apply C6 (by rw[ho];rfl);intro X h a w s Q;obtain⟨a0,b,hi⟩:=Rf he;obtain⟨i,z,D_,_,hz,a7⟩:=VI a4;have A_:=nU hi D_;have V:θ W=len:=by have n:=E! θ C;grind[θ]
 let g:Ψ Value:=f.toList.map λp=>a.eval p.2;have U:θ g=len:=by grind[θ]
 have M:∀(j:Nat)(v:AZ)(c:Value),W[j]?=D v->g[j]?=D c->Bv (cx X h H w) (.agg v.cells) (.agg c.cells)/\θ v.cells=sz:=by
  intro j v c G Y;have hm:=O v (BQ G);refine⟨?_,hm.2⟩;subst a6;simp only[g,B9]at G Y;cases Z:f.toList[j]? with
  |none=>rw[Z]at G;cases G
  |some p=>rw[Z]at G Y;simp only[Br,Ap]at G Y;subst G Y;exact Xo (Di s.env p.2) hm.1
 have y:∀c∈g,c.cells.size=sz:=by
  intro c Y;obtain⟨j,B⟩:=Cu Y;have E:j<θ W:=by grind[Nat.lt_or_ge,u?]
  obtain⟨n,r⟩:=M j _ c (Ar E) B;cases n<;>grind
 have R:(f.map λq=>(q.1,a.eval q.2)).toList=(g.zipIdx 0).map λx=>(x.2,x.1):=by
  apply JN;intro j;simp only[Array.toList_map,B9,List.getElem?_zipIdx,DQ,g];cases Z:f.toList[j]? with
  |none=>rfl
  |some p=>
   have n:(f.toList.map (·.1))[j]?=D p.1:=by rw[B9,Z];rfl
   rw[C]at n;have E:j<len:=by rcases Aw j len with r|r;exact r;rw[Cn (by simpa using r)]at n;cases n
   rw[R8 E]at n;simp only[Ap]at n;simp[n]
 have a3:(g.flatMap λc=>c.cells.toList).length=len*sz:=by
  clear R;have:∀l:Ψ Value,(∀c∈l,c.cells.size=sz)->(l.flatMap λc=>c.cells.toList).length=θ l*sz:=by
   intro l;induction l with
   |nil=>simp
   |cons c l ih=>intro V;simp only[IV,Ae,Dq,V c k!,ih (λd I=>V d (CQ _ I)),CY,ED];omega
  rw[this g y,U]
 have ag:∀(j:Nat)(c:Value)(q:Nat)(d:Value),g[j]?=D c->c.cells[q]?=D d->(g.flatMap λc=>c.cells.toList)[j*sz+q]?=D d:=by
  have:∀(l:Ψ Value),(∀c∈l,c.cells.size=sz)->∀(j:Nat)(c:Value)(q:Nat)(d:Value),l[j]?=D c->c.cells[q]?=D d->(l.flatMap λc=>c.cells.toList)[j*sz+q]?=D d:=by
   intro l;induction l with
   |nil=>intro _ j c q d B;simp at B
   |cons c0 l ih=>
    intro V j c q d B I;simp only[IV];have h0:=V c0 k!;cases j with
    |zero=>simp at B;subst B;rw[ZD,DQ,CW (by rcases Aw q c0.cells.size with r|r;simpa using r;rw[uS r]at I;cases I)];simpa using I
    |succ j=>rw[Cm (by rw[Dq,h0,ED];omega),Dq,h0];rw[show(j+1)*sz+q-sz=j*sz+q from by rw[ED];omega];exact ih (λd I=>V d (CQ _ I)) j c q d (by simpa using B) I
  exact this g y
 have F:∃m:Array Value,(execOp a.eval o).run P w=.ok (.value (.slice (D ⟨w.heap.size,0,A⟩) len len)) {w with heap:=w.heap.push (.cells m e)}/\m.toList=g.flatMap λc=>c.cells.toList:=by
  unfold execOp;rw[ho];by_cases h0:len=0;subst h0;have:g=[]:=EX U;refine⟨#[],?_,by rw[this];rfl⟩;have Z:f= #[]:=by have n:=E! θ C;simp at n;exact n
  simp[Instr.buildSlice,run_underlying a0,L5 hi,Z,Instr.fill,newRow,show Array.range 0= #[]from rfl];refine⟨(g.flatMap λc=>c.cells.toList).toArray,?_,rfl⟩;have ao:¬len*i.size=0:=by rw[A_];exact Nat.mul_ne_zero h0 o!
  have a5:¬len*i.size>2^24:=by rw[A_];have:=oR L.1 L.2;omega
  have hf:=Go.Great.fill_whole (s:=sz) ax g ((Array.range (len*i.size)).map (z.cells[· %z.cells.size]!)) y (by simp[U,A_]);have:=run_buildSlice (P:=P) w t e len (f.map λq=>(q.1,a.eval q.2)) _ i z a0 D_ hz a5 ao (by rw[R,A_]at*;exact hf);simp only[Sem.run_bind];rw[show(f.map λx=>match x with|(i,x)=>(i,a.eval x))=(f.map λq=>(q.1,a.eval q.2))from rfl,this];rfl
 obtain⟨m,F,ad⟩:=F;unfold Oper.wp;rw[F,Oper.upon_value];have ar:=s.sim.grow (w':={w with heap:=w.heap.push (.cells m e)}) rfl rfl rfl k! (λk hk=>by simp[UV,Bj hk]);have J:=G3.grow (h:=h) (H:=H) (w:=w) (w':={w with heap:=w.heap.push (.cells m e)}) rfl rfl rfl k! (λk hk=>by simp[UV,Bj hk]);refine⟨_,_,h,H,rfl,hk,?_,ar,J⟩;subst V;refine .vs (λj q=>((g.getD j undef).cells.getD q undef)) (Am _) ax (λj v B=>(O v (BQ B)).2) (λal=>⟨w.heap.size,0,rfl,?_,by simp[cx],λj v q u B hq=>?_⟩) λj v q u B hq=>?_;rintro(hX|ho);have:=(s.sim.out _ hX).1;omega;obtain⟨id,e1,n,al,r⟩:=ho;have:=s.sim.io_at n al r;omega;all_goals
  have E:j<θ g:=by rcases Aw j (θ W)with r|r;omega;rw[Cn r]at B;cases B
  have S:g[j]?=D (g[j]):=Ar E;have a2:g.getD j undef=g[j]:=by simp[R7,S]
  obtain⟨r1,r2⟩:=M j v _ B S;rw[a2];cases r1 with
  |agg hs n G=>
   have ap:q<(g[j]).cells.size:=by rcases Aw q (θ v.cells)with r|r;omega;rw[Cn r]at hq;cases hq
   have T:(g[j]).cells[q]?=D ((g[j]).cells[q]):=Oe ap;have a1:(g[j]).cells.getD q undef=(g[j]).cells[q]:=by simp[ap]
   rw[a1];first
    |exact(G q u _ hq T).later (J.later X)
    |(refine⟨?_,n q _ T⟩
      have hb:(w.heap.push (.cells m e))[w.heap.size]?=D (.cells m e (0,0)):=k!
      rw[DQ];show World.cell? {w with heap:=w.heap.push (.cells m e)} _=_;rw[Qh (w:={w with heap:=w.heap.push (.cells m e)}) hb,<-Qe,ad];exact ag j _ q _ S T)
end
section
variable {P:Program}
def Z1(z:Array Value)(n:Nat):(Builtin.zeroCells z n).size=n*z.size:=by simp[Builtin.zeroCells]
def oW{t ty e:TypeId}(g:P.underlying t=D (.slice e))(j:P.info? e=D y){base:Ω Addr}{n cap m:z}{w w':World}
  (d:(Builtin.lenOf c).run P w=.ok m w) (f:(Builtin.firstCells y.size m c).run P w=.ok C.toArray w) (i:n+m<=cap)
  (b:(match base with
   |some a=>storeCells (a.add (n*y.size)) C
   |none=>pure ():Sem Unit).run P w=.ok () w'):
  (Builtin.append_ #[t,t] ty #[.slice base n cap,c]).run P w=.ok (.slice base (n+m) cap) w':=by
 cases base<;>simp only at b<;>simp[Builtin.append_,run_underlying g,sizeOf,typeInfo,j,d,f,i,b];simp at b;exact b
def sQ{t ty e:TypeId}(g:P.underlying t=D (.slice e))(p:P.info? e=D y)(r:y.zero=D c)(l:y.bytes≤1048576){base:Ω Addr}{n cap m:z}{os j:Ψ Value}
  (f:(Builtin.lenOf I).run P w=.ok m w) (q:(Builtin.firstCells y.size n (.slice base n cap)).run P w.drew=.ok os.toArray w.drew) (hn:(Builtin.firstCells y.size m I).run P w.drew=.ok j.toArray w.drew)
  (b:cap<n+m) (h:n+m<=16777216):
  ∃a,n+m<=a/\(Builtin.append_ #[t,t] ty #[.slice base n cap,I]).run P w=.ok (.slice (D ⟨w.heap.size,0,A⟩) (n+m) a) {w.drew with heap:=w.drew.heap.push (.cells (os.toArray++j.toArray++Builtin.zeroCells c.cells (a-(n+m))) e)}:=by
 have d:¬(Builtin.nextslicecap (n+m) cap*y.bytes>2^48):=by have s:=ABu (n+m) cap b;have u:Builtin.nextslicecap (n+m) cap*y.bytes<=33556480*1048576:=oR o! l;omega
 refine⟨(Question.appendCap (n+m) cap e).cut (w.tape w.drawn (.appendCap (n+m) cap e)),by simp[Question.cut],?_⟩;have k:IntKind.i64.max=9223372036854775807:=g!
 have i:¬((9223372036854775807:Int)<(n:Int)+(m:Int)/\y.bytes=0):=o!
 have o:(Question.appendCap (n+m) cap e).forced=η:=rfl;simp[Builtin.append_,sizeOf,typeInfo,zeroValue,run_underlying g,p,r,f,d,newRow,k];rw[D! o!,D! i,D! (by rw[o];simp),q];simp only[Result.andThen_ok];rw[hn];simp only[Result.andThen_ok,Result.ok.injEq];refine⟨rfl,?_⟩;rw[<-List.append_toArray,Array.append_assoc];rfl
end
section
variable {P:Program}{N:Nat}{o:Oper}{env:Env}{H:As}{K:AZ->As->Prop}
def R2{a:Operand→Value}(e:o.op=.call {callee:=.builtin .append,args:= #[m,Y],argTypes:= #[b,b]})
  (h:(Builtin.append_ #[b,b] o.type #[a m,a Y]).run P w=.ok c G):(execOp a o).run P w=.ok (.value c) G:=by
 unfold execOp;rw[e];simp only[resolve,invoke,builtin,Sem.run_bind,Sem.run_pure,Result.andThen_ok,RU,Bz,Hz];rw[h];rfl
def Ig.drew{X:z->Prop}{h}{H}{w}(s:Ig X h H w):Ig X h H w.drew:=s.grow rfl rfl rfl (Am _) λ_ _=>rfl
def G3.drew{h}{H}{w}:G3 h H w h H w.drew:=G3.grow rfl rfl rfl (Am _) λ_ _=>rfl
def xO{as bs}{os a}{n:Array Value}(ra:oL i as os)(g:oL i bs a)(k:∀u∈os,u.oneCell'=ζ)(l:∀u∈a,u.oneCell'=ζ):
  Holds i (as++bs) (os.toArray++a.toArray++n) (0,0):=by
 refine⟨λj=>(os++a).getD j undef,?_,λx _=>k!,λj v d=>?_⟩;simp[ra.1,g.1];have f:j<(os++a).length:=by rcases Aw j (as++bs).length with b|b;simp[ra.1,g.1]at*;omega;rw[Cn b]at d;cases d
 have c:(os++a)[j]?=D ((os++a)[j]):=Ar f;have e:(os++a).getD j undef=(os++a)[j]:=by rw[R7,c];rfl
 show _=D ((os++a).getD j undef)/\((os++a).getD j undef).oneCell'=ζ/\Bv i v ((os++a).getD j undef);rw[e];refine⟨?_,?_,?_⟩;rw[ZE (by simpa using f),List.append_toArray,Yw];exact c;have m:(os++a)[j]∈os++a:=Of f;rcases Al.1 m with h|h;exact k _ h;exact l _ h;rcases Aw j (θ as)with b|b;rw[CW b]at d;rw[CW (by rw[ra.1];exact b)]at c;exact ra.2 j v _ d c;rw[Cm b]at d;rw[Cm (by rw[ra.1];exact b),ra.1]at c;exact g.2 _ v _ d c
theorem Jn.append_nil{D_ T:Operand}{t e:TypeId}{sz m:Nat}{d:Ψ AZ}(I:o.op=.call {callee:=.builtin .append,args:= #[D_,T],argTypes:= #[t,t]})(he:eI P t=D (A,e,sz))(v:0<sz)(J:S9 P e=ζ)
  (hs:BN env D_=.nils) (M:Ka H sz (BN env T)=D (m,d)) (V:m<=16777216) (U:K (.sl (θ H) 0 sz 0 m) (H++[.live 0 d])):Jn P N o env H K:=by
 apply C6 (by rw[I];rfl);intro X h a w s Q;obtain⟨B,b,hi⟩:=Rf he;obtain⟨i,z,f,G,hz,O⟩:=VI J;have j:=nU hi f;have R:=Di s.env D_;rw[hs]at R;have y:a.eval D_=.slice A 0 0:=by generalize a.eval D_=c at R;cases R;rfl
 have S:=Di s.env T;unfold Oper.wp;rcases Wv m with W|W;subst W;obtain⟨Z,x,E,F,A_,g,p,l,q⟩:=PU (P:=P) s.sim S v M;have u:d=[]:=EX o!;subst u;have L:E=[]:=EX g.1;subst L;have k:=oW (ty:=o.type) (base:=A) (n:=0) (cap:=0) (w':=w) B f l (by rw[j];exact q) o! rfl;rw[R2 I (by rw[y];exact k),Oper.upon_value];exact⟨_,_,_,_,rfl,U,.sl (by simp[cx]) q! ⟨_,_,rfl⟩ λ_=>.inl ⟨by simp[cx,Gh.at_],rfl,rfl,rfl⟩,s.sim.virt,G3.virt⟩;have Y:=s.sim.drew;obtain⟨Z,x,E,F,A_,g,p,l,q⟩:=PU (P:=P) Y (S.later (G3.drew.later X)) v M;obtain⟨_,_,_,_,_,_,_,r,_⟩:=PU (P:=P) s.sim S v M;obtain⟨C,hC,k⟩:=sQ (ty:=o.type) (base:=A) (n:=0) (cap:=0) (os:=[]) B f hz G r (by rfl) (by rw[j];exact q) o! o!;rw[R2 I (by rw[y];exact k),Oper.upon_value];have hh:Holds (cx X h H w.drew) d (#[]++E.toArray++Builtin.zeroCells z.cells (C-(0+m))) (0,0):=xO (as:=[]) (os:=[]) ⟨rfl,λ_ _ _ h=>by cases h⟩ g (λ_ h=>by cases h) p;refine⟨_,_,_,_,rfl,U,?_,Y.push _ e (0,0) d hh,G3.drew.trans (G3.push _ _ _)⟩;rw[DQ];refine .sl (by simp[cx]) q! ⟨_,_,rfl⟩ λ_=>.inr ⟨w.heap.size,C,by simp[cx,Gh.at_],o!,?_,rfl⟩;have e1:θ E=m*sz:=by rw[g.1,A_]
 simp only[cx,Gh.at_,if_true,Array.size_append,gW,Z1,O,j,e1];have:(C-(0+m))*sz+m*sz=C*sz:=by rw[<-ED];congr 1;omega
 grind
end
section
variable {X:Nat->Prop}{h:Gh}{H:As}{w:World}{N:Nat}{env env2:Env}
def FN.trans{g}{l m n}{i j k}(a:FN N g l i m j)(b:FN N g m j n k):FN N g l i n k:=⟨b.1,λX h d w s=>by obtain⟨o,u,e,r⟩:=a.2 X h d w s;obtain⟨p,v,f,t⟩:=b.2 X o d w u;exact⟨p,v,λid c=>⟨(f id c).1.trans (e id c).1,(f id c).2.1.trans (e id c).2.1,(f id c).2.2.trans (e id c).2.2⟩,λB q=>r B (t B q)⟩⟩
def FN.of_le{n0 j:z}{i}(a:FN N j g H i S)(h:n0<=j):FN N n0 g H i S:=⟨Cs h a.1,λX f b w s=>by obtain⟨l,n,k,m⟩:=a.2 X f b w s;exact⟨l,n,λid c=>k id (DG c h),m⟩⟩
def FN.virt{t sz:z}(n:env.get t=.nils):FN N (θ H) env H (env.put t (.sl (θ H) 0 sz 0 0)) (H++[.live 0 []]):=by
 refine⟨k!,λX g d w s=>⟨g.at_ (θ H) A 0 0,⟨s.sim.virt,?_,s.size⟩,λid f=>by simp[Gh.at_,Bj f],λB l=>?_⟩⟩;have r:(t,AZ.nils)∈env:=by rcases Oi (env:=env) (t:=t)with e|m;rw[n]at e;cases e;rw[n]at m;exact m
 have x:=G3.virt (h:=g) (H:=H) (w:=w);have a:=s.env.later (x.later X);intro u v m;unfold Env.put at m;rcases A3.1 m with e|m;injection e with o p;subst o p;obtain⟨q,k⟩:=s.env _ _ r;refine⟨q,?_⟩;generalize d.tmps.getD u undef=c at k;cases k;exact .sl (by simp[cx]) (by simp[cx,Gh.at_]) ⟨_,_,rfl⟩ λ_=>.inl ⟨by simp[cx,Gh.at_],rfl,rfl,rfl⟩;exact a u v (BZ.1 m).1;rcases(G3.virt (h:=g) (H:=H) (w:=w)).fresh B l with h|h;exact h;obtain⟨id,e,a,j,b⟩:=l;rcases JK a with⟨i,a⟩|⟨rfl,rfl⟩;exact⟨id,e,a,j,by simpa[Gh.at_,Bj i]using b⟩;simp[Gh.at_]at b
end
def ACa(sz:z)(cs:Ψ AZ)(rows:Ψ AZ):Prop:=0<sz/\(∀e∈rows,θ e.cells=sz)/\rows.flatMap AZ.cells=cs
theorem pr{sz:z}:∀{a:Ψ AZ},(∀e∈a,θ e.cells=sz)->∀(j:z)(e:AZ)(i:z)(v:AZ),a[j]?=D e->e.cells[i]?=D v->(a.flatMap AZ.cells)[j*sz+i]?=D v
 |e0::r,h,j,e,i,v,hj,hi=>by
  have b:=h e0 k!;simp;cases j with
  |zero=>grind
  |succ j=>rw[Cm q!,b,show(j+1)*sz+i-sz=j*sz+i from by grind];exact pr (λe c=>h e (CQ _ c)) j e i v q! hi
def Bv.froze{id g sz n:Nat}(s:Ig e h H w)(P:H[id]?=D (FO.live g f))(hr:ACa sz f v)(hn:θ v=n)
  (R:(cx e h H w).Later i) (I:i.w=w) (M:∀B,h.io id=D B->¬i.O B) (r:Bv (cx e h H w) (.sl id g sz 0 n) c):Bv i (.vs sz v) c:=by
 obtain⟨x,k,rfl⟩:=hr;obtain⟨t,o⟩:=s.live id g _ P;cases r with
 |sl p q Y N=>
  rcases N t with⟨d,U,_,rfl⟩|⟨B,cap,d,m,C,rfl⟩;have:v=[]:=EX o!;subst this;exact Bv.vs (rows:=[]) (cap:=0) (λ_ _=>undef) (Am _) x (λ_ _ h=>by simp at h) (λh=>(h rfl).elim) λ_ _ _ _ h=>by simp at h
  rcases o with⟨E,_⟩|⟨z,J,T,W,X,l,G,A_,S,Q,b⟩;rw[E]at d;cases d;have:z=B:=by rw[d]at l;injection l with y;exact y.symm
  subst this;subst hn;refine .vs (λj F=>X (j*sz+F)) m x (λj y u=>k y (BQ u)) (λV=>⟨z,0,rfl,M z d,?_,λj y F a u D_=>?_⟩) λj y F a u D_=>?_;rw[I];exact QK G;obtain⟨K,L,_⟩:=b _ a (pr k j y F a u D_);rw[DQ,I,Qh (w:=w) G];exact⟨K,L⟩;exact(b _ a (pr k j y F a u D_)).2.2.later R
section
variable {X:Nat->Prop}{h:Gh}{H:As}{w:World}
theorem gM(b:(H.take N)[t]?=D p):t<N/\H[t]?=D p:=q!
def jh{n0 B}(d:owned h (H.take n0) B):owned h H B:=by obtain⟨id,e,c,b,a⟩:=d;exact⟨id,e,(gM c).2,b,a⟩
def Bv.trunc(hn:N<=θ H)(r:Bv (cx X h H w) d c)(a:(d.idsAll λid=>decide (id<N))=ζ):Bv (cx X h (H.take N) w) d c:=by have:=Bv.ren (x:=cx X h H w) (y:=cx X h (H.take N) w) (ρ:=λi=>i) (p:=λid=>decide (id<N)) (λi e _=>⟨by simp[cx]at*;omega,rfl,rfl,rfl⟩) rfl (λB b=>by rcases b with b|b;exact .inl b;exact .inr (jh b)) r a;rwa[ACD (p:=λid=>decide (id<N)) (λ_ _=>rfl) d a]at this
theorem Ig.trunc(s:Ig X h H w)(hn:N<=θ H)(E:∀e∈H.take N,(e.idsAll λid=>decide (id<N))=ζ):Ig X h (H.take N) w:=by refine⟨λB D_=>⟨(s.out B D_).1,λO=>(s.out B D_).2 (jh O)⟩,λid g G c=>?_,λid L c=>?_,λid A_ e I B i k=>s.inj id A_ e I B (gM i).2 (gM k).2,s.bldKeep λid e c _=>⟨(gM c).2,rfl,rfl,rfl,λ_ _ _ _ _=>rfl⟩⟩;obtain⟨x,n⟩:=s.live id g G (gM c).2;refine⟨x,?_⟩;rcases n with⟨z,rfl⟩|⟨B,p,T,J,f,d,a,l,y,u,b⟩;exact .inl ⟨z,rfl⟩;refine .inr ⟨B,p,T,J,f,d,a,l,y,u,λj v F=>?_⟩;obtain⟨i,k,q⟩:=b j v F;exact⟨i,k,q.trunc hn (Nd (by simpa[FO.idsAll]using E _ (BQ c)) F)⟩;obtain⟨x,B,r,d,a,i,k,q,K,M,o,C⟩:=s.lp id L (gM c).2;refine⟨x,B,r,d,a,i,k,q,K,M,o,λt v m=>⟨(C t v m).1,(C t v m).2.trunc hn ?_⟩⟩;have P:=E _ (BQ c);grind[FO.idsAll]
end
def If:Ψ Oper->Ψ z->Ψ z
 |[],acc=>acc
 |o::r,acc=>If r (acc++[o.after.toList.foldl (λs e=>if Region.binds .any e=ζ then s|||2^e.on|||acc.getD e.on 0 else s) 0])
def QF(m:Ψ z)(i j:z):Bool:=(m.getD j 0).testBit i
def xL{b:Ψ z}{i:z}:∀(l:Ψ Edge)s,(l.foldl (λs e=>if Region.binds .any e=ζ then s|||2^e.on|||b.getD e.on 0 else s) s).testBit i=ζ→
  s.testBit i=ζ\/∃e∈l,Region.binds .any e=ζ/\(e.on=i\/(b.getD e.on 0).testBit i=ζ)
 |[],s,h=>.inl h
 |e::l,s,h=>by simp only[mw]at h;rcases xL l _ h with a|⟨f,d,c,g⟩;split at a;rename_i c;simp only[Nat.testBit_or,Wy,Nat.testBit_two_pow]at a;rcases a with(a|a)|a;exact .inl a;exact .inr ⟨e,k!,c,.inl (by simpa using a)⟩;exact .inr ⟨e,k!,c,.inr a⟩;exact .inl a;exact .inr ⟨f,CQ _ d,c,g⟩
theorem Yy:∀l(a:Ψ z),(∀k,k<θ a→(If l a)[k]?=a[k]?)∧
  ∀(p i:z)(o:Oper),l[p]?=D o->QF (If l a) i (θ a+p)=ζ->∃e∈o.after.toList,Region.binds .any e=ζ/\(e.on=i\/(e.on<θ a+p/\QF (If l a) i e.on=ζ))
 |[],a=>⟨λ_ _=>rfl,λp i o h=>by simp at h⟩
 |o::l,a=>by
  simp only[If];generalize g:o.after.toList.foldl (λs e=>if Region.binds .any e=ζ then s|||2^e.on|||a.getD e.on 0 else s) 0=x;obtain⟨m,c⟩:=Yy l (a++[x]);refine⟨λk r=>?_,λp i j t b=>?_⟩;grind;cases p with
  |zero=>
   have f:(If l (a++[x])).getD (θ a) 0=x:=q!
   simp only[QF,Lc]at b;rw[f,<-g]at b;rcases xL _ _ b with d|⟨e,q,n,d⟩;grind;grind[QF]
  |succ p=>have:=c p i j q! q!;rw[show(a++[x]).length+p=θ a+(p+1)from by simp;omega]at this;exact this
section
variable {ops:Array Oper}
def yA(ops:Array Oper)(L:Array Bool):Prop:=∀(j:z)(o:Oper),ops[j]?=D o->L.getD j η=ζ->∀e∈o.after,Region.binds .any e=ζ->L.getD e.on η=ζ
def gG{L}(k:yA ops L){i}:∀(n j:z)(o:Oper),j<n->ops[j]?=D o->(∀e∈o.after,Region.binds .any e=ζ->L.getD e.on η=ζ)->QF (If ops.toList []) i j=ζ->L.getD i η=ζ
 |0,_,_,h,_,_,_=>o!
 |n+1,j,o,hj,ho,hp,hm=>by
  obtain⟨e,r,q,h⟩:=(Yy ops.toList []).2 j i o (by simpa using ho) (by simpa using hm);have a:=hp e (by simpa using r) q;rcases h with rfl|⟨g,c⟩;exact a;have l:e.on<j:=by simpa using g
  cases b:ops[e.on]? with
  |none=>have:QF (If ops.toList []) i e.on=ζ:=c;obtain⟨s,_⟩:=dU.1 ho;rw[zg]at b;omega
  |some m=>exact gG k n e.on m o! b (λp f d=>k e.on m b a p f d) c
def tmpsOf(o:Oper):Ψ z:=o.op.operands.toList.filterMap λ|.tmp t=>D t|_=>A
def ai(P:Program)(N:z)(o:Oper)(env:Env)(H:As)(rd:Ψ z)(v:AZ):Prop:=
 ∀(env':Env)(H':As),(∀t∈tmpsOf o,env'.get t=env.get t)->(∀id∈rd,H'[id]?=H[id]?)->Jn P N o env' H' λu H''=>u=v/\H''=H'
def Eff(P:u)(N:z)(o:Oper)(env:Env)(H:As)(F:Ψ z)(K:AZ->As->Prop):Prop:=
 (∀env':Env,(∀t∈tmpsOf o,env'.get t=env.get t)->Jn P N o env' H K)/\∀v H',K v H'->∀id,id<θ H->id∉F->H'[id]?=H[id]?
def IT(ops:Array Oper)(j:z):Bool:=
 match ops[j]? with
 |some o=>match o.op with|.alloc _=>ζ|_=>η
 |none=>η
def RA(P:u)(N:Nat)(ops:Array Oper):Ψ Nat->Ψ (Nat×Ψ Nat)->Env->As->(Env->As->Prop)->Prop
 |[],_,env,H,Q=>Q env H
 |i::r,pend,env,H,Q=>
  match ops[i]? with
  |none=>False
  |some o=>
   Y5 ops o.guard env
    ((IT ops i=η/\∃v rd,ai P N o env H rd v/\(∀id∈rd,id<θ H)/\RA P N ops r ((i,rd)::pend) (env.putO o.dst v) H Q)\/
     (IT ops i=η/\∃F,(∀j∈r,QF (If ops.toList []) i j=ζ\/IT ops j=ζ)/\(∀p∈pend,QF (If ops.toList []) p.1 i=ζ\/∀id∈p.2,id∉F)/\
      ∃K,Eff P N o env H F K/\(∀v H',K v H'->θ H<=θ H')/\∀v H',K v H'->RA P N ops r pend (env.putO o.dst v) H' Q)\/
     ∃t z,o.op=.alloc t/\Z0 P t=D z/\(∀j∈r,QF (If ops.toList []) i j=ζ\/IT ops j=ζ)/\RA P N ops r pend (env.putO o.dst (.ptr (θ H) 0 0)) (H++[.live 0 z]) Q)
    (IT ops i=η/\RA P N ops r ((i,[])::pend) (env.putO o.dst (.tup [])) H Q)
def XN(P:u)(ops:Array Oper):Bool:=ops.toList.all λo=>match o.op with|.alloc t=>(Z0 P t).isSome&&o.guard.isNone|_=>ζ
def WZ(ops:Array Oper)(i:z):Ω z:=(ops[i]?).bind (·.dst)
def ADG(ops:Array Oper)(N:z)(l:Ψ z):Bool:=
 let m:=If ops.toList []
 let n:=ops.size
 Ps N ops.toList&&
 (decide l.Nodup&&((List.range n).all λi=>l.contains i)&&l.all (λi=>decide (i<n)))&&
 ((List.range n).all λi=>match ops[i]? with
  |some o=>(o.after.toList.all λe=>!Region.binds .any e||decide (e.on<i))&&
    (match o.guard with|some (j,_)=>QF m j i&&τ (j<n)&&(WZ ops j).isSome|none=>ζ)&&
    (match o.dst with
     |some d=>(List.range n).all λj=>decide (j=i)||(match ops[j]? with
       |some o'=>! τ (o'.dst=D d)&&(!(tmpsOf o').contains d||QF m i j||QF m j i)
       |none=>ζ)
     |none=>ζ)
  |none=>ζ)&&
 (l.zipIdx.all λ(i,p)=>l.zipIdx.all λ(j,q)=>! τ (p<q)|| !QF m j i)
theorem GD(env:Env)(t u:z)(v:AZ):(env.put t v).get u=if u=t then v else env.get u:=by unfold Env.put;simp only[Env.get];by_cases h:t=u;grind;rw[D! h,D! (h ·.symm)];induction env<;>grind[Env.get]
def KN(env:Env):Prop:=∀t v,(t,v)∈env->env.get t=v
theorem KN.put(h:KN g)(t:z)(v:AZ):KN (g.put t v):=by
 intro u x m;rw[GD];rcases A3.1 m with e|m;grind;obtain⟨a,b⟩:=BZ.1 m;have:u≠t:=q!
 rw[D! this];exact h u x a
def KN.putO(h:KN g)(t:Ω z)(v:AZ):KN (g.putO t v):=by
 cases t with
 |none=>exact h
 |some t=>exact h.put t v
theorem fJ:∀{env:Env},(env.map (·.1)).Nodup->KN env
 |[],_=>λ_ _ h=>by cases h
 |(k,w)::r,h=>by
  simp at h;intro t v m;simp only[Env.get];rcases A3.1 m with e|m;grind;have:k≠t:=q!
  rw[D! this];exact fJ h.2 t v m
end
structure YH(ops:Array Oper)(N:Nat)(l:List Nat):Prop where
 dsts:Ps N ops.toList=true
 nodup:l.Nodup
 all:∀i,i<ops.size->i∈l
 lt:∀i∈l,i<ops.size
 back:∀(i:Nat)(o:Oper),ops[i]?=some o->∀e∈o.after,Region.binds .any e=true->e.on<i
 guard:∀(i:Nat)(o:Oper)(j:Nat)(b:Bool),ops[i]?=some o->o.guard=some (j,b)->QF (If ops.toList []) j i=true/\j<ops.size/\∃d,WZ ops j=some d
 uniq:∀(i j d:Nat),WZ ops i=some d->WZ ops j=some d->i=j
 haz:∀(i j d:Nat)(o:Oper),WZ ops i=some d->ops[j]?=some o->d∈tmpsOf o->i≠j->QF (If ops.toList []) i j=true\/QF (If ops.toList []) j i=true
 ord:∀(l1 l2:List Nat),l=l1++l2->∀i∈l1,∀j∈l2,QF (If ops.toList []) j i=false
theorem ZM(h:WZ q N=D t):∃o,q[N]?=D o/\o.dst=D t:=by grind[WZ]
theorem XE{i:z}(h:q[i]?=D o):i<q.size:=q!
theorem ACC(h:ADG q N l=ζ):YH q N l:=by
 unfold ADG at h;simp only[BS]at h;obtain⟨⟨⟨x,⟨y,M⟩,z⟩,A_⟩,B⟩:=h;have a:∀(i:Nat)(o:Oper),q[i]?=D o->_:=λi o f=>by have:=F6.1 A_ i (H5.2 (XE f));rw[f]at this;simp only[BS]at this;exact this
 refine⟨x,by simpa using y,λi c=>?_,λi c=>by simpa using List.all_eq_true.1 z i c,λi o f e E C=>?_,λi o j b f F=>?_,λi j d c k=>?_,λi j d o c k n G=>?_,λl1 l2 w i c j k=>?_⟩;simp_all;have:=F6.1 (a i o f).1.1 e (by simpa using E);simpa[C]using this;have:=(a i o f).1.2;rw[F]at this;simp only[BS,K!]at this;exact⟨this.1.1,this.1.2,gb.1 this.2⟩;obtain⟨o,f,n⟩:=ZM c;obtain⟨O,m,r⟩:=ZM k;have:=(a i o f).2;rw[n]at this;have:=F6.1 this j (H5.2 (XE m));rw[m]at this;simp only[r,decide_true,Ce,qg,Bool.or_false,K!]at this;exact this.symm;obtain⟨L,u,s⟩:=ZM c;have:=(a i L u).2;rw[s]at this;have:=F6.1 this j (H5.2 (XE k));rw[k]at this;have D_:(tmpsOf o).contains d=ζ:=by simpa using n
 simp only[D_,Ce,Bool.false_or,Wy,K!,BS]at this;rcases this with h|⟨_,h⟩;omega;exact h;obtain⟨p,H⟩:=Cu c;obtain⟨g,I⟩:=Cu k;have v:p<θ l1:=q!
 have J:(i,p)∈l.zipIdx:=by rw[uQ];rw[w,CW v];exact H
 have K:(j,θ l1+g)∈l.zipIdx:=by rw[uQ];rw[w,Cm o!];simpa using I
 have:=F6.1 (F6.1 B _ J) _ K;have t:p<θ l1+g:=o!
 simpa[t]using this
section
variable {P:Program}{N:Nat}{ops:Array Oper}{l:Ψ Nat}{Q:Env->As->Prop}{env0:Env}{X:Nat->Prop}{h0:Gh}{H0:As}{w0:World}{ds0:Ψ Deferred}
def Opd(ops:Array Oper)(env0:Env)(v:z->AZ)(i:z)(o:Oper)(ei:Env):Prop:=
 ∀t∈tmpsOf o,(∀k,k≠i->WZ ops k=D t->QF (If ops.toList []) k i=ζ->ei.get t=v k)/\
  ((∀k,k≠i->WZ ops k=D t->QF (If ops.toList []) k i=η)->ei.get t=env0.get t)
def VO(v:z->AZ)(o:Oper)(r:Bool):Prop:=
 match o.guard with
 |none=>r=ζ
 |some (j,want)=>(∃b,v j=.bool b/\r=(b==want))\/(v j=.tup []/\r=η)
def XR(X:z->Prop)(early:z->Ω z)(B:z):Prop:=X B\/∃i,early i=D B
structure Inv(P:Program)(N:Nat)(ops:Array Oper)(l:List Nat)(Q:Env→As→Prop)(env0:Env)(X:Nat→Prop)(h0:Gh)(H0:As)(w0:World)(ds0:List Deferred)
  (l1 l2:List Nat) (v:Nat->AZ) (pend:List (Nat×List Nat)) (env:Env) (H:As) (h:Gh) (early:Nat->Option Nat) (L:Array Bool) (a:Act) (w:World):Prop where
 split:l=l1++l2
 ra:RA P N ops l2 pend env H Q
 kn:KN env
 keys:∀t u,(t,u)∈env->t<N
 env1:∀k∈l1,∀t,WZ ops k=some t->env.get t=v k
 env2:∀t,(∀k∈l1,WZ ops k≠some t)->env.get t=env0.get t
 sim:Ig (XR X early) h H w
 nodefer:a.defers=ds0
 size:a.tmps.size=N
 slot1:∀k t,L.getD k false=true->early k=none->WZ ops k=some t->Bv (cx (XR X early) h H w) (v k) (a.tmps.getD t undef)
 slot2:∀t,(∀k,L.getD k false=true->WZ ops k≠some t)->Bv (cx (XR X early) h H w) (env0.get t) (a.tmps.getD t undef)
 sub:∀i,L.getD i false=true->early i=none->i∈l1
 lsz:L.size=ops.size
 closed:yA ops L
 pendq:∀i∈l1,L.getD i false=false->∃o,ops[i]?=some o/\IT ops i=false/\((VO v o false/\v i=.tup [])\/
  (VO v o true/\∃rd ei,(i,rd)∈pend/\(∀id∈rd,id<H.length)/\KN ei/\(∀t u,(t,u)∈ei->t<N)/\Opd ops env0 v i o ei/\ai P N o ei H rd (v i)))
 ext:G3 h0 H0 w0 h H w
 early1:∀i B,early i=some B->i∈l2/\L.getD i false=true/\w0.heap.size<=B/\B<w.heap.size/\∃(o:Oper)(t:TypeId)(z:List AZ)(arr:Array Value),ops[i]?=some o/\o.op=.alloc t/\Z0 P t=some z/\
  w.heap[B]?=some (.cells arr t (0,0))/\Bv (cx (XR X early) h H w) (.agg z) (.agg arr)/\∀d,o.dst=some d->a.tmps.getD d undef=.pointer (some ⟨B,0,none⟩)
 early2:∀i j B,early i=some B->early j=some B->i=j
def look(o:Oper)(ei:Env):Env:=ei.filter λp=>(tmpsOf o).contains p.1
theorem AAa(o:Oper)(a:Env):∀t∈tmpsOf o,(look o a).get t=a.get t:=by unfold look;induction a<;>grind[Env.get]
variable {l1 l2:Ψ Nat}{v:Nat->AZ}{pend:Ψ (Nat×Ψ Nat)}{env:Env}{H:As}{h:Gh}{early:Nat->Ω Nat}{L:Array Bool}{a:Act}{w:World}
def Inv.opd(ok:YH ops N l)(I:Inv P N ops l Q env0 X h0 H0 w0 ds0 l1 l2 v pend env H h early L a w){r:Ψ z}(m:l2=t::r)(s:ops[t]?=D o):Opd ops env0 v t o env:=by
 intro i u;have n:t∉l1:=by intro b;have:=ok.nodup;rw[I.split,m]at this;exact(H6.1 this).2.2 t b t k! rfl
 refine⟨λk q c g=>?_,λp=>?_⟩;refine I.env1 k ?_ i c;obtain⟨x,f,_⟩:=ZM c;have b:=ok.all k (XE f);rw[I.split,Al]at b;rcases b with b|b;exact b;rw[m]at b;rcases A3.1 b with e|b;exact(q e).elim;have:=ok.ord (l1++[t]) r (by rw[I.split,m];simp) t k! k b;rw[g]at this;cases this;refine I.env2 i λk b c=>?_;have d:k≠t:=λe=>n (e▸b);rcases ok.haz k t i o c s u d with j|j;rw[p k d c]at j;cases j;have:=ok.ord l1 l2 I.split k b t (by rw[m];simp);rw[j]at this;cases this
def Inv.look(ok:YH ops N l)(I:Inv P N ops l Q env0 X h0 H0 w0 ds0 l1 l2 v pend env H h early L a w)(y:ops[t]?=D o)(p:L.getD t η=η)
  (J:∀e∈o.after,Region.binds .any e=ζ->L.getD e.on η=ζ) (x:∀k,QF (If ops.toList []) k t=ζ->early k=A)  (kn:KN g) (G:∀q u,(q,u)∈g->q<N) (n:Opd ops env0 v t o g):PW (cx (XR X early) h H w) (look o g) a:=by
 intro q u m;obtain⟨B,K⟩:=BZ.1 m;have z:q∈tmpsOf o:=by simpa using K
 refine⟨by rw[I.size];exact G q u B,?_⟩;rw[<-kn q u B];obtain⟨D_,E⟩:=n q z;by_cases A_:∃k,k≠t/\WZ ops k=D q/\QF (If ops.toList []) k t=ζ;obtain⟨k,b,d,c⟩:=A_;rw[D_ k b d c];exact I.slot1 k q (gG I.closed (t+1) t o o! y J c) (x k c) d;have i:∀k,k≠t->WZ ops k=D q->QF (If ops.toList []) k t=η:=by
  intro k b d;cases s:QF (If ops.toList []) k t with
  |false=>rfl
  |true=>exact(A_ ⟨k,b,d,s⟩).elim
 rw[E i];refine I.slot2 q λk f d=>?_;by_cases b:k=t;subst b;rw[p]at f;cases f;rcases ok.haz k t q o d y z b with r|r;rw[i k b d]at r;cases r;obtain⟨C,j,_⟩:=ZM d;have:=gG I.closed (k+1) k C o! j (λe F s=>I.closed k C j f e F s) r;rw[p]at this;cases this
theorem Inv.wanted(ok:YH ops N l)(I:Inv P N ops l Q env0 X h0 H0 w0 ds0 l1 l2 v pend env H h early L a w)(z:ops[t]?=D o)(i:∀k,QF (If ops.toList []) k t=ζ→early k=A)
  (D_:∀e∈o.after,Region.binds .any e=ζ->L.getD e.on η=ζ)  (x:VO v o s):Region.wanted o (yielded ops a.tmps)=s:=by
 unfold VO at x;unfold Region.wanted;cases y:o.guard with
 |none=>grind
 |some p=>
  obtain⟨j,n⟩:=p;rw[y]at x;obtain⟨f,G,d,q⟩:=ok.guard t o j n z y;have r:=gG I.closed (t+1) t o o! z D_ f;have hr:=I.slot1 j d r (i j f) q;have B:d<a.tmps.size:=by obtain⟨F,C,A_⟩:=ZM q;have:=F6.1 ok.dsts F q!;grind[I.size]
  rcases x with⟨b,u,rfl⟩|⟨u,rfl⟩
  case inr=>
   rw[u]at hr;obtain⟨m,g⟩:∃m,a.tmps.getD d undef=.tuple m:=by generalize a.tmps.getD d undef=c at hr;cases hr;grind
   have E:yielded ops a.tmps j=A:=by unfold yielded;rw[show(ops[j]?).bind (·.dst)=D d from q];simp_all
   grind
  rw[u]at hr;have g:a.tmps.getD d undef=.bool b:=by generalize a.tmps.getD d undef=c at hr;cases hr;rfl
  have E:yielded ops a.tmps j=D b:=by unfold yielded;rw[show(ops[j]?).bind (·.dst)=D d from q];simp_all
  grind
def Inv.noEarly(ok:YH ops N l)(I:Inv P N ops l Q env0 X h0 H0 w0 ds0 l1 l2 v pend env H h early L a w)(d:t∈l1\/∃r,l2=t::r):∀k,QF (If ops.toList []) k t=ζ->k≠t->early k=A:=by
 intro k c f;cases g:early k with
 |none=>rfl
 |some B=>have b:=(I.early1 k B g).1;rcases d with d|⟨r,rfl⟩;have:=ok.ord l1 l2 I.split t d k b;rw[c]at this;cases this;rcases A3.1 b with e|b;exact(f e).elim;have:=ok.ord (l1++[t]) r (by rw[I.split];simp) t k! k b;rw[c]at this;cases this
theorem HH{i:z}(a:i<L.size)(j:z):(L.setIfInBounds i ζ).getD j η=if j=i then ζ else L.getD j η:=by rw[Ra,Ra];grind
theorem Tr(b:∀t,j=D t->t<a.tmps.size)(t:z):(a.put j c).tmps.getD t undef=if j=D t then c else a.tmps.getD t undef:=by
 cases j with
 |none=>simp[Act.put]
 |some j=>simp only[Act.put];rw[Ra,Ra];grind
theorem og(f:yA ops L)(h:N<L.size)(l:ops[N]?=D o)(m:∀e∈o.after,Region.binds .any e=ζ->L.getD e.on η=ζ):yA ops (L.setIfInBounds N ζ):=by intro j k c a e g d;rw[HH h]at a⊢;by_cases b:j=N;grind;rw[D! b]at a;rw[f j k c a e g d];simp
end
section
variable {P:Program}{N:Nat}{ops:Array Oper}{l:Ψ Nat}{Q:Env->As->Prop}{env0:Env}{X:Nat->Prop}{h0:Gh}{H0:As}{w0:World}{ds0:Ψ Deferred}
variable {l1 l2:Ψ Nat}{v:Nat->AZ}{pend:Ψ (Nat×Ψ Nat)}{env:Env}{H:As}{h:Gh}{early:Nat->Ω Nat}{L:Array Bool}{a:Act}{w:World}
theorem rN(ok:YH ops N l)(a:ops[t]?=D o):∀i,o.dst=D i->i<N:=by have:=F6.1 ok.dsts o q!;grind
theorem Fz(a:ops[N]?=D o):WZ ops N=o.dst:=by grind[WZ]
def Inv.done(ok:YH ops N l)(I:Inv P N ops l Q env0 X h0 H0 w0 ds0 l1 l2 v pend env H h early L a w){i:Nat}(p:ops[i]?=δ o)(r:i∈l1)(ad:L.getD i η=η)
  (hp:∀e∈o.after,Region.binds .any e=ζ->L.getD e.on η=ζ)  {A:Gh}  (sim:Ig (XR X early) A H G) (x:G3 h H w A H G) (hv:Bv (cx (XR X early) A H G) (v i) c):
  Inv P N ops l Q env0 X h0 H0 w0 ds0 l1 l2 v pend env H A early (L.setIfInBounds i ζ) (a.put o.dst c) G:=by
 have n:i<L.size:=by rw[I.lsz];exact XE p
 have F:∀t,o.dst=δ t->t<a.tmps.size:=λt ht=>by rw[I.size];exact rN ok p t ht
 have O:=x.later (XR X early);have s:i∉l2:=by intro hm;have:=ok.nodup;rw[I.split]at this;exact(H6.1 this).2.2 i r i hm rfl
 refine{split:=I.split,ra:=I.ra,kn:=I.kn,keys:=I.keys,env1:=I.env1,env2:=I.env2,sim:=sim,nodefer:=?_,size:=(gI _ _ _).trans I.size,slot1:=λk t m M f=>?_,slot2:=λt y=>?_,sub:=λj C J=>?_,lsz:=by rw[qb];exact I.lsz,closed:=og I.closed n p hp,pendq:=λk K g=>?_,ext:=I.ext.trans x,early1:=λk B m=>?_,early2:=I.early2};rw[show(a.put o.dst c).defers=a.defers by cases o.dst<;>rfl];exact I.nodefer;rw[Tr F];rw[HH n]at m;by_cases b:k=i;subst b;rw[Fz p]at f;rw[C! f];exact hv;rw[D! b]at m;rw[D! (λe=>b (ok.uniq k i t f (by rw[Fz p];exact e)))];exact(I.slot1 k t m M f).later O;rw[Tr F];have R:o.dst≠δ t:=by have:=y i (by rw[HH n,C! rfl]);rwa[Fz p]at this
 rw[D! R];refine(I.slot2 t λk m=>y k ?_).later O;rw[HH n];split;rfl;exact m;rw[HH n]at C;by_cases u:j=i;subst u;exact r;rw[D! u]at C;exact I.sub j C J;rw[HH n]at g;by_cases b:k=i;subst b;simp at g;rw[D! b]at g;exact I.pendq k K g;obtain⟨S,V,W,T,o',t,z,D,U,Y,Z,e8,e9,E⟩:=I.early1 k B m;have b:k≠i:=λe=>s (e▸S);refine⟨S,by rw[HH n,D! b];exact V,W,DG T x.size,o',t,z,D,U,Y,Z,?_,e9.later O,λd q=>?_⟩;exact(x.keep B T (I.sim.out B (.inr ⟨k,m⟩)).2).trans e8;rw[Tr F,D! (λe=>b (ok.uniq k i d (by rw[Fz U];exact q) (by rw[Fz p];exact e)))];exact E d q
def Inv.next(ok:YH ops N l)(I:Inv P N ops l Q env0 X h0 H0 w0 ds0 l1 l2 v pend env H h early L a w){i:Nat}{r:Ψ Nat}(hl:l2=i::r)(V:ops[i]?=D o){pend':Ψ (Nat×Ψ Nat)}
  (G:IT ops i=η) (bl:RA P N ops r pend' (env.putO o.dst d) H Q) (bb:∀p∈pend,p∈pend')
  (hq:(VO v o η/\d=.tup [])\/(VO v o ζ/\∃rd,(i,rd)∈pend'/\(∀id∈rd,id<θ H)/\ai P N o env H rd d)):
  ∃T,Inv P N ops l Q env0 X h0 H0 w0 ds0 (l1++[i]) r T pend' (env.putO o.dst d) H h early L a w:=by
 have a0:=I.opd ok hl V;have ar:=ok.nodup;rw[I.split,hl]at ar;have Z:i∉l1:=λhm=>(H6.1 ar).2.2 i hm i k! rfl;have ao:early i=A:=by
  cases he:early i with
  |none=>rfl
  |some B=>obtain⟨_,_,_,_,o',t,z,bz,e5,e6,_⟩:=I.early1 i B he;unfold IT at G;rw[e5]at G;simp only[e6]at G;cases G
 have bt:L.getD i η=η:=by
  cases R:L.getD i η with
  |false=>rfl
  |true=>exact(Z (I.sub i R ao)).elim
 let T:Nat->AZ:=λk=>if k=i then d else v k;have F:∀k,k≠i->T k=v k:=λk g=>by simp[T,g]
 have a1:T i=d:=by simp[T]
 have U:∀t,(env.putO o.dst d).get t=if o.dst=D t then d else env.get t:=by
  intro t;cases o.dst with
  |none=>simp[Env.putO]
  |some u=>simp only[Env.putO,GD,Ap];by_cases h:u=t;subst h;simp;rw[D! h,D! (h ·.symm)]
 have ag:QF (If ops.toList []) i i=ζ->False:=by
  intro R;obtain⟨e,he,bG,K⟩:=(Yy ops.toList []).2 i i o (by simpa using V) (by simpa using R);have al:∀(n j k:Nat),j<n->QF (If ops.toList []) k j=ζ->k<j:=by
   intro n;induction n with
   |zero=>intro j k h;omega
   |succ n ih=>
    intro j k hj R;cases ad:ops[j]? with
    |none=>
     have bm:ops.size<=j:=zg.1 ad;have ap:∀l O,(If l O).length=θ O+θ l:=by
      intro l;induction l with
      |nil=>intro O;rfl
      |cons o l ih=>intro O;simp only[If,ih];simp;omega
     have:(If ops.toList []).getD j 0=0:=by rw[R7,Cn (by rw[ap];simpa using bm)];rfl
     unfold QF at R;rw[this]at R;simp at R
    |some oj=>obtain⟨e,he,a3,A_⟩:=(Yy ops.toList []).2 j k oj (by simpa using ad) (by simpa using R);have bN:=ok.back j oj ad e (by simpa using he) a3;rcases A_ with A_|⟨A_,h3⟩;omega;have:=ih e.on k o! h3;omega
  have:=al (i+1) i i o! R;omega
 have a2:∀{k:Nat}{y:Oper}{ei},k∈l1->ops[k]?=D y->Opd ops env0 v k y ei->Opd ops env0 T k y ei:=by intro k y ei a5 S a' t ht;obtain⟨c1,c2⟩:=a' t ht;refine⟨λq hq M C=>?_,c2⟩;rw[c1 q hq M C,F];rintro rfl;have:=ok.ord l1 l2 I.split k a5 q (by rw[hl];simp);rw[C]at this;cases this
 have f:∀{o':Oper}{b},(∀j c,o'.guard=D (j,c)->j≠i)->VO v o' b->VO T o' b:=by
  intro o' b a9 hw;unfold VO at hw⊢;cases Y:o'.guard with
  |none=>rw[Y]at hw;exact hw
  |some p=>obtain⟨j,c⟩:=p;rw[Y]at hw;simp only at hw⊢;rw[F j (a9 j c Y)];exact hw
 refine⟨T,{split:=by rw[I.split,hl];simp,ra:=bl,kn:=I.kn.putO _ _,keys:=λt x m=>?_,env1:=λk g t M=>?_,env2:=λt ax=>?_,sim:=I.sim,nodefer:=I.nodefer,size:=I.size,slot1:=λk t g a7 M=>?_,slot2:=I.slot2,sub:=λj hj a4=>FA _ (I.sub j hj a4),lsz:=I.lsz,closed:=I.closed,pendq:=λk g a8=>?_,ext:=I.ext,early1:=λk B g=>?_,early2:=I.early2}⟩;cases J:o.dst with
 |none=>rw[J]at m;exact I.keys t x m
 |some u=>rw[J]at m;simp only[Env.putO,Env.put]at m;rcases A3.1 m with e|m;injection e with e1 _;subst e1;exact rN ok V t J;exact I.keys t x (BZ.1 m).1
 rw[U];rcases Al.1 g with g|g;have D_:k≠i:=λe=>Z (e▸g);rw[F k D_,D! (λe=>D_ (ok.uniq k i t M (by rw[Fz V];exact e)))];exact I.env1 k g t M;have:k=i:=by simpa using g
 subst this;rw[Fz V]at M;rw[C! M,a1];rw[U];have K:o.dst≠D t:=by have:=ax i k!;rwa[Fz V]at this
 rw[D! K];exact I.env2 t λk g=>ax k (FA _ g);have D_:k≠i:=by rintro rfl;rw[bt]at g;cases g
 rw[F k D_];exact I.slot1 k t g a7 M;rcases Al.1 g with E|E;have D_:k≠i:=λe=>Z (e▸E);obtain⟨y,S,a6,W⟩:=I.pendq k E a8;have s:∀j c,y.guard=D (j,c)->j≠i:=by rintro j c Y rfl;have:=(ok.guard k y j c S Y).1;have A_:=ok.ord l1 l2 I.split k E j (by rw[hl];simp);rw[this]at A_;cases A_
 refine⟨y,S,a6,?_⟩;rw[F k D_];rcases W with⟨K,A_⟩|⟨K,rd,ei,A_,h3,h4,h5,h6,h7⟩;exact .inl ⟨f s K,A_⟩;exact .inr ⟨f s K,rd,ei,bb _ A_,h3,h4,h5,a2 E S h6,h7⟩;have:k=i:=by simpa using E
 subst this;have s:∀j c,o.guard=D (j,c)->j≠k:=by rintro j c Y rfl;exact ag (ok.guard j o j c V Y).1
 refine⟨o,V,G,?_⟩;rw[a1];rcases hq with⟨K,A_⟩|⟨K,rd,A_,h3,h4⟩;exact .inl ⟨f s K,A_⟩;refine .inr ⟨f s K,rd,env,A_,h3,I.kn,I.keys,λt ht=>?_,h4⟩;obtain⟨c1,c2⟩:=a0 t ht;exact⟨λq hq M C=>by rw[c1 q hq M C,F q hq],c2⟩;obtain⟨e1,e2⟩:=I.early1 k B g;rw[hl]at e1;rcases A3.1 e1 with e|e1;rw[e,ao]at g;cases g;exact⟨e1,e2⟩
def Inv.guardW(ok:YH ops N l)(I:Inv P N ops l Q env0 X h0 H0 w0 ds0 l1 l2 v pend env H h early L a w){r:Ψ Nat}(G:l2=t::r)(D_:ops[t]?=D o){B:Prop}(c:Y5 ops o.guard env U B):
  (VO v o ζ/\U)\/(VO v o η/\B):=by
 unfold Y5 at c;unfold VO;cases A_:o.guard with
 |none=>rw[A_]at c;exact .inl ⟨rfl,c⟩
 |some p=>
  obtain⟨j,g⟩:=p;rw[A_]at c;simp only at c⊢;obtain⟨f,S,d,K⟩:=ok.guard t o j g D_ A_;have F:j∈l1:=by
   have m:=ok.all j S;rw[I.split,Al]at m;rcases m with m|m;exact m;rw[G]at m;rcases A3.1 m with e|m;subst e;have J:=ok.back;exfalso;have C:=I.opd ok G D_;obtain⟨e,M,R,V⟩:=(Yy ops.toList []).2 j j o (by simpa using D_) (by simpa using f);have x:∀(n q k:Nat),q<n->q<=j->QF (If ops.toList []) k q=ζ->k<q:=by
    intro n;induction n with
    |zero=>intro q k h;omega
    |succ n i=>
     intro q k W T u;have y:q<ops.size:=by have:=XE D_;omega
     obtain⟨e,M,E,C⟩:=(Yy ops.toList []).2 q k ops[q] (by simp[y]) (by simpa using u);have J:=ok.back q ops[q] (by simp[y]) e (by simpa using M) E;rcases C with C|⟨C,O⟩;omega;have:=i e.on k o! o! O;omega
   have:=x (j+1) j j o! (Am _) f;omega;have:=ok.ord (l1++[t]) r (by rw[I.split,G];simp) t k! j m;rw[f]at this;cases this
  have z:Xg ops env j=v j:=by unfold Xg;rw[show(ops[j]?).bind (·.dst)=D d from K];exact I.env1 j F d K
  rw[z]at c;split at c;rename_i b u;by_cases s:b=g;exact .inl ⟨.inl ⟨b,u,by simp[s]⟩,c.1 s⟩;exact .inr ⟨.inl ⟨b,u,by simp[s]⟩,c.2 (by cases b<;>cases g<;>simp_all)⟩;rename_i u;exact .inr ⟨.inr ⟨u,P!⟩,c⟩;exact c.elim
end
section
variable {P:Program}{N:Nat}{ops:Array Oper}{l:Ψ Nat}{Q:Env->As->Prop}{env0:Env}{X:Nat->Prop}{h0:Gh}{H0:As}{w0:World}{ds0:Ψ Deferred}
theorem Xh(a:ops[N]?=D o):IT ops N=ζ↔∃t,o.op=.alloc t:=by grind[IT]
theorem gd(h:XN P ops=ζ)(i:ops[N]?=D o)(a:o.op=.alloc b):(∃z,Z0 P b=D z)/\o.guard=A:=by have:=F6.1 h o (by rw[Array.mem_toList_iff];exact wj i);rw[a]at this;simp at this;grind[Option.isSome_iff_exists]
def Inv.adopt(ok:YH ops N l)(ha:XN P ops=ζ)(hX:∀B,X B→B<w0.heap.size){l1:Ψ Nat}{v:Nat→AZ}{a6:Ψ (Nat×Ψ Nat)}{env:Env}{H:As}{h:Gh}{early:Nat→Ω Nat}{L:Array Bool}{a:Act}{w:World}
  {i:Nat}{r:Ψ Nat} (I:Inv P N ops l Q env0 X h0 H0 w0 ds0 l1 (i::r) v a6 env H h early L a w) {B:Nat} (hB:early i=D B):
  ∃v' ad H' h' c,Inv P N ops l Q env0 X h0 H0 w0 ds0 (l1++[i]) r v' a6 ad H' h' c L a w:=by
 obtain⟨e1,e2,e3,e4,o,t,z,U,R,ao,hz,bG,b8,bm⟩:=I.early1 i B hB;have ci:IT ops i=ζ:=(Xh R).2 ⟨t,ao⟩;have hg:=(gd ha R ao).2;have a1:=I.ra;simp only[RA,R,hg,Y5,ci,Bool.true_eq_false,false_and,false_or]at a1;obtain⟨M,z',a4,cb,_,a1⟩:=a1;rw[ao]at a4;injection a4 with et;subst et;rw[hz]at cb;injection cb with ez;subst ez;have b7:=ok.nodup;rw[I.split]at b7;have b2:i∉l1:=λhm=>(H6.1 b7).2.2 i hm i k! rfl;let u:AZ:=.ptr (θ H) 0 0;let v':Nat->AZ:=λk=>if k=i then u else v k;have ar:∀k,k≠i->v' k=v k:=λk O=>by simp[v',O]
 have b':v' i=u:=by simp[v']
 let c:Nat->Ω Nat:=λk=>if k=i then A else early k;have W:∀k C,c k=D C->k≠i/\early k=D C:=by intro k C O;simp only[c]at O;split at O;cases O;exact⟨v!,O⟩
 have a2:∀t,(env.putO o.dst u).get t=if o.dst=D t then u else env.get t:=by
  intro t;cases o.dst with
  |none=>simp[Env.putO]
  |some d=>simp only[Env.putO,GD,Ap];by_cases h:d=t;subst h;simp;rw[D! h,D! (h ·.symm)]
 have ce:∀{k:Nat}{K:Oper}{ei},k∈l1->ops[k]?=D K->Opd ops env0 v k K ei->Opd ops env0 v' k K ei:=by intro k K ei a9 a0 ao t ht;obtain⟨c1,c2⟩:=ao t ht;refine⟨λq hq hd a5=>?_,c2⟩;rw[c1 q hq hd a5,ar];rintro rfl;have:=ok.ord l1 (q::r) I.split k a9 q k!;rw[a5]at this;cases this
 have T:∀{o':Oper}{b},(∀j D_,o'.guard=D (j,D_)->j≠i)->VO v o' b->VO v' o' b:=by
  intro o' b bl hw;unfold VO at hw⊢;cases hg:o'.guard with
  |none=>rw[hg]at hw;exact hw
  |some p=>obtain⟨j,D_⟩:=p;rw[hg]at hw;simp only at hw⊢;rw[ar j (bl j D_ hg)];exact hw
 have ap:∀C,owned (h.at_ (θ H) (D B) 0 U.size) (H++[.live 0 z]) C->owned h H C\/C=B:=by rintro C ⟨id,e,he,bl,S⟩;rcases JK he with⟨s,he⟩|⟨rfl,rfl⟩;exact .inl ⟨id,e,he,bl,by simpa[Gh.at_,Bj s]using S⟩;simp[Gh.at_]at S;exact .inr S.symm
 have hl:(cx (XR X early) h H w).Later (cx (XR X c) (h.at_ (θ H) (D B) 0 U.size) (H++[.live 0 z]) w):=by refine⟨Am _,λ_ _ _ _=>rfl,λC _ hO=>?_,by simp[cx],λid A_=>by simp only[cx]at A_;simp[cx,Gh.at_,Bj A_],λid A_ _=>by simp only[cx]at A_;simp[cx,Gh.at_,Bj A_]⟩;rcases hO with(hO|⟨k,O⟩)|hO;exact .inl (.inl hO);exact .inl (.inr ⟨k,(W k C O).2⟩);rcases ap C hO with hO|rfl;exact .inr hO;exact .inl (.inr ⟨i,hB⟩)
 have b6:¬owned h H B:=(I.sim.out B (.inr ⟨i,hB⟩)).2;have b9:Ig (XR X c) (h.at_ (θ H) (D B) 0 U.size) (H++[.live 0 z]) w:=by
  refine⟨λC V=>?_,λid g cs he=>?_,λid L' he=>?_,λid cv e e' C h1 h2 b4 b5 h3 h4=>?_,I.sim.bldKeep λid e he hB=>?_⟩;have ca:XR X early C:=by rcases V with V|⟨k,O⟩;exact .inl V;exact .inr ⟨k,(W k C O).2⟩
  refine⟨(I.sim.out C ca).1,λR=>?_⟩;rcases ap C R with R|rfl;exact(I.sim.out C ca).2 R;rcases V with V|⟨k,O⟩;have:=hX C V;omega;obtain⟨k1,k2⟩:=W k C O;exact k1 (I.early2 k i C k2 hB);rcases JK he with⟨s,al⟩|⟨rfl,e⟩;obtain⟨hg,b0⟩:=I.sim.live id g cs al;refine⟨by simpa[cx,Gh.at_,Bj s]using hg,?_⟩;rcases b0 with⟨hn,rfl⟩|⟨B1,Z,T',ch,f,S,hb,bN,bb,a8,E⟩;exact .inl ⟨by simpa[cx,Gh.at_,Bj s]using hn,rfl⟩;refine .inr ⟨B1,Z,T',ch,f,by simpa[cx,Gh.at_,Bj s]using S,hb,by simpa[cx,Gh.at_,Bj s]using bN,bb,a8,λj v hj=>?_⟩;obtain⟨p1,p2,p3⟩:=E j v hj;exact⟨p1,p2,p3.later hl⟩;injection e with e1 e2;subst e1 e2;obtain⟨f,bb,a8,E⟩:=Q3 (b8.later hl);exact⟨by simp[cx,Gh.at_],.inr ⟨B,U,t,(0,0),f,by simp[cx,Gh.at_],bG,by simp[cx,Gh.at_],bb,a8,E⟩⟩;rcases JK he with⟨s,al⟩|⟨rfl,e⟩;obtain⟨hg,B1,r1,S,hb,p1,p2,p3,p4,p5,p6,p7⟩:=I.sim.lp id L' al;exact⟨by simpa[cx,Gh.at_,Bj s]using hg,B1,r1,by simpa[cx,Gh.at_,Bj s]using S,hb,p1,p2,p3,p4,p5,p6,λt v m=>⟨(p7 t v m).1,(p7 t v m).2.later hl⟩⟩;cases e;rcases JK h1 with⟨cc,bt⟩|⟨rfl,_⟩<;>rcases JK h2 with⟨cd,bz⟩|⟨rfl,_⟩;exact I.sim.inj _ _ _ _ C bt bz b4 b5 (by simpa[Gh.at_,Bj cc]using h3) (by simpa[Gh.at_,Bj cd]using h4);simp[Gh.at_]at h4;subst h4;exact(b6 ⟨id,e,bt,b4,by simpa[Gh.at_,Bj cc]using h3⟩).elim;simp[Gh.at_]at h3;subst h3;exact(b6 ⟨cv,e',bz,b5,by simpa[Gh.at_,Bj cd]using h4⟩).elim;rfl;rcases JK he with⟨s,al⟩|⟨rfl,e⟩;exact⟨al,by simp[Gh.at_,Bj s],by simp[Gh.at_,Bj s],by simp[Gh.at_,Bj s],λ_ _ _ _ _=>rfl⟩;subst e;cases hB
 have b1:G3 h0 H0 w0 (h.at_ (θ H) (D B) 0 U.size) (H++[.live 0 z]) w:=by have x:=I.ext;refine⟨x.os,x.tape,x.output,x.size,x.keep,by have:=x.n;simp;omega,λid A_=>?_,λid A_ e=>?_,λC R=>?_,x.loops⟩;have s:id<θ H:=DG A_ x.n;simpa[Gh.at_,Bj s]using x.gen id A_;have s:id<θ H:=DG A_ x.n;have:=x.same id A_ (by simpa[Gh.at_,Bj s]using e);simpa[Gh.at_,Bj s]using this;rcases ap C R with R|rfl;exact x.fresh C R;exact .inr e3
 refine⟨v',env.putO o.dst u,H++[.live 0 z],h.at_ (θ H) (D B) 0 U.size,c,?_⟩;refine{split:=by rw[I.split];simp,ra:=a1,kn:=I.kn.putO _ _,keys:=λM y m=>?_,env1:=λk G M F=>?_,env2:=λM ax=>?_,sim:=b9,nodefer:=I.nodefer,size:=I.size,slot1:=λk M G ct F=>?_,slot2:=λM ax=>(I.slot2 M ax).later hl,sub:=λj hj cm=>?_,lsz:=I.lsz,closed:=I.closed,pendq:=λk a9 a'=>?_,ext:=b1,early1:=λk C O=>?_,early2:=λk j C h1 h2=>I.early2 k j C (W k C h1).2 (W j C h2).2};cases ag:o.dst with
 |none=>rw[ag]at m;exact I.keys M y m
 |some d=>rw[ag]at m;simp only[Env.putO,Env.put]at m;rcases A3.1 m with e|m;injection e with e1 _;subst e1;exact rN ok R M ag;exact I.keys M y (BZ.1 m).1
 rw[a2];rcases Al.1 G with G|G;have J:k≠i:=λe=>b2 (e▸G);rw[ar k J,D! (λe=>J (ok.uniq k i M F (by rw[Fz R];exact e)))];exact I.env1 k G M F;have:k=i:=by simpa using G
 subst this;rw[Fz R]at F;rw[C! F,b'];rw[a2];have h1:o.dst≠D M:=by have:=ax i k!;rwa[Fz R]at this
 rw[D! h1];exact I.env2 M λk O=>ax k (FA _ O);by_cases J:k=i;subst J;rw[Fz R]at F;rw[b',bm M F];exact .ptr (by simp[cx]) (by simp[cx,Gh.at_]) rfl λ_=>⟨B,by simp[cx,Gh.at_],rfl⟩
 rw[ar k J];exact(I.slot1 k M G (by simpa[c,J]using ct) F).later hl;by_cases b3:j=i;subst b3;simp;exact FA _ (I.sub j hj (by simpa[c,b3]using cm));rcases Al.1 a9 with Y|Y;have J:k≠i:=λe=>b2 (e▸Y);obtain⟨K,a0,cn,a7⟩:=I.pendq k Y a';have a3:∀j D_,K.guard=D (j,D_)->j≠i:=by rintro j D_ hg rfl;have:=(ok.guard k K j D_ a0 hg).1;have h2:=ok.ord l1 (j::r) I.split k Y j k!;rw[this]at h2;cases h2
 refine⟨K,a0,cn,?_⟩;rw[ar k J];rcases a7 with⟨h1,h2⟩|⟨h1,rd,ei,h2,h3,h4,h5,h6,h7⟩;exact .inl ⟨T a3 h1,h2⟩;refine .inr ⟨T a3 h1,rd,ei,h2,λid A_=>by have:=h3 id A_;simp;omega,h4,h5,ce Y a0 h6,λad cf he hh=>h7 ad cf he λid A_=>?_⟩;rw[hh id A_,CW (h3 id A_)];have:k=i:=by simpa using Y
 subst this;rw[e2]at a';cases a';obtain⟨k1,k2⟩:=W k C O;obtain⟨f1,f2,f3,f4,o',M,z',Z,f5,f6,f7,f8,f9,cg⟩:=I.early1 k C k2;rcases A3.1 f1 with e|f1;exact(k1 e).elim;exact⟨f1,f2,f3,f4,o',M,z',Z,f5,f6,f7,f8,f9.later hl,cg⟩
def Mid(P:u)(N:z)(ops:Array Oper)(l:Ψ z)(Q:Env->As->Prop)(env0:Env)(X:z->Prop)(h0:Gh)(H0:As)(w0:World)(ds0:Ψ Deferred)(L:Array Bool)(a:Act)(w:World):Prop:=
 ∃l1 l2 v pend env H h early,Inv P N ops l Q env0 X h0 H0 w0 ds0 l1 l2 v pend env H h early L a w
def Vl(ok:YH ops N l)(T:XN P ops=ζ)(S:∀B,X B→B<w0.heap.size){L:Array Bool}{a}{w}{i:Nat}{o:Oper}(C:ops[i]?=D o)(g:IT ops i=η)(s:∀e∈o.after,Region.binds .any e=ζ→L.getD e.on η=ζ):
  ∀l2 l1 v b env H h early,Inv P N ops l Q env0 X h0 H0 w0 ds0 l1 l2 v b env H h early L a w->∃l1 l2 v b env H h early,Inv P N ops l Q env0 X h0 H0 w0 ds0 l1 l2 v b env H h early L a w/\(i∈l1\/∃r,l2=i::r/\VO v o ζ/\∃F,(∀j∈r,QF (If ops.toList []) i j=ζ\/IT ops j=ζ)/\(∀p∈b,QF (If ops.toList []) p.1 i=ζ\/∀id∈p.2,id∉F)/\∃K,Eff P N o env H F K/\(∀v y,K v y->θ H<=θ y)/\∀v y,K v y->RA P N ops r b (env.putO o.dst v) y Q)
 |[],l1,v,b,env,H,h,early,I=>by have k:=ok.all i (XE C);rw[I.split,D1]at k;exact⟨l1,[],v,b,env,H,h,early,I,.inl k⟩
 |q::r,l1,v,b,env,H,h,early,I=>by
  by_cases G:i∈l1;exact⟨l1,q::r,v,b,env,H,h,early,I,.inl G⟩
  ·cases E:early q with
   |some B=>obtain⟨O,ap,y,h',m,D_⟩:=I.adopt ok T S E;exact Vl ok T S C g s r _ O _ _ y h' m D_
   |none=>
    have M:=I.ra;have al:q<ops.size:=ok.lt q (by rw[I.split];simp);have c:ops[q]?=D (ops[q]):=by simp[al]
    generalize ar:ops[q]=oq at c;have x:(∀j∈r,QF (If ops.toList []) q j=ζ\/IT ops j=ζ)->i=q:=by intro f;have k:=ok.all i (XE C);rw[I.split,Al]at k;rcases k with k|k;exact(G k).elim;rcases A3.1 k with e|k;exact e;rcases f i k with R|R;have hd:=gG I.closed (i+1) i o o! C s R;have ag:=I.sub q hd E;have J:=ok.nodup;rw[I.split]at J;exact((H6.1 J).2.2 q ag q k! rfl).elim;rw[g]at R;cases R
    simp only[RA,c]at M;rcases I.guardW ok rfl c M with⟨U,(⟨n,u,rd,hQ,ao,d⟩|⟨n,F,f,V,K,W,Y,Z⟩|⟨t,z,ad,hz,f,d⟩)⟩|⟨U,n,d⟩
    ·obtain⟨O,D_⟩:=I.next ok rfl c (pend':=(q,rd)::b) n d (λp s=>CQ _ s) (.inr ⟨U,rd,k!,ao,hQ⟩)
     exact Vl ok T S C g s r _ O _ _ H h early D_
    have A_:=x f;subst A_;rw[C]at c;injection c with e;subst e;exact⟨l1,i::r,v,b,env,H,h,early,I,.inr ⟨r,rfl,U,F,f,V,K,W,Y,Z⟩⟩;have A_:=x f;subst A_;have:=(Xh c).2 ⟨t,ad⟩;rw[g]at this;cases this
    ·obtain⟨O,D_⟩:=I.next ok rfl c (pend':=(q,[])::b) n d (λp s=>CQ _ s) (.inl ⟨U,rfl⟩)
     exact Vl ok T S C g s r _ O _ _ H h early D_
def XK{K b:Act->World->Prop}{c:Exit->Act->World->Prop}(h:Oper.wpIn (FR j) 0 P o a w K c)(d:∀a w,K a w->b a w):Oper.wpIn (FR j) 0 P o a w b c:=Oper.wpIn_mono d h
def Inv.make(ok:YH ops N l)(ha:XN P ops=ζ){l1 l2:Ψ Nat}{v:Nat→AZ}{K:Ψ (Nat×Ψ Nat)}{env:Env}{H:As}{h:Gh}{early:Nat→Ω Nat}{L:Array Bool}{a:Act}{w:World}{Q0:Exit→Act→World→Prop}{ro:Ω Nat}
  (I:Inv P N ops l Q env0 X h0 H0 w0 ds0 l1 l2 v K env H h early L a w) {i:Nat}{o:Oper}{t:TypeId} (u:ops[i]?=D o) (y:o.op=.alloc t) (a5:L.getD i η=η)
  (hp:∀e∈o.after,Region.binds .any e=ζ->L.getD e.on η=ζ):
  Oper.wpIn (FR ro) 0 P o a w (λa' C=>∃b,Inv P N ops l Q env0 X h0 H0 w0 ds0 l1 l2 v K env H h b (L.setIfInBounds i ζ) a' C) Q0:=by
 obtain⟨⟨z,hz⟩,hg⟩:=gd ha u y;have a9:IT ops i=ζ:=(Xh u).2 ⟨t,y⟩;obtain⟨b2,zv,hi,bz,rz⟩:=gQ (cx (XR X early) h H w) hz;have a3:(execOp a.eval o).run P w=.ok (.value (.pointer (D ⟨w.heap.size,0,A⟩))) {w with heap:=w.heap.push (.cells zv.cells t)}:=by unfold execOp;rw[y];simp[Instr.alloc,zeroValue,typeInfo,hi,bz,newVar,newRow]
 refine⟨λ_ _=>P!,?_⟩;rw[Oper.semAt_eq _ _ _ (λc hc=>by rw[y]at hc;cases hc),a3,Oper.uponIn_value];let b:Nat->Ω Nat:=λk=>if k=i then D w.heap.size else early k;generalize s:({w with heap:=w.heap.push (.cells zv.cells t)}:World)=C;have b1:C.heap.size=w.heap.size+1:=by rw[<-s];simp
 have q:∀k,k<w.heap.size->C.heap[k]?=w.heap[k]? :=λk r=>by rw[<-s];simp[UV,Bj r]
 have bt:C.heap[w.heap.size]?=D (.cells zv.cells t):=by rw[<-s];simp
 have U:C.os=w.os:=by rw[<-s]
 have V:C.tape=w.tape:=by rw[<-s]
 have A_:C.output=w.output:=by rw[<-s]
 have ao:i∉l1:=by intro hm;obtain⟨o',b0,ap,_⟩:=I.pendq i hm a5;rw[a9]at ap;cases ap
 have bl:i∈l2:=by have:=ok.all i (XE u);rw[I.split,Al]at this;exact this.resolve_left ao
 have bG:early i=A:=by
  cases G:early i with
  |none=>rfl
  |some B=>have:=(I.early1 i B G).2.1;rw[a5]at this;cases this
 have a7:=I.sim.grow U V A_ o! q;have bN:=(G3.grow (h:=h) (H:=H) U V A_ o! q).later (XR X early);have J:∀B,owned h H B->B<w.heap.size:=by rintro B ⟨id,e,G,S,x⟩;exact I.sim.io_at G S x
 have a6:∀B,XR X b B->XR X early B\/B=w.heap.size:=by rintro B (O|⟨k,r⟩);exact .inl (.inl O);simp only[b]at r;split at r;injection r with e;exact .inr e.symm;exact .inl (.inr ⟨k,r⟩)
 have W:(cx (XR X early) h H w).Later (cx (XR X b) h H C):=by refine⟨by simp only[cx];omega,λB O _=>nz (q B O),λB O Z=>?_,Am _,λ_ _=>Am _,λ_ _ _=>⟨rfl,rfl⟩⟩;rcases Z with Z|Z;rcases a6 B Z with D_|rfl;exact .inl D_;simp only[cx]at O;omega;exact .inr Z
 have a4:Ig (XR X b) h H C:=by refine⟨λB O=>?_,λid g cs G=>?_,λid L' G=>?_,I.sim.inj,I.sim.bldKeep λid e G _=>⟨G,rfl,rfl,rfl,λB o _ R _=>q B (QK R)⟩⟩;rcases a6 B O with D_|rfl;exact a7.out B D_;exact⟨o!,λu=>by have:=J _ u;omega⟩;obtain⟨hg,al⟩:=I.sim.live id g cs G;refine⟨hg,?_⟩;rcases al with⟨hn,rfl⟩|⟨B,M,T,fz,f,x,R,ad,bm,bb,E⟩;exact .inl ⟨hn,rfl⟩;refine .inr ⟨B,M,T,fz,f,x,(q B (QK R)).trans R,ad,bm,bb,λj v hj=>?_⟩;obtain⟨p1,p2,p3⟩:=E j v hj;exact⟨p1,p2,p3.later W⟩;obtain⟨hg,B1,r1,x,R,p1,p2,p3,p4,p5,p6,p7⟩:=I.sim.lp id L' G;exact⟨hg,B1,r1,x,(q B1 (QK R)).trans R,p1,p2,p3,p4,p5,p6,λt v m=>⟨(p7 t v m).1,(p7 t v m).2.later W⟩⟩
 have p:i<L.size:=by rw[I.lsz];exact XE u
 have hd:∀t,o.dst=D t->t<a.tmps.size:=λt ht=>by rw[I.size];exact rN ok u t ht
 refine⟨b,?_⟩;refine{split:=I.split,ra:=I.ra,kn:=I.kn,keys:=I.keys,env1:=I.env1,env2:=I.env2,sim:=a4,nodefer:=?_,size:=(gI _ _ _).trans I.size,slot1:=λk t r a1 ag=>?_,slot2:=λt J=>?_,sub:=λj hj ar=>?_,lsz:=by rw[qb];exact I.lsz,closed:=og I.closed p u hp,pendq:=λk a0 a2=>?_,ext:=I.ext.trans (G3.grow U V A_ o! q),early1:=λk B r=>?_,early2:=λj k B D_ Y=>?_};rw[show(a.put o.dst _).defers=a.defers by cases o.dst<;>rfl];exact I.nodefer;have n:k≠i:=by rintro rfl;simp[b]at a1
 rw[HH p,D! n]at r;rw[Tr hd,D! (λe=>n (ok.uniq k i t ag (by rw[Fz u];exact e)))];exact(I.slot1 k t r (by simpa[b,n]using a1) ag).later W;rw[Tr hd];have S:o.dst≠D t:=by have:=J i (by rw[HH p,C! rfl]);rwa[Fz u]at this
 rw[D! S];refine(I.slot2 t λk r=>J k ?_).later W;rw[HH p];split;rfl;exact r;have ax:j≠i:=by rintro rfl;simp[b]at ar
 rw[HH p,D! ax]at hj;exact I.sub j hj (by simpa[b,ax]using ar);have n:k≠i:=λe=>ao (e▸a0);rw[HH p,D! n]at a2;exact I.pendq k a0 a2;by_cases n:k=i;subst n;simp only[b,if_true]at r;injection r with e;subst e;refine⟨bl,by rw[HH p,C! rfl],I.ext.size,o!,o,t,z,zv.cells,u,y,hz,bt,rz.later W,λd F=>?_⟩;rw[Tr hd,C! F];simp only[b,D! n]at r;obtain⟨e1,e2,e3,e4,o',t',z',M,e5,e6,e7,e8,e9,a8⟩:=I.early1 k B r;refine⟨e1,by rw[HH p,D! n];exact e2,e3,o!,o',t',z',M,e5,e6,e7,(q B e4).trans e8,e9.later W,λd F=>?_⟩;rw[Tr hd,D! (λe=>n (ok.uniq k i d (by rw[Fz e5];exact F) (by rw[Fz u];exact e)))];exact a8 d F;simp only[b]at D_ Y;split at D_<;>split at Y;simp_all;injection D_ with e;have:=(I.early1 k B Y).2.2.2.1;omega;injection Y with e;have:=(I.early1 j B D_).2.2.2.1;omega;exact I.early2 j k B D_ Y
def Mid.step(ok:YH ops N l)(ha:XN P ops=ζ)(hX:∀B,X B→B<w0.heap.size){L:Array Bool}{a:Act}{w:World}{Q0:Exit→Act→World→Prop}{ro:Ω Nat}(M:Mid P N ops l Q env0 X h0 H0 w0 ds0 L a w){i:Nat}{o:Oper}(n:ops[i]?=D o)(E:L.getD i η=η)
  (Y:∀e∈o.after,Region.binds .any e=ζ->L.getD e.on η=ζ):wpOpIn (FR ro) 0 P ops Q0 i (Mid P N ops l Q env0 X h0 H0 w0 ds0 (L.setIfInBounds i ζ)) a w:=by
 cases a2:IT ops i with
 |true=>
  obtain⟨t,a8⟩:=(Xh n).1 a2;have hg:=(gd ha n a8).2;obtain⟨l1,l2,v,s,env,H,h,early,I⟩:=M;unfold wpOpIn;rw[n];simp only;have J:Region.wanted o (yielded ops a.tmps)=ζ:=by unfold Region.wanted;rw[hg]
  rw[J];simp only[if_true];refine(XK (I.make ok ha n a8 E Y) ?_);rintro a' w' ⟨ag,I'⟩;exact⟨l1,l2,v,s,env,H,h,ag,I'⟩
 |false=>
 obtain⟨l1,l2,v,s,env,H,h,early,I⟩:=M;obtain⟨l1,l2,v,s,env,H,h,early,I,A_⟩:=Vl ok ha hX n a2 Y l2 l1 v s env H h early I;have G:∀k,QF (If ops.toList []) k i=ζ->early k=A:=by
  intro k D_;by_cases f:k=i;subst f;cases he:early k with
  |none=>rfl
  |some B=>have:=(I.early1 k B he).2.1;rw[E]at this;cases this
  refine I.noEarly ok ?_ k D_ f;rcases A_ with h1|⟨r,h1,_⟩;exact .inl h1;exact .inr ⟨r,h1⟩
 unfold wpOpIn;rw[n];simp only;rcases A_ with ar|⟨r,rfl,J,F,b6,bt,K,a0,bz,bG⟩
 ·obtain⟨o',a6,_,b5⟩:=I.pendq i ar E;rw[n]at a6;injection a6 with e;subst e;rcases b5 with⟨J,al⟩|⟨J,rd,ei,_,_,kn,T,W,hQ⟩
  ·rw[I.wanted ok n G Y J];simp only[Qf,if_false];exact⟨λ_ _=>P!,l1,l2,v,s,env,H,h,early,I.done ok n ar E Y I.sim (G3.refl _ _ _) (by rw[al];exact .tup rfl λ_ _ _ h=>by cases h)⟩
  ·rw[I.wanted ok n G Y J];simp only[if_true];refine(XK (hQ (look o ei) H (AAa o ei) (λ_ _=>rfl) ro (XR X early) h a w ⟨I.sim,I.look ok n E Y G kn T W,I.size⟩ Q0) ?_);rintro a' w' ⟨c,u,h',H',rfl,⟨rfl,rfl⟩,hv,sim,x⟩;exact⟨l1,l2,v,s,env,_,h',early,I.done ok n ar E Y sim x hv⟩
 rw[I.wanted ok n G Y J];simp only[if_true];have W:=I.opd ok rfl n;refine(XK (a0.1 (look o env) (AAa o env) ro (XR X early) h a w ⟨I.sim,I.look ok n E Y G I.kn I.keys W,I.size⟩ Q0) ?_);rintro a' w' ⟨c,u,h',H',rfl,T,hv,sim,x⟩;have a5:=ok.nodup;rw[I.split]at a5;have b0:i∉l1:=λhm=>(H6.1 a5).2.2 i hm i k! rfl;have hi:i<L.size:=by rw[I.lsz];exact XE n
 have hl:=x.later (XR X early);let v':Nat->AZ:=λk=>if k=i then u else v k;have Z:∀k,k≠i->v' k=v k:=λk T=>by simp[v',T]
 have al:v' i=u:=by simp[v']
 have hd:∀t,o.dst=D t->t<a.tmps.size:=λt ht=>by rw[I.size];exact rN ok n t ht
 have ao:∀t,(env.putO o.dst u).get t=if o.dst=D t then u else env.get t:=by
  intro t;cases o.dst with
  |none=>simp[Env.putO]
  |some d=>simp only[Env.putO,GD,Ap];by_cases h:d=t;subst h;simp;rw[D! h,D! (h ·.symm)]
 refine⟨l1++[i],r,v',s,env.putO o.dst u,H',h',early,?_⟩;refine{split:=by rw[I.split];simp,ra:=bG u H' T,kn:=I.kn.putO _ _,keys:=λt y m=>?_,env1:=λk g t C=>?_,env2:=λt V=>?_,sim:=sim,nodefer:=?_,size:=(gI _ _ _).trans I.size,slot1:=λk t g b4 C=>?_,slot2:=λt V=>?_,sub:=λj hj b1=>?_,lsz:=by rw[qb];exact I.lsz,closed:=og I.closed hi n Y,pendq:=λk b2 U=>?_,ext:=I.ext.trans x,early1:=λk B g=>?_,early2:=I.early2};cases R:o.dst with
 |none=>rw[R]at m;exact I.keys t y m
 |some d=>rw[R]at m;simp only[Env.putO,Env.put]at m;rcases A3.1 m with e|m;injection e with e1 _;subst e1;exact rN ok n t R;exact I.keys t y (BZ.1 m).1
 rw[ao];rcases Al.1 g with g|g;have f:k≠i:=λe=>b0 (e▸g);rw[Z k f,D! (λe=>f (ok.uniq k i t C (by rw[Fz n];exact e)))];exact I.env1 k g t C;have:k=i:=by simpa using g
 subst this;rw[Fz n]at C;rw[C! C,al];rw[ao];have h1:o.dst≠D t:=by have:=V i k!;rwa[Fz n]at this
 rw[D! h1];exact I.env2 t λk T=>V k (FA _ T);rw[show(a.put o.dst c).defers=a.defers by cases o.dst<;>rfl];exact I.nodefer;rw[Tr hd];rw[HH hi]at g;by_cases f:k=i;subst f;rw[Fz n]at C;rw[C! C,al];exact hv;rw[D! f]at g;rw[D! (λe=>f (ok.uniq k i t C (by rw[Fz n];exact e))),Z k f];exact(I.slot1 k t g b4 C).later hl;rw[Tr hd];have G:o.dst≠D t:=by have:=V i (by rw[HH hi,C! rfl]);rwa[Fz n]at this
 rw[D! G];refine(I.slot2 t λk T=>V k ?_).later hl;rw[HH hi];split;rfl;exact T;rw[HH hi]at hj;by_cases a3:j=i;subst a3;simp;rw[D! a3]at hj;exact FA _ (I.sub j hj b1);rw[HH hi]at U;by_cases f:k=i;subst f;simp at U;rw[D! f]at U;have a4:k∈l1:=by rcases Al.1 b2 with h|h;exact h;exact(f (by simpa using h)).elim
 obtain⟨ad,a7,b3,A_⟩:=I.pendq k a4 U;have ap:QF (If ops.toList []) i k=η:=ok.ord l1 (i::r) I.split k a4 i k!;have O:∀{b},VO v ad b->VO v' ad b:=by
  intro b J;unfold VO at J⊢;cases hg:ad.guard with
  |none=>rw[hg]at J;exact J
  |some p=>
   obtain⟨j,a9⟩:=p;rw[hg]at J;simp only at J⊢;have:j≠i:=by rintro rfl;have:=(ok.guard k ad j a9 a7 hg).1;rw[ap]at this;cases this
   rw[Z j this];exact J
 refine⟨ad,a7,b3,?_⟩;rw[Z k f];rcases A_ with⟨q1,q2⟩|⟨q1,rd,ei,q2,q3,q4,q5,q6,q7⟩;exact .inl ⟨O q1,q2⟩;refine .inr ⟨O q1,rd,ei,q2,λid S=>DG (q3 id S) (bz u H' T),q4,q5,λt ht=>?_,λax bb he hh=>q7 ax bb he λid S=>?_⟩;obtain⟨c1,c2⟩:=q6 t ht;refine⟨λq hq bN D_=>?_,c2⟩;rw[c1 q hq bN D_,Z];rintro rfl;rw[ap]at D_;cases D_;rw[hh id S];apply a0.2 u H' T id (q3 id S);rcases bt (k,rd) q2 with h1|h1;have:=gG I.closed (i+1) i o o! n Y h1;simp only at this;rw[U]at this;cases this;exact h1 id S;obtain⟨e1,e2,e3,e4,o',t,z,bl,e5,e6,e7,e8,e9,bm⟩:=I.early1 k B g;have f:k≠i:=by rintro rfl;rw[E]at e2;cases e2
 refine⟨(A3.1 e1).resolve_left f,by rw[HH hi,D! f];exact e2,e3,DG e4 x.size,o',t,z,bl,e5,e6,e7,?_,e9.later hl,λd a1=>?_⟩;exact(x.keep B e4 (I.sim.out B (.inr ⟨k,g⟩)).2).trans e8;rw[Tr hd,D! (λe=>f (ok.uniq k i d (by rw[Fz e5];exact a1) (by rw[Fz n];exact e)))];exact bm d a1
theorem Inv.end_(ok:YH ops N l)(s:XN P ops=ζ)(p:∀B,X B→B<w0.heap.size){L:Array Bool}{a}{w}(e:∀i,i<ops.size→L.getD i η=ζ):
  ∀l2 l1 v c env H h early,Inv P N ops l Q env0 X h0 H0 w0 ds0 l1 l2 v c env H h early L a w->
  ∃o b g,Q b g/\St X o N b g a w/\G3 h0 H0 w0 o g w/\a.defers=ds0
 |q::r,l1,v,c,env,H,h,early,I=>by
  cases j:early q with
  |some B=>obtain⟨G,b,g,o,d,y⟩:=I.adopt ok s p j;exact Inv.end_ ok s p e r _ G _ _ g o d y
  |none=>have J:=I.sub q (e q (ok.lt q (by rw[I.split];simp))) j;have E:=ok.nodup;grind[I.split]
 |[],l1,v,c,env,H,h,early,I=>by
  have D_:∀k,early k=A:=by
   intro k;cases C:early k with
   |none=>rfl
   |some B=>have:=(I.early1 k B C).1;cases this
  have n:XR X early=X:=by funext B;apply propext;constructor;rintro(z|⟨k,x⟩);exact z;grind;exact .inl
  have f:=I.sim;rw[n]at f;refine⟨h,env,H,I.ra,⟨f,λt u m=>⟨by rw[I.size];exact I.keys t u m,?_⟩,I.size⟩,I.ext,I.nodefer⟩;rw[<-n,<-I.kn t u m];by_cases F:∃k∈l1,WZ ops k=D t;have⟨k,x,A_⟩:=F;rw[I.env1 k x t A_];grind[ZM,I.slot1,XE];grind[I.env2,I.slot2,I.sub]
def Mid.end_(ok:YH ops N l)(x:XN P ops=ζ)(u:∀B,X B→B<w0.heap.size){w}(M:Mid P N ops l Q env0 X h0 H0 w0 ds0 L a w)(hr:Region.ready .any ops L=[]):
  ∃o b g,Q b g/\St X o N b g a w/\G3 h0 H0 w0 o g w/\a.defers=ds0:=by
 obtain⟨l1,l2,v,f,env,H,h,early,I⟩:=M;have c:∀(n i:Nat),i<n->i<ops.size->L.getD i η=ζ:=by
  intro n;induction n with
  |zero=>intro i h;omega
  |succ n z=>
   intro i q d;cases p:L.getD i η with
   |true=>rfl
   |false=>
    have m:i<L.size:=by rw[I.lsz];exact d
    have j:L.getD i ζ=η:=by rw[Ra,Oe m]at p⊢;simpa using p
    have t:ops[i]?=D (ops[i]):=by simp[d]
    have s:i∈Region.ready .any ops L:=by rw[mem_ready];refine⟨j,_,t,λe y k=>?_⟩;have r:=ok.back i _ t e y k;exact z e.on o! o!
    rw[hr]at s;cases s
 exact Inv.end_ ok x u (λi q=>c (i+1) i o! q) l2 l1 v f env H h early I
theorem xI{p q:z->Bool}(h:∀j,q j=ζ->p j=ζ):∀l:Ψ z,(l.filter q).length<=(l.filter p).length
 |[]=>k!
 |y::r=>by have a:=xI h r;grind
theorem filter_lt{p:z->Bool}{i:z}{q:z->Bool}(b:∀j,q j=(p j&& ! τ (j=i))):∀(l:Ψ z),i∈l->p i=ζ->(l.filter q).length<(l.filter p).length
 |x::r,h,hp=>by
  have d:=xI (p:=p) (q:=q) (λj a=>by rw[b]at a;simp at a;exact a.1) r;by_cases e:x=i;grind;have c:i∈r:=q!
  have f:=filter_lt b r c hp;grind
theorem Mid.any(ok:YH ops N l)(k:XN P ops=ζ)(g:∀B,X B→B<w0.heap.size){f:Exit→Act→World→Prop}{ro}(e:∀L a w,Mid P N ops l Q env0 X h0 H0 w0 ds0 L a w→Region.ready .any ops L=[]→f .normal a w):
  ∀(b:z)L a w,((List.range ops.size).filter λi=>!L.getD i η).length<=b->Mid P N ops l Q env0 X h0 H0 w0 ds0 L a w->wpAnyIn (FR ro) 0 P .any ops f b L a w
 |0,L,a,w,hf,M=>by
  have hr:Region.ready .any ops L=[]:=by
   cases u:Region.ready .any ops L with
   |nil=>rfl
   |cons i r=>
    have d:i∈Region.ready .any ops L:=q!
    rw[mem_ready]at d;have:i∈(List.range ops.size).filter λi=>!L.getD i η:=q!
    grind
  exact⟨hr,e L a w M hr⟩
 |b+1,L,a,w,hf,M=>by
  refine⟨λhr=>e L a w M hr,λi d=>?_⟩;rw[mem_ready]at d;have⟨x,o,m,t⟩:=d;have c:L.getD i η=η:=q!
  refine wpOpIn_mono (λs v n=>Mid.any ok k g e b _ s v ?_ n) (Mid.step ok k g M m c t);have:=filter_lt (p:=λi=>!L.getD i η) (i:=i) (q:=λj=>!(L.setIfInBounds i ζ).getD j η) (λj=>by rw[HH q!];by_cases h:j=i<;>simp[h]) (List.range ops.size) (H5.2 (XE m)) (by simp[c]);omega
def ly{K:Exit→Env→As→Prop}(C:P.follows .mixedOrders=ζ)(l:Ψ Nat)(q:ADG ops N l=ζ)(r:XN P ops=ζ)(p:(g.map (·.1)).Nodup)
  (h:RA P N ops l [] g H (K .normal)):J0 P N (.region t ops ζ) g H K:=by
 intro ro X R a w s _;have ok:=ACC q;have b:∀i,(Array.replicate ops.size η).getD i η=η:=by intro i;rw[Ra];by_cases d:i<ops.size;simp[d];simp[d]
 have E:({w with drawn:=w.drawn+1}:World)=w.drew:=rfl;apply wpIn_region_any C;rw[E];refine Mid.any (Q:=K .normal) (env0:=g) (X:=X) (h0:=R) (H0:=H) (w0:=w) (ds0:=a.defers) ok r (λB c=>(s.sim.out B c).1) (λL I O M hr=>?_) ops.size _ a w.drew ?_ ?_;obtain⟨A_,f,y,D_,F,G,z⟩:=M.end_ ok r (λB c=>(s.sim.out B c).1) hr;exact⟨A_,f,y,D_,F,G,.same z⟩;exact Cs (EV _ _) k!;have x:=G3.drew (h:=R) (H:=H) (w:=w);have n:XR X (λ_=>A)=X:=by funext B;apply propext;constructor;rintro(c|⟨k,e⟩);exact c;cases e;exact .inl
 refine⟨[],l,λ_=>.any,[],g,H,R,λ_=>A,?_⟩;refine{split:=rfl,ra:=h,kn:=fJ p,keys:=(λS u m=>by have:=(s.env S u m).1;rw[s.size]at this;exact this),env1:=(λk e=>by cases e),env2:=λS _=>rfl,sim:=(by rw[n];exact s.sim.drew),nodefer:=rfl,size:=s.size,slot1:=(λk S e _=>by rw[b]at e;cases e),slot2:=λS _=>(by rw[n];exact(lw s.env S).later (x.later X)),sub:=(λi d=>by rw[b]at d;cases d),lsz:=k!,closed:=(λj o J v=>by rw[b]at v;cases v),pendq:=(λi d=>by cases d),ext:=x,early1:=(λi B c=>by cases c),early2:=(λi j B c=>by cases c)}
end
def rf:AZ->Ψ z
 |.ptr id _ _=>[id]
 |.sl id _ _ _ _=>[id]
 |_=>[]
def AB8(env:Env)(op:Op):Ψ z:=op.operands.toList.flatMap λx=>rf (BN env x)
theorem ir{a:Env}(h:∀t∈tmpsOf o,a.get t=g.get t):∀x∈o.op.operands,BN a x=BN g x:=by
 intro x b;cases x with
 |tmp t=>apply h t;unfold tmpsOf;rw[T6];exact⟨.tmp t,q!,rfl⟩
 |_=>rfl
def vc{a}{l:Ψ Operand}(h:∀x∈l,BN a x=BN g x):l.map (BN a)=l.map (BN g):=Ng h
theorem xm{e}{l:Op}(h:∀x∈l.operands,BN e x=BN g x):Cd P e H l=Cd P g H l:=by
 cases l with
 |move x=>grind[Cd,Op.operands]
 |assign x=>grind[Cd,Op.operands]
 |pick c a b=>grind[Cd,Op.operands]
 |load t a=>grind[Cd,Op.operands]
 |nilCheck x=>grind[Cd,Op.operands]
 |binOp l t x y E=>grind[Cd,Op.operands]
 |unOp l t x=>grind[Cd,Op.operands]
 |convert s d x=>grind[Cd,Op.operands]
 |fieldAddr s x f=>grind[Cd,Op.operands]
 |field s x f=>grind[Cd,Op.operands]
 |indexAddr t x i=>grind[Cd,Op.operands]
 |index t x i=>grind[Cd,Op.operands]
 |extract x i=>grind[Cd,Op.operands]
 |slice t x u o v=>
  have C:u.map (BN e)=u.map (BN g):=by cases u with|none=>rfl|some y=>simp[h y (by simp[Op.operands])]
  have B:o.map (BN e)=o.map (BN g):=by cases o with|none=>rfl|some y=>simp[h y (by simp[Op.operands])]
  have D_:v.map (BN e)=v.map (BN g):=by cases v with|none=>rfl|some y=>simp[h y (by simp[Op.operands])]
  grind[Cd,Op.operands]
 |makeFunc f a b=>simp only[Cd];rw[vc λx j=>h x (by simp only[Op.operands];exact Array.mem_append_left _ (by simpa using j)),vc λx j=>h x (by simp only[Op.operands];exact Array.mem_append_right _ (by simpa using j))]
 |build t F=>
  simp only[Cd];have:(F.toList.map λp=>(p.1,BN e p.2))=F.toList.map λp=>(p.1,BN g p.2):=Ng λp w=>by rw[h p.2 (by simp only[Op.operands,List.mem_toArray,Bo];exact⟨p,w,rfl⟩)]
  rw[this]
 |call c=>
  obtain⟨n,args,k⟩:=c;simp only[Op.operands,Call.operands]at h;cases n with
  |value f=>simp[Cd]
  |invoke r m=>simp[Cd]
  |builtin b=>
   obtain⟨args⟩:=args;obtain⟨k⟩:=k;match args with
   |[]=>simp[Cd]
   |[x]=>
    have j:=h x k!;cases b<;>simp[Cd];match k with
    |[]=>rfl
    |[t]=>simp[j]
    |_::_::_=>rfl
   |[x,y]=>have j:=h x k!;have q:=h y k!;cases b<;>simp[Cd,j,q]
   |[x,y,z]=>have j:=h x k!;have q:=h y k!;have A_:=h z k!;cases b<;>simp[Cd,j,q,A_]
   |_::_::_::_::_=>cases b<;>rfl
 |_=>rfl
section
variable {P:Program}{H H':As}
theorem bI(h:H'[N]?=H[N]?):UR H' N t=UR H N t:=by grind[UR]
theorem AAr(h:∀id∈rf d,H'[id]?=H[id]?):Qx H' d N=Qx H d N:=by cases d<;>simp only[Qx];rw[h _ (by simp[rf])]
theorem wA(h:∀id∈rf d,H'[id]?=H[id]?):shift H' N d=shift H N d:=by cases d<;>simp only[shift];grind[bI,rf]
def ADw(h:∀id∈rf d,H'[id]?=H[id]?):rn P H' b d=rn P H b d:=rfl
theorem AB4{k:Op}(h:∀id∈AB8 g k,H'[id]?=H[id]?):Cd P g H' k=Cd P g H k:=by
 have j:∀x∈k.operands,∀id∈rf (BN g x),H'[id]?=H[id]? :=λx j id n=>h id (by unfold AB8;rw[Gu];exact⟨x,by simpa using j,n⟩);cases k with
 |load t a=>grind[Op.operands,Cd,kB,AAr]
 |nilCheck x=>grind[Op.operands,Cd,bI,rf]
 |convert s d x=>
  have u:=j x (by simp[Op.operands]);have hr:rowsOf H' (BN g x)=rowsOf H (BN g x):=by generalize BN g x=v at u;cases v<;>simp only[rowsOf];grind[rf]
  simp only[Cd,YL];grind[BN]
 |fieldAddr s x f=>grind[Op.operands,Cd,XA,wA]
 |indexAddr t x i=>have u:=j x (by simp[Op.operands]);simp only[Cd,XF];split<;>grind[wA,bI,rf]
 |slice t x p o q=>have u:=j x (by simp[Op.operands]);simp only[Cd];generalize BN g x=v at u;cases v<;>simp only[jp];rw[bI (u _ (by simp[rf]))]
 |call c=>
  obtain⟨l,args,e⟩:=c;simp only[Op.operands,Call.operands]at j;cases l with
  |value f=>simp[Cd]
  |invoke r m=>simp[Cd]
  |builtin b=>
   obtain⟨args⟩:=args;obtain⟨e⟩:=e;match args with
   |[]=>simp[Cd]
   |[x]=>
    have u:=j x k!;cases b<;>simp only[Cd];match e with
    |[]=>rfl
    |[t]=>simp only;exact ADw u
    |_::_::_=>rfl
   |[x,y]=>cases b<;>simp[Cd]
   |[x,y,z]=>cases b<;>simp[Cd]
   |_::_::_::_::_=>cases b<;>rfl
 |_=>simp only[Cd]
def YM{v:AZ}(e:Cd P g H o.op=D v):ai P N o g H (AB8 g o.op) v:=by intro a b c d;refine Dm (v:=v) ?_ ⟨rfl,rfl⟩;rw[xm (ir c),AB4 d];exact e
end
end Go.Ab
