/- Texts of wip, joined and shortened by wip/tools/pack.py; nothing is assumed. -/
import Derived.Calls
import Derived.Below
import Derived.RangeFuncRecord
import Derived.OrdersIn
import Derived.Lib.FrozenHead
import Derived.Orders
import Derived.Laws.Cells
import Derived.Laws.Entries
import Derived.Laws.StructEq
import Derived.ChangeKeysEq
import Derived.Laws.BytesString
import Derived.Laws.Tables
import Derived.Great.FillDense
import Derived.Great.BuildSlice
open _root_ renaming Nat->z
open Go renaming Program->u
namespace Go
theorem n!{A B:Prop}(h:¬A:=by decide):A->B:=λa=>absurd a h
theorem o!{P:Prop}(h:P:=by omega):P:=h
theorem d!{P:Prop}(h:P:=by dsimp only;omega):P:=h
theorem g!{P:Prop}(h:P:=by decide):P:=h
theorem k!{P:Prop}(h:P:=by simp):P:=h
theorem q!{P:Prop}(h:P:=by grind):P:=h
theorem w!{P:Prop}(h:P:=by simp;omega):P:=h
theorem v!{P:Prop}(h:P:=by assumption):P:=h
theorem u!{P:Prop}(h:P:=by dsimp only;decide):P:=h
theorem t!{P:Prop}(h:P:=by simp_all):P:=h
end Go
noncomputable section
set_option linter.all false
open Option renaming some->D
open Bool renaming true->A
open Option renaming some->δ,none->ε
open Bool renaming true->ζ,false->η
open List renaming length->θ,replicate->ς
open BitVec renaming ofInt->κ
open Decidable renaming decide->τ
namespace Go
abbrev Ω.{u}(a:Type u):=Option a
abbrev Ψ.{u}(a:Type u):=List a
def A!:=@cond_false
def B!:=@cond_true
def C!:=@if_pos
theorem n?{α:Type _}{as bs:List α}:(as++bs).length=as.length+bs.length:=List.length_append
theorem m?{α:Type _}{l:List α}{i:z}(h:i<l.length):l[i]? =some l[i]:=List.getElem?_eq_getElem h
theorem p?{α β:Type _}{a:α}{f:α->Option β}:(some a).bind f=f a:=rfl
theorem t?{α:Type _}(as bs cs:List α):as++bs++cs=as++(bs++cs):=List.append_assoc as bs cs
theorem u?{α:Type _}{l:List α}{i:z}(h:l.length<=i):l[i]? =none:=List.getElem?_eq_none h
theorem r?{α:Type _}{i:z}{l:List α}:(l.take i).length=min i l.length:=List.length_take
theorem s?(n:z):(n:Int).toNat=n:=Int.toNat_natCast n
theorem a!{α:Type _}{a b:α}:a∈[b]<->a=b:=List.mem_singleton
def D!:=@if_neg
def E!:=@congrArg
def F!:=@decide_eq_false
def G!:=@decide_eq_true
def H!:=@bne_self_eq_false
def I!:=@beq_eq_false_iff_ne
def J!:=@beq_iff_eq
def K!:=@decide_eq_true_eq
def L!:=@beq_self_eq_true
def M!:=@bne_iff_ne
def N!:=@of_decide_eq_true
theorem O!{a b:Prop}(h:a)(k: ¬a):b:=absurd h k
theorem P!:True:=trivial
def tV:=@Array.eq_empty_of_size_eq_zero
def oQ:=@Array.extract_size
def RR:=@Array.getD_eq_getD_getElem?
def Yp:=@Array.getElem?_append_left
def td:=@Array.getElem?_append_right
def Oe:=@Array.getElem?_eq_getElem
def tf:=@Array.getElem?_eq_none
def yj:=@Array.getElem?_eq_none_iff
def cZ:=@Array.getElem?_eq_some_iff
def ck:=@Array.getElem?_map
def cP:=@Array.getElem?_modify
def UG:=@Array.getElem?_push
def vz:=@Array.getElem?_setIfInBounds_ne
def Qb:=@Array.getElem?_toList
def EA:=@Array.length_toList
def wA:=@Array.mem_of_getElem?
def po:=@Array.size_setIfInBounds
def pp:=@BitVec.eq_of_getLsbD_eq
def cQ:=@BitVec.ofInt_natCast
def cR:=@BitVec.toNat_ofNat
def lT:=@BitVec.xor_assoc
def cT:=@BitVec.xor_self
def lU:=@BitVec.zero_xor
def BQ:=@Bool.and_eq_true
def WV:=@Bool.and_self
def Ry:=@Bool.and_true
def lV:=@Bool.eq_false_iff
def Qd:=@Bool.false_eq_true
def WW:=@Bool.not_eq_true'
def pq:=@Bool.not_false
def CE:=@Bool.not_true
def WX:=@Bool.or_eq_true
def pu:=@Bool.true_and
def Qe:=@Decidable.byContradiction
def lW:=@Decidable.not_not
def Et:=@Int.eq_ofNat_of_zero_le
def lX:=@Int.fdiv_eq_ediv_of_nonneg
def Ag:=@Int.le_refl
def lY:=@Int.le_trans
def cU:=@Int.lt_or_le
def pw:=@Int.mul_ediv_add_emod
def DF:=@s?
def Iz:=@Int.toNat_of_nonneg
def cV:=@List.Pairwise.imp_of_mem
def cX:=@List.Perm.eq_of_pairwise
def lf:=@List.Perm.refl
def lg:=@List.all_cons
def Ga:=@List.all_eq_true
def px:=@List.all_nil
def YS:=@List.any_eq_true
def A2:=@List.append_assoc
def lh:=@List.append_eq_append_iff
def EO:=@List.append_inj
def DR:=@List.append_nil
def Dx:=@List.cons_append
def YT:=@List.drop_append
def pz:=@List.drop_append_of_le_length
def Od:=@List.drop_drop
def KH:=@List.drop_eq_getElem_cons
def lj:=@List.drop_eq_nil_of_le
def Rz:=@List.drop_left
def lm:=@List.drop_left'
def LZ:=@List.drop_of_length_le
def UH:=@List.drop_sublist
def ln:=@List.drop_zero
def Eu:=@List.eq_nil_of_length_eq_zero
def Jc:=@List.ext_getElem?
def wB:=@List.extract_eq_take_drop
def wC:=@List.filterMap_append
def Gx:=@List.filter_append
def UI:=@List.filter_cons
def wD:=@List.filter_cons_of_neg
def wE:=@List.filter_cons_of_pos
def lq:=@List.filter_nil
def WY:=@List.flatMap_append
def H8:=@List.flatMap_cons
def qA:=@List.flatMap_nil
def qB:=@List.flatten_cons
def YU:=@List.foldl_append
def YV:=@List.foldl_cons
def R0:=@List.getD_eq_getElem?_getD
def Cb:=@List.getElem?_append_left
def Cu:=@List.getElem?_append_right
def lu:=@List.getElem?_cons_succ
def cY:=@List.getElem?_cons_zero
def KJ:=@List.getElem?_drop
def Au:=@List.getElem?_eq_getElem
def Cz:=@u?
def Gb:=@List.getElem?_eq_some_iff
def CO:=@List.getElem?_map
def Dk:=@List.getElem?_of_mem
def R1:=@List.getElem?_range
def R2:=@List.getElem?_set
def Dl:=@List.getElem?_set_ne
def HU:=@List.getElem?_set_self
def cj:=@List.getElem?_take
def KK:=@List.getElem?_take_of_lt
def lw:=@List.getElem?_toArray
def wF:=@List.getElem?_zip_eq_some
def KM:=@List.getElem_mem
def fW:=@List.getElem_take
def AV:=@List.length_append
def BW:=@List.length_cons
def DO:=@List.length_drop
def fX:=@List.length_eq_zero_iff
def EP:=@List.length_filter_le
def BX:=@List.length_map
def Be:=@List.length_nil
def tW:=@List.length_pos_of_mem
def H4:=@List.length_replicate
def Yj:=@List.length_set
def tX:=@List.length_singleton
def BU:=@List.length_take
def WP:=@List.length_take_le
def fY:=@List.length_take_le'
def Kp:=@List.map_append
def Lg:=@List.map_congr_left
def Bs:=@List.map_cons
def nP:=@List.map_drop
def fZ:=@List.map_id
def Lh:=@List.map_map
def H5:=@List.map_nil
def RK:=@List.map_toArray
def Ah:=@List.mem_append
def F4:=@List.mem_append_left
def Kq:=@List.mem_append_right
def As:=@List.mem_cons
def CU:=@List.mem_cons_of_mem
def Gj:=@List.mem_cons_self
def BG:=@List.mem_filter
def Pg:=@List.mem_filterMap
def En:=@List.mem_flatMap
def RM:=@List.mem_iff_getElem
def Eo:=@List.mem_iff_getElem?
def BY:=@List.mem_map
def Kr:=@List.mem_map_of_mem
def BP:=@List.mem_of_getElem?
def Nn:=@List.mem_of_mem_drop
def EJ:=@List.mem_of_mem_take
def Ph:=@List.mem_or_eq_of_mem_set
def Ie:=@List.mem_range
def Ax:=@a!
def tY:=@List.mem_zipIdx_iff_getElem?
def Bt:=@List.nil_append
def RN:=@List.nodup_append
def Gk:=@List.nodup_cons
def F5:=@List.nodup_iff_pairwise_ne
def RO:=@List.nodup_nil
def nQ:=@List.not_mem_nil
def tZ:=@List.pairwise_flatMap
def FA:=@List.pairwise_iff_getElem
def Pj:=@List.pairwise_map
def WQ:=@List.perm_ext_iff_of_nodup
def nR:=@List.replicate_succ
def Tq:=@List.set_append_right
def Yk:=@List.set_set
def tc:=@List.singleton_append
def fa:=@List.size_toArray
def WS:=@List.sum_cons
def Ca:=@List.take_add_one
def fb:=@List.take_append
def C4:=@List.take_append_drop
def fe:=@List.take_append_of_le_length
def Yl:=@List.take_left
def F6:=@List.take_left'
def If:=@List.take_length
def BN:=@List.take_of_length_le
def ff:=@List.take_sublist
def Li:=@List.take_take
def fg:=@List.zip_append
def fh:=@Nat.add_assoc
def WT:=@Nat.add_comm
def Ec:=@Nat.add_mul
def nS:=@Nat.add_sub_cancel
def Tr:=@Nat.add_sub_cancel_left
def No:=@Nat.add_zero
def H6:=@Nat.beq_refl
def DQ:=@Nat.eq_of_beq_eq_true
def WU:=@Nat.eq_zero_or_pos
def Pk:=@Nat.le_of_ble_eq_true
def Ao:=@Nat.le_refl
def C5:=@Nat.le_trans
def DX:=@Nat.lt_of_lt_of_le
def A1:=@Nat.lt_or_ge
def RP:=@Nat.lt_trichotomy
def RQ:=@Nat.min_eq_left
def Ts:=@Nat.mod_eq_of_lt
def Ym:=@Nat.mod_lt
def nT:=@Nat.mul_le_mul
def Lj:=@Nat.mul_le_mul_right
def Bq:=@Nat.ne_of_lt
def fi:=@Nat.pow_le_pow_right
def HG:=@Nat.sub_self
def nU:=@Nat.sub_zero
def nV:=@Nat.succ_mul
def Dg:=@Nat.zero_add
def BS:=@Nat.zero_le
def Yn:=@Nat.zero_mul
def Lk:=@Ne.symm
def Dh:=@Option.bind_eq_some_iff
def AD:=@Option.bind_some
def Yo:=@Option.getD_some
def fj:=@Option.isSome_iff_exists
def fk:=@Option.isSome_some
def Tt:=@Option.map_eq_some_iff
def nW:=@Option.map_none
def Bw:=@Option.map_some
def BL:=@Option.some.inj
def Av:=@Option.some.injEq
def nX:=@Option.toList_some
def Di:=@Prod.ext
def Ep:=@Prod.mk.injEq
def nY:=@Sum.elim_inr
def fm:=@UInt8.toNat_ofNat'
end Go
namespace Go.Ab
inductive Af where
 |bool (b:Bool)
 |int (k:IntKind) (n:Int)
 |str (s:List UInt8)
 |nilp
 |ptr (id g off:Nat)
 |vptr (cs:List Af)
 |nils
 |vs (sz:Nat) (rows:List Af)
 |sl (id g sz off len:Nat)
 |fn (f:Fn) (first caps:List Af)
 |yf (id:Nat)
 |mp (id:Nat)
 |itp (id m:Nat)
 |nilf
 |agg (cs:List Af)
 |tup (vs:List Af)
 |any
 deriving Inhabited
def Af.cells:Af->Ψ Af
 |.agg cs=>cs
 |v=>[v]
structure Cx where
 w:World
 n:Nat
 io:Nat->Option Nat
 gen:Nat->Nat
 cap:Nat->Nat
 O:Nat->Prop
inductive B3(x:Cx):Af->Value->Prop where
 |bool (b:Bool):B3 x (.bool b) (.bool b)
 |int (k:IntKind) (n:Int):B3 x (.int k n) (.int k n)
 |str {s:List UInt8} (t:ByteArray) (h:t.data.toList=s):B3 x (.str s) (.string t)
 |nilp:B3 x .nilp (.pointer none)
 |ptr {id g off:Nat}{c:Value} (hid:id<x.n) (hg:g≤x.gen id) (h1:c.oneCell'=true)
   (hc:x.gen id=g->∃B,x.io id=some B/\c=.pointer (some ⟨B,off,none⟩)):B3 x (.ptr id g off) c
 |vptr {cs:List Af}{B off:Nat} (f:Nat→Value) (hO:¬x.O B) (hB:B<x.w.heap.size)
   (hc:∀(j:Nat)(v:Af),cs[j]?=some v->x.w.cell? ⟨B,off+j,none⟩=some (f j)/\(f j).oneCell'=true)
   (hv:∀(j:Nat)(v:Af),cs[j]?=some v->B3 x v (f j)):B3 x (.vptr cs) (.pointer (some ⟨B,off,none⟩))
 |nils:B3 x .nils (.slice none 0 0)
 |vs {sz:Nat}{rows:List Af}{a:Option Addr}{cap:Nat} (f:Nat→Nat→Value) (hcap:rows.length≤cap) (hsz:0<sz)
   (hrow:∀(j:Nat)(e:Af),rows[j]?=some e->e.cells.length=sz)
   (ha:rows≠ []->∃B off,a=some ⟨B,off,none⟩/\¬x.O B/\B<x.w.heap.size/\
    ∀(j:Nat)(e:Af)(i:Nat)(v:Af),rows[j]?=some e->e.cells[i]?=some v->x.w.cell? ⟨B,off+(j*sz+i),none⟩=some (f j i)/\(f j i).oneCell'=true)
   (hv:∀(j:Nat)(e:Af)(i:Nat)(v:Af),rows[j]?=some e->e.cells[i]?=some v->B3 x v (f j i)):B3 x (.vs sz rows) (.slice a rows.length cap)
 |sl {id g sz off len:Nat}{c:Value} (hid:id<x.n) (hg:g≤x.gen id) (h1:∃a cap,c=.slice a len cap)
   (hc:x.gen id=g->(x.io id=none/\len=0/\off=0/\c=.slice none 0 0)\/
    ∃B cap,x.io id=some B/\len<=cap/\off+cap*sz<=x.cap id/\c=.slice (some ⟨B,off,none⟩) len cap):B3 x (.sl id g sz off len) c
 |fn {f:Fn}{first caps:List Af}{first' caps':Array Value} (h1:first'.size=first.length) (h2:caps'.size=caps.length)
   (hv1:∀(j:Nat)(v:Af)(c:Value),first[j]?=some v->first'[j]?=some c->B3 x v c) (hv2:∀(j:Nat)(v:Af)(c:Value),caps[j]?=some v->caps'[j]?=some c->B3 x v c):
   B3 x (.fn f first caps) (.func f first' caps')
 |yf {id:Nat}{c:Value} (hid:id<x.n) (h1:c.oneCell'=true) (hc:x.gen id=0->∃B,x.io id=some B/\c=.func (.yield B) #[] #[]):B3 x (.yf id) c
 |mp {id:Nat}{c:Value} (hid:id<x.n) (h1:c.oneCell'=true) (hc:x.gen id=0->∃B,x.io id=some B/\c=.map (some B)):B3 x (.mp id) c
 |itp {id m:Nat}{c:Value} (hid:id<x.n) (hm:m<x.n) (h1:c.oneCell'=true) (hc:x.gen id=0->∃B,x.io id=some B/\c=.pointer (some ⟨B,0,none⟩)/\(x.gen m=0->x.io m=some (x.cap id))):B3 x (.itp id m) c
 |nilf:B3 x .nilf .nilFunc
 |agg {cs:List Af}{cs':Array Value} (h:cs'.size=cs.length) (h1:∀(j:Nat)(c:Value),cs'[j]?=some c→c.oneCell'=true)
   (hv:∀(j:Nat)(v:Af)(c:Value),cs[j]?=some v->cs'[j]?=some c->B3 x v c):B3 x (.agg cs) (.agg cs')
 |tup {vs:List Af}{vs':Array Value} (h:vs'.size=vs.length)
   (hv:∀(j:Nat)(v:Af)(c:Value),vs[j]?=some v->vs'[j]?=some c->B3 x v c):B3 x (.tup vs) (.tuple vs')
 |any (c:Value):B3 x .any c
structure Cx.Later(x y:Cx):Prop where
 size:x.w.heap.size<=y.w.heap.size
 keep:∀B,B<x.w.heap.size->¬x.O B->∀off,y.w.cell? ⟨B,off,none⟩=x.w.cell? ⟨B,off,none⟩
 own:∀B,B<x.w.heap.size->y.O B->x.O B
 n:x.n<=y.n
 gen:∀id,id<x.n->x.gen id<=y.gen id
 same:∀id,id<x.n->y.gen id=x.gen id->y.io id=x.io id/\y.cap id=x.cap id
variable {N t:Nat}{w G:World}{b W:TypeId}{c I:Value}{P:Program}{d x T:Af}{e:Nat→Prop}{f v:Ψ Af}{o:Oper}{i:Cx}{a:Act}{l:Ψ Nat}{j:Ω Nat}{L:Array Bool}{k:Array Value}{m Y:Operand}{n:Ω (Ψ Deferred)}{q:Array Oper}{r:Code}{s:Bool}{X:Nat->Prop}{y:TypeInfo}{C:Ψ Value}{E:Nat×Nat}{F:Nat->Nat}{M:IntKind}{O:FuncId}{R:BinOp}{U:Prop}{V:Func}{Z:Obj}
theorem mz(h:G.heap[N]?=w.heap[N]?)(a:z):G.cell? ⟨N,a,ε⟩=w.cell? ⟨N,a,ε⟩:=by grind[World.cell?]
theorem B3.later{x y:Cx}(h:x.Later y)(r:B3 x d c):B3 y d c:=by
 induction r with
 |bool b=>exact .bool b
 |int k n=>exact .int k n
 |str t J=>exact .str t J
 |nilp=>exact .nilp
 |ptr a w v m=>refine .ptr (DX a h.n) (C5 w (h.gen _ a)) v λe=>?_;have v:=h.gen _ a;have l:=h.same _ a o!;grind
 |vptr f q g m K p=>refine .vptr f (λo=>q (h.own _ g o)) (DX g h.size) (λj d H=>?_) p;rw[h.keep _ g q];grind
 |nils=>exact .nils
 |vs f s C u G K p=>refine .vs f s C u (λA_=>?_) p;obtain⟨B,F,e,q,g,m⟩:=G A_;refine⟨B,F,e,(λo=>q (h.own _ g o)),DX g h.size,λj e i d H N=>?_⟩;rw[h.keep _ g q];grind
 |sl a w v m=>refine .sl (DX a h.n) (C5 w (h.gen _ a)) v λe=>?_;have v:=h.gen _ a;have l:=h.same _ a o!;grind
 |fn v l _ _ D_ E=>exact .fn v l D_ E
 |yf a v m=>refine .yf (DX a h.n) v λe=>?_;have v:=h.gen _ a;have l:=h.same _ a o!;grind
 |mp a v m=>refine .mp (DX a h.n) v λe=>?_;have v:=h.gen _ a;have l:=h.same _ a o!;grind
 |itp a z v m=>refine .itp (DX a h.n) (DX z h.n) v λe=>?_;have v:=h.gen _ a;have l:=h.same _ a o!;obtain⟨B,g,I,O⟩:=m o!;refine⟨B,l.1.trans g,I,λe=>?_⟩;have L:=h.gen _ z;have M:=h.same _ z o!;grind
 |nilf=>exact .nilf
 |agg h v _ p=>exact .agg h v p
 |tup h _ p=>exact .tup h p
 |any c=>exact .any c
abbrev Env:=Ψ (z×Af)
structure mr where
 n:Nat
 env:Env
 params:Array Tmp
 assign:Code
 body:Code
 state:LoopState
 pending:Option Code
inductive Fv where
 |dead
 |live (g:Nat) (cells:List Af)
 |lp (L:mr)
 |mp (k:IntKind) (es:List (Int×Af))
 |it (n:Nat) (seen:List Nat)
 deriving Inhabited
def Fv.isB:Fv->Bool
 |.mp _ _=>A
 |.it _ _=>A
 |_=>η
abbrev Ay:=Ψ Fv
structure Gh where
 io:Nat->Option Nat
 gen:Nat->Nat
 cap:Nat->Nat
def owned(h:Gh)(H:Ay)(B:z):Prop:=∃id e,H[id]?=D e/\e≠Fv.dead/\h.io id=D B
def cx(X:z->Prop)(h:Gh)(H:Ay)(w:World):Cx:=⟨w,θ H,h.io,h.gen,h.cap,λB=>X B\/owned h H B⟩
def ABi(x:Cx)(id g:Nat)(cs:List Af):Prop:=
 x.gen id=g/\((x.io id=none/\cs=[])\/ ∃(B:Nat) (arr:Array Value) (T:TypeId) (fz:Nat×Nat) (f:Nat->Value),x.io id=some B/\x.w.heap[B]? =some (.cells arr T fz)/\arr.size=x.cap id/\
  cs.length<=arr.size/\(∀i,i<arr.size->(decide (fz.1<=i)&&decide (i<fz.2))=false)/\
  ∀(j:Nat) (v:Af),cs[j]? =some v->arr[j]? =some (f j)/\(f j).oneCell'=true/\B3 x v (f j))
def xK(x:Cx)(id:Nat)(L:mr):Prop:=
 x.gen id=0/\ ∃(B:Nat) (r:Loop),x.io id=some B/\x.w.heap[B]? =some (.loop r)/\r.state=L.state/\r.pending=L.pending/\r.params=L.params/\r.assign=L.assign/\r.body=L.body/\r.tmps.size=L.n/\
  ∀t v,(t,v)∈L.env->t<L.n/\B3 x v (r.tmps.getD t undef)
def BAt(h:Gh)(w:World)(id:Nat):Fv->Prop
 | .mp k es=> ∃(B:Nat) (arr:Array MapEntry),h.io id=some B∧h.gen id=0∧w.heap[B]? =some (.map arr arr.size)∧arr.size=es.length∧
   ∀(j:Nat) (p:Int×Af),es[j]? =some p-> ∃e:MapEntry,arr[j]? =some e/\e.born=j/\e.key= .int k p.1/\ ∀x,B3 x p.2 e.val
 | .it n seen=> ∃B,h.io id=some B/\h.gen id=0/\w.heap[B]? =some (.mapIter (some (h.cap id)) n seen.toArray n)
 |_=>True
structure I6(X:Nat->Prop)(h:Gh)(H:Ay)(w:World):Prop where
 out:∀B,X B->B<w.heap.size/\¬owned h H B
 live:∀(id g:Nat)(cs:List Af),H[id]?=some (Fv.live g cs)->ABi (cx X h H w) id g cs
 lp:∀(id:Nat)(L:mr),H[id]?=some (Fv.lp L)->xK (cx X h H w) id L
 inj:∀(id id':Nat)(e e':Fv)(B:Nat),H[id]?=some e->H[id']?=some e'->e≠.dead->e'≠.dead->h.io id=some B->h.io id'=some B->id=id'
 bld:∀(id:Nat)(e:Fv),H[id]?=some e->e.isB=true->BAt h w id e
variable {H S:Ay}{h Q:Gh}{g:Env}{p:Fv}{K:Af->Ay->Prop}{B:Af→Ay→Prop}
theorem I6.bldKeep{X:Nat→Prop}{h i:Gh}{H p:Ay}{w t:World}(s:I6 X h H w)
  (key: ∀(id:Nat) (e:Fv),p[id]? =some e->e.isB=true->H[id]? =some e/\i.io id=h.io id/\i.gen id=h.gen id/\i.cap id=h.cap id/\ ∀B (o:Obj),h.io id=some B->w.heap[B]? =some o->(∀z,o≠ .deferred z)->t.heap[B]? =w.heap[B]?):
  ∀(id:Nat) (e:Fv),p[id]? =some e->e.isB=true->BAt i t id e:=by
 intro id e v q;obtain⟨m,g,a,f,r⟩:=key id e v q;have b:=s.bld id e m q;cases e with
 |mp k x=>obtain⟨B,j,c,l,d,u⟩:=b;exact⟨B,j,g.trans c,a.trans l,(r B _ c d (λz=>by simp)).trans d,u⟩
 |it n seen=>obtain⟨B,c,l,d⟩:=b;exact⟨B,g.trans c,a.trans l,by rw[f];exact(r B _ c d (λz=>by simp)).trans d⟩
 |_=>trivial
def PY(x:Cx)(env:Env)(a:Act):Prop:=∀t v,(t,v)∈env->t<a.tmps.size/\B3 x v (a.tmps.getD t undef)
structure St(X:Nat->Prop)(h:Gh)(N:Nat)(env:Env)(H:Ay)(a:Act)(w:World):Prop where
 sim:I6 X h H w
 env:PY (cx X h H w) env a
 size:a.tmps.size=N
structure HT(h:Gh)(H:Ay)(w:World)(h':Gh)(H':Ay)(w':World):Prop where
 os:w'.os=w.os
 tape:w'.tape=w.tape
 output:w'.output=w.output
 size:w.heap.size<=w'.heap.size
 keep:∀B,B<w.heap.size->¬owned h H B->w'.heap[B]?=w.heap[B]?
 n:H.length<=H'.length
 gen:∀id,id<H.length->h.gen id<=h'.gen id
 same:∀id,id<H.length->h'.gen id=h.gen id->h'.io id=h.io id/\h'.cap id=h.cap id
 fresh:∀B,owned h' H' B->owned h H B\/w.heap.size<=B
 loops:∀(B:Nat)(r:Loop),w.heap[B]?=some (.loop r)->∃r':Loop,w'.heap[B]?=some (.loop r')
def HT.refl(h:Gh)(H:Ay)(w:World):HT h H w h H w:=⟨rfl,rfl,rfl,Ao _,λ_ _ _=>rfl,Ao _,λ_ _=>Ao _,λ_ _ _=>⟨rfl,rfl⟩,λ_ h=>.inl h,λ_ r h=>⟨r,h⟩⟩
theorem HT.trans{c j k}{f g i}{l m o}(a:HT c f l j g m)(b:HT j g m k i o):HT c f l k i o where
 os:=b.os.trans a.os
 tape:=b.tape.trans a.tape
 output:=b.output.trans a.output
 size:=C5 a.size b.size
 keep B hB hn:=(b.keep B (DX hB a.size) λd=>by rcases a.fresh B d with h|h;grind;omega).trans (a.keep B hB hn)
 n:=C5 a.n b.n
 gen id hid:=C5 (a.gen id hid) (b.gen id (DX hid a.n))
 same id hid e:=by have q:=a.gen id hid;have s:=b.gen id (DX hid a.n);have u:=a.same id hid o!;have v:=b.same id (DX hid a.n) o!;grind
 fresh B d:=by rcases b.fresh B d with h|h;exact a.fresh B h;exact .inr (C5 a.size h)
 loops B r h:=by obtain⟨p,c⟩:=a.loops B r h;exact b.loops B p c
def HT.later{h c}{H b}{w d}(e:HT h H w c b d)(X:z->Prop):(cx X h H w).Later (cx X c b d)where
 size:=e.size
 keep B hB hO off:=mz (e.keep B hB λa=>hO (.inr a)) off
 own B hB a:=by rcases a with a|a;exact .inl a;rcases e.fresh B a with h|h;exact .inr h;simp only[cx]at hB;omega
 n:=e.n
 gen:=e.gen
 same:=e.same
def PY.later{x y:Cx}(l:x.Later y)(h:PY x g a):PY y g a:=λt v m=>⟨(h t v m).1,(h t v m).2.later l⟩
def E8(P:u)(F:FuncId)(args:Ψ Af)(H:Ay)(Q:Af->Ay->Prop):Prop:=
 ∀X h w(cargs:Array Value),I6 X h H w->cargs.size=θ args->
  (∀(j:z)(v:Af)(c:Value),args[j]?=D v->cargs[j]?=D c->B3 (cx X h H w) v c)->
  Calls P F cargs w λe w'=>∃c v h' H',e=.returned c/\Q v H'/\I6 X h' H' w'/\B3 (cx X h' H' w') v c/\HT h H w h' H' w'
def FR(r:Ω z):Fence:={Fence.wide with round:=r}
def WO(a:Act)(w:World)(a':Act)(w':World):Prop:=
 ∃ds,a'.defers=ds++a.defers/\ds.Nodup/\∀d∈ds,∃D,d={target:=.collected D,args:= #[]}/\w.heap.size<=D/\w'.heap[D]?=δ (.deferred (δ []))
def aA(r:Ω z)(w:World):Prop:=∀l,r=D l->∃x:Loop,w.heap[l]?=D (.loop x)
def WO.same{b:Act}{w c}(h:b.defers=a.defers):WO a w b c:=⟨[],by simp[h],.nil,λ_ h=>by cases h⟩
def I6.deferred(s:I6 X h H w)(j:w.heap[N]?=D (.deferred n)):¬owned h H N:=by
 rintro⟨id,e,l,o,b⟩;cases e with
 |dead=>exact o rfl
 |live g p=>rcases(s.live id g p l).2 with⟨hn,_⟩|⟨B,m,T,t,f,a,i,_⟩;rw[show(cx X h H w).io id=h.io id from rfl,b]at hn;cases hn;rw[show(cx X h H w).io id=h.io id from rfl,b]at a;injection a with e;subst e;rw[show(cx X h H w).w.heap=w.heap from rfl,j]at i;cases i
 |lp L=>obtain⟨_,B,r,a,i,_⟩:=s.lp id L l;rw[show(cx X h H w).io id=h.io id from rfl,b]at a;injection a with e;subst e;rw[show(cx X h H w).w.heap=w.heap from rfl,j]at i;cases i
 |mp k q=>obtain⟨B,m,c,_,d,_⟩:=s.bld id _ l rfl;rw[b]at c;injection c with e;subst e;rw[j]at d;cases d
 |it D_ seen=>obtain⟨B,c,_,d⟩:=s.bld id _ l rfl;rw[b]at c;injection c with e;subst e;rw[j]at d;cases d
theorem tD(h:w.heap[N]?=D Z):N<w.heap.size:=q!
def HT.defs(x:HT h H w Q S G)(s:I6 X h H w)(a:w.heap[N]?=D (.deferred n)):G.heap[N]?=D (.deferred n):=(x.keep N (tD a) (s.deferred a)).trans a
theorem WO.trans{X:Nat->Prop}{h j b}{H f n}{a a1 a2}{w e m}(o:WO a w a1 e)(s:I6 X j f e)(z:HT h H w j f e)(x:HT j f e b n m)(p:WO a1 e a2 m):WO a w a2 m:=by obtain⟨g,B,t,v⟩:=o;obtain⟨i,C,u,y⟩:=p;refine⟨i++g,q!,RN.2 ⟨u,t,λd r A_ q E=>?_⟩,λd c=>?_⟩;grind;rcases Ah.1 c with c|c;obtain⟨D_,k,b,l⟩:=y d c;exact⟨D_,k,C5 z.size b,l⟩;obtain⟨D_,k,b,l⟩:=v d c;exact⟨D_,k,b,x.defs s l⟩
def aA.later{h c}{H b}{w a}(k:aA j w)(x:HT h H w c b a):aA j a:=λl e=>by obtain⟨y,d⟩:=k l e;exact x.loops l y d
def KC(P:u)(N:z)(c:Code)(env:Env)(H:Ay)(Q:Exit->Env->Ay->Prop):Prop:=
 ∀r X h a w,St X h N env H a w->aA r w->
  c.wpIn (FR r) 0 P (λe a' w'=>∃h' env' H',Q e env' H'/\St X h' N env' H' a' w'/\HT h H w h' H' w'/\WO a w a' w') a w
def E8.mono{P}{F}{H}{d:Af->Ay->Prop}(h:E8 P F f H K)(i:∀v b,K v b->d v b):E8 P F f H d:=λX g w a s j hr=>(h X g w a s j hr).mono λ_ _ ⟨c,v,Q,b,e,q,r⟩=>⟨c,v,Q,b,e,i _ _ q,r⟩
def KC.mono{P}{N}{H}{Q f:Exit->Env->Ay->Prop}(h:KC P N r g H Q)(j:∀e b d,Q e b d->f e b d):KC P N r g H f:=λc X l a w s k=>wpIn_mono (h c X l a w s k) λ_ _ _ ⟨i,b,d,q,c⟩=>⟨i,b,d,j _ _ _ q,c⟩
def fR(K:Env->Ay->Prop)(Q:Exit->Env->Ay->Prop):Exit->Env->Ay->Prop
 |.normal,env,H=>K env H
 |e,env,H=>Q e env H
def qE(id:z)(Q:Exit->Env->Ay->Prop):Exit->Env->Ay->Prop
 |.exit id',env,H=>if id'=id then Q .normal env H else Q (.exit id') env H
 |e,env,H=>Q e env H
section rules
variable {P:Program}{N:Nat}{env:Env}{H:Ay}{Q:Exit->Env->Ay->Prop}
def KC.skip(h:Q .normal env H):KC P N .skip env H Q:=λ_ _ _ _ _ s _=>wpIn_skip ⟨_,_,_,h,s,HT.refl _ _ _,.same rfl⟩
def KC.ret(h:Q .ret env H):KC P N .ret env H Q:=λ_ _ _ _ _ s _=>wpIn_ret ⟨_,_,_,h,s,HT.refl _ _ _,.same rfl⟩
def KC.exit(h:Q (.exit t) env H):KC P N (.exit t) env H Q:=λ_ _ _ _ _ s _=>wpIn_exit ⟨_,_,_,h,s,HT.refl _ _ _,.same rfl⟩
def KC.seq{x y}(h:KC P N x env H (fR (λb d=>KC P N y b d Q) Q)):KC P N (.seq x y) env H Q:=by
 intro r X g a w s k;refine wpIn_seq (wpIn_mono (h r X g a w s k) ?_);rintro e n v ⟨j,b,d,q,f,c,i⟩;cases e with
 |normal=>apply wpIn_mono (q r X j n v f (k.later c));rintro e a2 z ⟨p,env2,m,t,u,l,o⟩;exact⟨p,env2,m,t,u,c.trans l,i.trans f.sim c l o⟩
 |_=>exact⟨j,b,d,q,f,c,i⟩
theorem KC.block{id}(h:KC P N r env H (qE id Q)):KC P N (.block id r) env H Q:=by intro c X g a w s k;refine wpIn_block (wpIn_mono (h c X g a w s k) ?_);rintro e f j ⟨i,b,d,q,c⟩;cases e<;>grind[qE,Exit.inBlock]
def Fp(N n0:z)(env:Env)(H:Ay)(env2:Env)(H2:Ay):Prop:=
 n0<=θ H2/\∀X h a w,St X h N env H a w->
  ∃h2,St X h2 N env2 H2 a w/\(∀id,id<n0->h2.gen id=h.gen id/\h2.io id=h.io id/\h2.cap id=h.cap id)/\∀B,owned h2 H2 B->owned h H B
def Fp.ext{j d:Gh}{f:Ay}(hn:θ f=N)(o:N≤θ S)
  (k:∀id,id<N->d.gen id=h.gen id/\d.io id=h.io id/\d.cap id=h.cap id) (m:∀B,owned d S B->owned h H B) (x:HT j f G h H w):HT j f G d S w where
 os:=x.os
 tape:=x.tape
 output:=x.output
 size:=x.size
 keep:=x.keep
 n:=o!
 gen id hid:=by rw[(k id o!).1];exact x.gen id hid
 same id hid e:=by obtain⟨a,b,c⟩:=k id o!;rw[a]at e;rw[b,c];exact x.same id hid e
 fresh B hB:=x.fresh B (m B hB)
 loops:=x.loops
theorem Fp.refl(N:z)(env:Env)(H:Ay):Fp N (θ H) env H env H:=⟨Ao _,λ_ h _ _ s=>⟨h,s,λ_ _=>⟨rfl,rfl,rfl⟩,λ_ h=>h⟩⟩
def KC.weak(f:Fp N (θ H) env H g S)(h:KC P N r g S Q):KC P N r env H Q:=by intro c X d a w s k;obtain⟨m,t,n,o⟩:=f.2 X d a w s;apply wpIn_mono (h c X m a w t k);rintro e v x ⟨l,b,i,q,p,u,j⟩;exact⟨l,b,i,q,p,(Fp.ext rfl f.1 n o (HT.refl d H w)).trans u,j⟩
end rules
def Env.get:Env->z->Af
 |[],_=>.any
 |(k,v)::r,t=>if k=t then v else Env.get r t
def Env.put(env:Env)(t:z)(v:Af):Env:=(t,v)::env.filter λp=>decide (p.1≠t)
def Env.putO(env:Env):Ω z->Af->Env
 |some t,v=>env.put t v
 |none,_=>env
theorem Oh{env}{t}:Env.get env t=.any\/(t,Env.get env t)∈env:=by induction env<;>grind[Env.get]
def rZ:Value->Af
 |.bool b=>.bool b
 |.int k n=>.int k n
 |.string s=>.str s.data.toList
 |.pointer ε=>.nilp
 |.slice ε 0 0=>.nils
 |.nilFunc=>.nilf
 |_=>.any
def AC6:Value->Af
 |.agg cs=>if cs.toList.all (·.oneCell')then .agg (cs.toList.map rZ)else .any
 |v=>rZ v
theorem qP(x:Cx)(v:Value):B3 x (rZ v) v:=by unfold rZ;split;exact .bool _;exact .int _ _;exact .str _ rfl;exact .nilp;exact .nils;exact .nilf;exact .any _
theorem y8(x:Cx)(v:Value):B3 x (AC6 v) v:=by unfold AC6;split;rename_i b;split;rename_i h;refine .agg k! (λj c a=>?_) λj v c a d=>?_;grind;grind[qP];exact .any _;exact qP x _
def BR(env:Env):Operand->Af
 |.tmp t=>env.get t
 |.const v=>AC6 v
 |.global _=>.any
 |.func f=>.fn (.func f) [] []
def Dy(h:PY i g a)(o:Operand):B3 i (BR g o) (a.eval o):=by
 cases o with
 |tmp t=>rcases Oh (env:=g) (t:=t)with e|m;simp only[BR,e];exact .any _;exact(h _ _ m).2
 |const v=>exact y8 i v
 |global x=>exact .any _
 |func f=>exact .fn rfl rfl (λ_ _ _ h=>by simp at h) (λ_ _ _ h=>by simp at h)
theorem PY.put(h:PY i g a){d:z}{v}(k:d<a.tmps.size)(j:B3 i v c):PY i (g.put d v) (a.put (D d) c):=by
 intro t u m;simp only[Act.put];rcases As.1 m with e|m;simp_all;rw[BG]at m;obtain⟨m,b⟩:=m;have b:t≠d:=q!
 obtain⟨f,x⟩:=h t u m;have:(a.tmps.setIfInBounds d c).getD t undef=a.tmps.getD t undef:=by rw[RR,RR,vz (b ·.symm)]
 grind
def PY.putO(h:PY i g a){v}(b:∀t,j=D t->t<a.tmps.size)(e:B3 i v c):PY i (g.putO j v) (a.put j c):=by
 cases j with
 |none=>exact h
 |some j=>exact h.put (b j rfl) e
def fM(a:Act)(d:Ω z)(c:Value):(a.put d c).tmps.size=a.tmps.size:=by cases d<;>simp[Act.put]
def Jy(P:u)(N:z)(o:Oper)(env:Env)(H:Ay)(K:Af->Ay->Prop):Prop:=
 ∀r X h a w,St X h N env H a w->∀Q:Exit->Act->World->Prop,
  Oper.wpIn (FR r) 0 P o a w (λa' w'=>∃c v h' H',a'=a.put o.dst c/\K v H'/\B3 (cx X h' H' w') v c/\I6 X h' H' w'/\HT h H w h' H' w') Q
def Jy.mono{P}{N}{H}{d:Af->Ay->Prop}(h:Jy P N o g H K)(i:∀v b,K v b->d v b):Jy P N o g H d:=λr X j a w s Q=>Oper.wpIn_mono (λ_ _ ⟨c,v,f,b,e,k,r⟩=>⟨c,v,f,b,e,i _ _ k,r⟩) (h r X j a w s Q)
def Op.plain:Op->Bool
 |.defer _=>η
 |_=>A
def DG(n:Op.plain o.op=A)(h:∀X h a w,St X h N g H a w→ ∀Q:Exit→Act→World→Prop,
  Oper.wp P o a w (λp b=>∃c v i e,p=a.put o.dst c/\B v e/\B3 (cx X i e b) v c/\I6 X i e b/\HT h H w i e b) Q):Jy P N o g H B:=by
 intro r X K a w s Q;have d:=h X K a w s Q;refine⟨λ_ _=>P!,?_⟩;rw[Oper.semAt_eq _ _ _ (λc j=>by rw[j]at n;cases n)];unfold Oper.wp at d;generalize (execOp a.eval o).run P w=res at d;have j:∀{f}{args}{b}{R},Calls P f args b R->CallsIn (FR r) (0-1) P f args b R:=by
  intro f args b R t;have m:CallsIn Fence.wide (0-1) P f args b R:=callsIn_wide.2 t;cases r with
  |none=>exact m
  |some l=>exact m
 cases res with
 |ok v b=>
  cases v with
  |enter f args=>exact⟨(λh=>by cases h),j d⟩
  |row row args=>refine⟨(λh=>by cases h),λc q _=>?_⟩;obtain⟨v,k,u,y⟩:=d c q;exact⟨v,k,u,stepsIn_wide.2 y⟩
  |round l f tmps assign body=>exact d.elim
  |_=>exact d
 |halt x b=>cases x<;>exact d
def XM(ops:Array Oper)(env:Env)(j:z):Af:=
 match (ops[j]?).bind (·.dst)with
 |some d=>env.get d
 |none=>.any
def Yd(ops:Array Oper)(g:Ω (z×Bool))(env:Env)(A_ B:Prop):Prop:=
 match g with
 |none=>A_
 |some (j,want)=>
  match XM ops env j with
  |.bool b=>(b=want->A_)/\(b=(!want)->B)
  |.tup []=>B
  |_=>False
def Pv(n:z)(ops:Ψ Oper):Bool:=ops.all λo=>match o.dst with|some d=>decide (d<n)|none=>A
theorem zL(s:PY i g a){B:Prop}(h:Yd q o.guard g U B):
  (Region.wanted o (yielded q a.tmps)=A/\U)\/(Region.wanted o (yielded q a.tmps)=η/\B):=by
 unfold Yd at h;unfold Region.wanted;cases v:o.guard with
 |none=>grind
 |some p=>
  obtain⟨j,k⟩:=p;rw[v]at h;simp only at h⊢;cases f:XM q g j with
  |bool b=>
   rw[f]at h;simp only at h;have r:yielded q a.tmps j=D b:=by
    unfold XM at f;unfold yielded;cases n:(q[j]?).bind (·.dst)with
    |none=>grind
    |some d=>
     rw[n]at f;simp only at f;simp only[AD];rcases Oh (env:=g) (t:=d)with e|m;grind;rw[f]at m;obtain⟨A_,hr⟩:=s _ _ m;have:a.tmps[d]?=D (.bool b):=by
      have x:a.tmps.getD d undef=.bool b:=by generalize a.tmps.getD d undef=c at hr;cases hr;rfl
      rw[RR]at x;grind[Array.getElem?_eq_getElem]
     rw[this]
   rw[r];by_cases u:b=k;grind;refine .inr ⟨by simp[u],h.2 ?_⟩;cases b<;>cases k<;>simp_all
  |tup w=>
   cases w with
   |cons _ _=>grind
   |nil=>
    rw[f]at h;simp only at h;refine .inr ⟨?_,h⟩;have r:yielded q a.tmps j=ε:=by
     unfold XM at f;unfold yielded;cases n:(q[j]?).bind (·.dst)with
     |none=>rfl
     |some d=>
      rw[n]at f;simp only at f;simp only[AD];rcases Oh (env:=g) (t:=d)with e|m;grind;rw[f]at m;obtain⟨A_,hr⟩:=s _ _ m;have x:∃l,a.tmps.getD d undef=.tuple l:=by generalize a.tmps.getD d undef=c at hr;cases hr;exact⟨_,rfl⟩
      obtain⟨l,x⟩:=x;have:a.tmps[d]?=D (.tuple l):=t!
      rw[this]
    rw[r];rfl
  |_=>grind
section
variable {P:Program}{N:Nat}{env:Env}{H:Ay}{Q:Exit->Env->Ay->Prop}
def KC.cond{y}{b:Bool}(d:BR env m=.bool b)(h:b=A->KC P N r env H Q)(f:b=η->KC P N y env H Q):KC P N (.cond m r y) env H Q:=by
 intro c X g a w s k;have hr:=Dy s.env m;rw[d]at hr;have e:a.eval m=.bool b:=by generalize a.eval m=v at hr;cases hr;rfl
 apply wpIn_cond e;cases b;exact f rfl c X g a w s k;exact h rfl c X g a w s k
end
mutual
def Af.idsAll(p:z->Bool):Af->Bool
 |.ptr id _ _=>p id
 |.sl id _ _ _ _=>p id
 |.yf id=>p id
 |.mp id=>p id
 |.itp id m=>p id&&p m
 |.vptr cs=>Af.idsAllL p cs
 |.vs _ rows=>Af.idsAllL p rows
 |.fn _ a b=>Af.idsAllL p a&&Af.idsAllL p b
 |.agg cs=>Af.idsAllL p cs
 |.tup cs=>Af.idsAllL p cs
 |.bool _|.int _ _|.str _|.nilp|.nils|.nilf|.any=>A
def Af.idsAllL(p:z->Bool):Ψ Af->Bool
 |[]=>A
 |v::r=>Af.idsAll p v&&Af.idsAllL p r
end
mutual
def Af.ren(ρ:z->z):Af->Af
 |.ptr id g off=>.ptr (ρ id) g off
 |.sl id g sz off len=>.sl (ρ id) g sz off len
 |.yf id=>.yf (ρ id)
 |.mp id=>.mp (ρ id)
 |.itp id m=>.itp (ρ id) (ρ m)
 |.vptr cs=>.vptr (Af.renL ρ cs)
 |.vs sz rows=>.vs sz (Af.renL ρ rows)
 |.fn f a b=>.fn f (Af.renL ρ a) (Af.renL ρ b)
 |.agg cs=>.agg (Af.renL ρ cs)
 |.tup cs=>.tup (Af.renL ρ cs)
 |.bool b=>.bool b
 |.int k n=>.int k n
 |.str s=>.str s
 |.nilp=>.nilp
 |.nils=>.nils
 |.nilf=>.nilf
 |.any=>.any
def Af.renL(ρ:z->z):Ψ Af->Ψ Af
 |[]=>[]
 |v::r=>Af.ren ρ v::Af.renL ρ r
end
theorem PO(a:z->z)(l:Ψ Af):Af.renL a l=l.map (Af.ren a):=by induction l<;>grind[Af.renL]
theorem D7(p:z->Bool)(l:Ψ Af):Af.idsAllL p l=A↔∀v∈l,v.idsAll p=A:=by induction l<;>grind[Af.idsAllL]
theorem Nj{p:z->Bool}(h:Af.idsAllL p f=A)(a:f[N]?=D d):d.idsAll p=A:=by grind[D7]
theorem w9(a:z->z)(v:Af):(v.ren a).cells=v.cells.map (Af.ren a):=by cases v<;>simp[Af.ren,Af.cells,PO]
def Vl{p:z->Bool}(h:d.idsAll p=A):∀u∈d.cells,u.idsAll p=A:=by
 cases d<;>simp only[Af.cells,Ax]<;>first
  |(intro u a;subst a;exact h)
  |(simp only[Af.idsAll]at h;exact(D7 _ _).1 h)
theorem B3.ren{x y:Cx}{p:Nat→Bool}{ρ:Nat→Nat}(F:∀id,p id=A→id<x.n→ρ id<y.n∧y.gen (ρ id)=x.gen id∧y.io (ρ id)=x.io id∧y.cap (ρ id)=x.cap id)
  (Y:y.w=x.w) (hO:∀B,y.O B->x.O B) {v:Af}  (r:B3 x v c):v.idsAll p=A->B3 y (v.ren ρ) c:=by
 induction r with
 |bool b=>exact λ_=>.bool b
 |int k n=>exact λ_=>.int k n
 |str t L=>exact λ_=>.str t L
 |nilp=>exact λ_=>.nilp
 | @ptr id g H c A_ T E z=>intro q;obtain⟨a,b,d,e⟩:=F id q A_;refine .ptr a (by rw[b];exact T) E λC=>?_;rw[b]at C;rw[d];exact z C
 | @vptr cs B H f K S z X M=>intro q;simp only[Af.idsAll]at q;simp only[Af.ren,PO];refine .vptr f (λo=>K (hO B o)) (by rw[Y];exact S) (λj v l=>?_) λj v l=>?_;grind;grind[Option.some.injEq,Nj]
 |nils=>exact λ_=>.nils
 | @vs sz D_ a cap f P W al ha X M=>
  intro q;simp only[Af.idsAll]at q;simp only[Af.ren,PO];have I:∀{j:Nat}{e:Af},(D_.map (Af.ren ρ))[j]?=D e->∃u,D_[j]?=D u/\e=u.ren ρ:=by grind[Option.some.injEq]
  have G:∀{u:Af}{i:Nat}{v:Af},(u.ren ρ).cells[i]?=D v->∃t,u.cells[i]?=D t/\v=t.ren ρ:=by grind[w9,Option.some.injEq]
  have J:(D_.map (Af.ren ρ)).length=θ D_:=k!
  rw[<-J];refine .vs f (by rw[J];exact P) W (λj e l=>?_) (λV=>?_) λj e i v l U=>?_;grind[w9,List.length_map];obtain⟨B,H,e,K,S,z⟩:=ha (by simpa using V);refine⟨B,H,e,λo=>K (hO B o),by rw[Y];exact S,λj e i v l U=>?_⟩;obtain⟨u,s,rfl⟩:=I l;obtain⟨t,L,rfl⟩:=G U;rw[Y];exact z j u i t s L;obtain⟨u,s,rfl⟩:=I l;obtain⟨t,L,rfl⟩:=G U;exact M j u i t s L (Vl (Nj q s) _ (BP L))
 | @sl id g sz H len c A_ T E z=>intro q;obtain⟨a,b,d,e⟩:=F id q A_;refine .sl a (by rw[b];exact T) E λC=>?_;rw[b]at C;rw[d,e];exact z C
 | @fn f first N Q R E h2 ap ar Z ad=>
  intro q;simp only[Af.idsAll,BQ]at q;simp only[Af.ren,PO];refine .fn (by simpa using E) (by simpa using h2) (λj v c l z=>?_) λj v c l z=>?_;rw[CO]at l;cases s:first[j]? with
  |none=>rw[s]at l;cases l
  |some u=>rw[s]at l;simp only[Bw,Av]at l;subst l;exact Z j u c s z (Nj q.1 s)
  rw[CO]at l;cases s:N[j]? with
  |none=>rw[s]at l;cases l
  |some u=>rw[s]at l;simp only[Bw,Av]at l;subst l;exact ad j u c s z (Nj q.2 s)
 | @yf id c A_ E z=>intro q;obtain⟨a,b,d,e⟩:=F id q A_;refine .yf a E λC=>?_;rw[b]at C;rw[d];exact z C
 | @mp id c A_ E z=>intro q;obtain⟨a,b,d,e⟩:=F id q A_;refine .mp a E λC=>?_;rw[b]at C;rw[d];exact z C
 | @itp id m c A_ hm E z=>intro q;simp only[Af.idsAll,BQ]at q;obtain⟨a,b,d,e⟩:=F id q.1 A_;obtain⟨a2,b2,d2,e2⟩:=F m q.2 hm;refine .itp a a2 E λC=>?_;rw[b]at C;rw[d,b2,d2,e];exact z C
 |nilf=>exact λ_=>.nilf
 | @agg cs ao h E X M=>
  intro q;simp only[Af.idsAll]at q;simp only[Af.ren,PO];refine .agg (by simpa using h) E λj v c l z=>?_;rw[CO]at l;cases s:cs[j]? with
  |none=>rw[s]at l;cases l
  |some u=>rw[s]at l;simp only[Bw,Av]at l;subst l;exact M j u c s z (Nj q s)
 | @tup vs ax h X M=>
  intro q;simp only[Af.idsAll]at q;simp only[Af.ren,PO];refine .tup (by simpa using h) λj v c l z=>?_;rw[CO]at l;cases s:vs[j]? with
  |none=>rw[s]at l;cases l
  |some u=>rw[s]at l;simp only[Bw,Av]at l;subst l;exact M j u c s z (Nj q s)
 |any c=>exact λ_=>.any c
mutual
theorem ABP{p:z->Bool}{d:z->z}(c:∀id,p id=A->d id=id):∀v:Af,v.idsAll p=A->v.ren d=v
 |.ptr id g off,h=>by simp only[Af.ren,c id h]
 |.sl id g sz off len,h=>by simp only[Af.ren,c id h]
 |.yf id,h=>by simp only[Af.ren,c id h]
 |.mp id,h=>by simp only[Af.ren,c id h]
 |.itp id m,h=>by simp only[Af.idsAll,BQ]at h;simp only[Af.ren,c id h.1,c m h.2]
 |.vptr cs,h=>by simp only[Af.ren,YO c cs h]
 |.vs sz rows,h=>by simp only[Af.ren,YO c rows h]
 |.fn f a b,h=>by simp only[Af.idsAll,BQ]at h;simp only[Af.ren,YO c a h.1,YO c b h.2]
 |.agg cs,h=>by simp only[Af.ren,YO c cs h]
 |.tup cs,h=>by simp only[Af.ren,YO c cs h]
 |.bool _,_=>rfl
 |.int _ _,_=>rfl
 |.str _,_=>rfl
 |.nilp,_=>rfl
 |.nils,_=>rfl
 |.nilf,_=>rfl
 |.any,_=>rfl
theorem YO{p:z->Bool}{b:z->z}(a:∀id,p id=A->b id=id):∀l:Ψ Af,Af.idsAllL p l=A->Af.renL b l=l
 |[],_=>rfl
 |v::r,h=>by simp only[Af.idsAllL,BQ]at h;simp only[Af.renL,ABP a v h.1,YO a r h.2]
end
def tI(P:u)(t:TypeId):Ω (Bool×z):=
 match P.info? t,P.underlying t with
 |some i,D d=>D ((match d with|.struct _|.array _ _=>A|_=>η),i.size)
 |_,_=>ε
def Ya(h:tI P b=D (s,N))(w:World):(isAgg b).run P w=.ok s w:=by unfold tI at h;split at h;rename_i i d c a;unfold isAgg;simp only[Sem.run_bind,run_underlying a,Result.andThen_ok];split<;>simp_all;cases h
def MC{P}(h:tI P b=D (s,N))(w:World):(sizeOf b).run P w=.ok N w:=by unfold tI at h;split at h;rename_i i d a c;simp at h;simp[sizeOf,typeInfo,a,h.2];cases h
def Qt(H:Ay):Af->z->Ω (Ψ Af)
 |.ptr id g off,n=>
  match H[id]? with
  |some (.live g' cs)=>if g=g'/\off+n<=θ cs then D ((cs.drop off).take n)else ε
  |_=>ε
 |.vptr cs,n=>if n<=θ cs then D (cs.take n)else ε
 |_,_=>ε
def nN(x:Cx)(vs:Ψ Af)(cs:Ψ Value):Prop:=θ cs=θ vs/\∀(j:z)(v:Af)(c:Value),vs[j]?=D v->cs[j]?=D c->B3 x v c
theorem Pf(B a j:z):(⟨B,a,ε⟩:Addr).add j=⟨B,a+j,ε⟩:=by grind[Addr.add]
theorem Qg{w:World}(h:w.heap[N]?=D (.cells k b E))(B:z):w.cell? ⟨N,B,ε⟩=k[B]? :=by grind[World.cell?]
theorem vJ(s:I6 e h H w)(r:B3 (cx e h H w) d c)(hr:Qt H d N=D f):
  ∃(B a:Nat)(k:Ψ Value),c=.pointer (D ⟨B,a,ε⟩)/\θ k=N/\(∀j u,k[j]?=D u->w.cell? ((⟨B,a,ε⟩:Addr).add j)=D u/\u.oneCell'=A)/\nN (cx e h H w) f k:=by
 cases r with
 | @ptr id g a c O Z V x=>
  simp only[Qt]at hr;split at hr;rename_i U k L;split at hr;rename_i m;obtain⟨rfl,F⟩:=m;simp only[Av]at hr;subst hr;obtain⟨t,q⟩:=s.live id g k L;obtain⟨B,o,rfl⟩:=x t;rcases q with⟨hn,_⟩|⟨D_,I,T,S,n,l,K,E,A_,M,i⟩;rw[hn]at o;cases o;have:D_=B:=by rw[show(cx e h H w).io id=D B from o]at l;injection l with G;exact G.symm
  subst this;refine⟨D_,a,(List.range N).map (λj=>n (a+j)),rfl,k!,?_,?_,?_⟩;intro j u p;have b:j<N:=by grind[Nat.lt_or_ge,u?]
  have Q:u=n (a+j):=by grind[List.getElem?_range]
  subst Q;have y:k[a+j]?=D (k[a+j]' o!):=Au o!;obtain⟨J,P,_⟩:=i _ _ y;rw[Pf,Qg (w:=w) K];exact⟨J,P⟩;grind[List.length_map,List.length_range,r?,List.length_drop];grind[Nat.lt_or_ge,u?,List.getElem?_range,Option.some.injEq];cases hr;cases hr
 | @vptr k B a n Y W x R=>
  simp only[Qt]at hr;split at hr;rename_i A_;simp only[Av]at hr;subst hr;refine⟨B,a,(List.range N).map n,rfl,k!,?_,?_,?_⟩;intro j u p;have b:j<N:=by grind[Nat.lt_or_ge,u?]
  rw[CO,R1 b]at p;simp only[Bw,Av]at p;subst p;rw[Pf];exact x j _ (Au o!);grind[List.length_map,List.length_range,r?];intro j u v p z;have b:j<N:=by rcases A1 j N with C|X;exact C;simp_all[Cz]
  rw[cj,C! b]at p;rw[CO,R1 b]at z;simp only[Bw,Av]at z;subst z;exact R j u p;cases hr
 |_=>simp only[Qt]at hr;cases hr
def jL(P:u)(t:TypeId)(H:Ay)(v:Af):Ω Af:=
 match tI P t with
 |some (A,n)=>(Qt H v n).map Af.agg
 |some (η,_)=>(Qt H v 1).bind List.head?
 |none=>ε
theorem zX(s:I6 e h H w)(r:B3 (cx e h H w) d c)(v:jL P b H d=D x):
  ∃B X l,c=.pointer (D ⟨B,X,ε⟩)/\(loadVar b ⟨B,X,ε⟩).run P w=.ok l w/\B3 (cx e h H w) x l:=by
 unfold jL at v;split at v;rename_i n g;cases hr:Qt H d n with
 |none=>grind
 |some o=>rw[hr]at v;simp at v;subst v;obtain⟨B,X,f,rfl,t,k,a⟩:=vJ s r hr;refine⟨B,X,.agg f.toArray,rfl,?_,?_⟩;unfold loadVar;simp only[Sem.run_bind,Ya g,Result.andThen_ok,if_true,MC g];subst t;rw[run_loadCells_list w ⟨B,X,ε⟩ f λj d i=>(k j d i).1];rfl;refine .agg (by simpa using a.1) (λj c i=>?_) λj d c i p=>?_;grind;exact a.2 j d c i q!
 rename_i n g;cases hr:Qt H d 1 with
 |none=>grind
 |some o=>
  rw[hr]at v;simp at v;obtain⟨B,X,f,rfl,t,k,a⟩:=vJ s r hr;match f,t with
  |[c0],_=>
   match o,a.1 with
   |[u0],_=>simp at v;subst v;refine⟨B,X,c0,rfl,?_,a.2 0 _ _ rfl rfl⟩;unfold loadVar;have m:=(k 0 c0 rfl).1;simp only[Addr.add,if_true]at m;simp[Ya g,m]
 cases v
def oH(P:u)(env:Env)(H:Ay):ResultVar->Ω Af
 |.tmp t=>D (env.get t)
 |.cell a t=>jL P t H (env.get a)
def Tm(P:u)(env:Env)(H:Ay):Ψ ResultVar->Ω (Ψ Af)
 |[]=>D []
 |r::rs=>
  match oH P env H r,Tm P env H rs with
  |some v,D vs=>D (v::vs)
  |_,_=>ε
def jM(P:u)(fn:Func)(env:Env)(H:Ay):Ω Af:=
 match Tm P env H fn.results.toList with
 |some [v]=>D v
 |some vs=>D (.tup vs)
 |none=>ε
def kW(h:PY i g a)(t:z):B3 i (g.get t) (a.tmps.getD t undef):=Dy h (.tmp t)
def vL(tmps:Array Value):ResultVar->Sem Value
 |.tmp t=>pure (tmps.getD t undef)
 |.cell a t=>do loadVar t (<-asAddr (tmps.getD a undef))
def ABR(b:Func)(tmps:Array Value):results b tmps=(do
  let a<-b.results.mapM (vL tmps);pure (if h:a.size=1 then a[0]else .tuple a)):=rfl
theorem sR{P}{N}{X:Nat→Prop}{h}{env}{H}{a}{w}(s:St X h N env H a w):∀g(i:Ψ Af),Tm P env H g=D i→
  ∃f,Sem.run P (g.mapM (vL a.tmps)) w=.ok f w/\nN (cx X h H w) i f
 |[],i,hv=>by simp only[Tm,Av]at hv;subst hv;exact⟨[],rfl,rfl,λ_ _ _ h=>by cases h⟩
 |r::g,i,hv=>by
  simp only[Tm]at hv;split at hv;rename_i v l k n;simp at hv;subst hv;obtain⟨f,o,b⟩:=sR s g l n;have e:∃c,Sem.run P (vL a.tmps r) w=.ok c w/\B3 (cx X h H w) v c:=by
   cases r with
   |tmp t=>simp only[oH,Av]at k;subst k;exact⟨_,rfl,kW s.env t⟩
   |cell x t=>obtain⟨B,y,m,p,q,hr⟩:=zX s.sim (kW s.env x) k;refine⟨m,?_,hr⟩;simp only[vL,p];simp[asAddr,q]
  obtain⟨c,z,hr⟩:=e;refine⟨c::f,?_,by simpa using b.1,?_⟩;simp_all;intro j u d C A_;cases j with
  |zero=>grind
  |succ j=>exact b.2 j u d q! q!
  cases hv
theorem ADe(s:St e h N g H a w)(X:jM P V g H=D d):
  ∃c,(results V a.tmps).run P w=.ok c w/\B3 (cx e h H w) d c:=by
 unfold jM at X;cases v:Tm P g H V.results.toList with
 |none=>grind
 |some l=>
  rw[v]at X;obtain⟨f,m,b⟩:=sR s _ l v;have n:Sem.run P (V.results.mapM (vL a.tmps)) w=.ok f.toArray w:=by grind[Array.mapM_eq_mapM_toList,Sem.run_map,Result.andThen_ok]
  rw[ABR];simp only[Sem.run_bind,n];simp only[Result.andThen_ok,Sem.run_pure,Result.ok.injEq,and_true,exists_eq_left'];match l,b with
  |[],b=>simp at X;subst X;have:f=[]:=Eu (by simpa using b.1);subst this;exact .tup rfl λj d c i _=>by cases i
  |[v0],b=>
   simp at X;subst X;match f,b.1 with
   |[c0],_=>exact b.2 0 _ _ rfl rfl
  |v0::v1::r,b=>
   simp at X;subst X;have k:f.toArray.size≠1:=by rw[fa,b.1];simp
   rw[dif_neg k];exact .tup (by simpa using b.1) λj d c i o=>b.2 j d c i q!
def PZ(n0:z)(v:Af)(H:Ay)(v2:Af)(H2:Ay):Prop:=
 n0<=θ H2/\∀X h w c,I6 X h H w->B3 (cx X h H w) v c->
  ∃h2,I6 X h2 H2 w/\B3 (cx X h2 H2 w) v2 c/\(∀id,id<n0->h2.gen id=h.gen id/\h2.io id=h.io id/\h2.cap id=h.cap id)/\∀B,owned h2 H2 B->owned h H B
def PZ.refl(v:Af)(H:Ay)(hn:N<=θ H):PZ N v H v H:=⟨hn,λ_ h _ _ s r=>⟨h,s,r,λ_ _=>⟨rfl,rfl,rfl⟩,λ_ h=>h⟩⟩
def AKX(P:u)(fn:Func)(n0:z)(Q:Af->Ay->Prop):Exit->Env->Ay->Prop
 |.normal,env,H|.ret,env,H=>∃v v2 H2,jM P fn env H=D v/\PZ n0 v H v2 H2/\Q v2 H2
 |_,_,_=>False
def env0:z->Ψ Af->Env
 |_,[]=>[]
 |i,v::r=>(i,v)::env0 (i+1) r
theorem zE{t:z}{v:Af}:∀{i}{l},(t,v)∈env0 i l->i<=t/\l[t-i]?=D v
 |i,u::r,h=>by simp only[env0,As]at h;rcases h with⟨rfl,rfl⟩|h;simp;obtain⟨a,b⟩:=zE h;grind
theorem mf{y:Ω (Ψ Deferred)}(b:w.heap[N]?=D (.deferred n))(B a:z):(w.putObj N (.deferred y)).cell? ⟨B,a,ε⟩=w.cell? ⟨B,a,ε⟩:=by grind[World.cell?,World.putObj_heap_same,World.putObj_heap_other]
def I6.shut(s:I6 e h H w){x y:Ω (Ψ Deferred)}(J:w.heap[N]?=D (.deferred x)):
  (cx e h H w).Later (cx e h H (w.putObj N (.deferred y)))/\I6 e h H (w.putObj N (.deferred y)):=by
 have C:(cx e h H w).Later (cx e h H (w.putObj N (.deferred y))):=⟨by simp[cx],λB _ _ G=>mf J B G,λ_ _ h=>h,Ao _,λ_ _=>Ao _,λ_ _ _=>⟨rfl,rfl⟩⟩
 have d:∀{B:Nat}{o:Obj},w.heap[B]?=D o->(∀z,o≠.deferred z)->(w.putObj N (.deferred y)).heap[B]?=D o:=by intro B o a F;by_cases i:B=N;subst i;rw[J]at a;injection a with D_;exact(F x D_.symm).elim;rw[World.putObj_heap_other i,a]
 refine⟨C,λB a=>⟨by simpa using(s.out B a).1,(s.out B a).2⟩,λid g K l=>?_,λid L l=>?_,s.inj,s.bldKeep λid D_ l _=>⟨l,rfl,rfl,rfl,λB o _ a F=>(d a F).trans a.symm⟩⟩;obtain⟨A_,n⟩:=s.live id g K l;refine⟨A_,?_⟩;rcases n with⟨hn,rfl⟩|⟨B,p,T,M,f,c,q,k,E,u,b⟩;exact .inl ⟨hn,rfl⟩;refine .inr ⟨B,p,T,M,f,c,d q (λz=>k!),k,E,u,λj v U=>?_⟩;obtain⟨V,W,Y⟩:=b j v U;exact⟨V,W,Y.later C⟩;obtain⟨A_,B,r,c,q,X,O,P,Q,R,S,I⟩:=s.lp id L l;exact⟨A_,B,r,c,d q (λz=>k!),X,O,P,Q,R,S,λt v m=>⟨(I t v m).1,(I t v m).2.later C⟩⟩
theorem HT.shut(x:HT h H w Q S G){y z:Ω (Ψ Deferred)}(d:w.heap.size<=N)(e:G.heap[N]?=D (.deferred z)):HT h H w Q S (G.putObj N (.deferred y))where
 os:=x.os
 tape:=x.tape
 output:=x.output
 size:=by simpa using x.size
 keep B hB hn:=by rw[World.putObj_heap_other o!];exact x.keep B hB hn
 n:=x.n
 gen:=x.gen
 same:=x.same
 fresh:=x.fresh
 loops B r hB:=by obtain⟨f,Q⟩:=x.loops B r hB;grind[World.putObj_heap_other]
def pR{P}{A_}{N}{X:Nat→Prop}{g h}{H b p:Ay}{z:World}{v t:Af}{f}{a}{Q:Af→Ay→Prop}(o:jM P A_ f b=D v)(j:PZ (θ H) v b t p)(B:Q t p):
  ∀(i:Ψ Deferred)(w:World),i.Nodup->(∀d∈i,∃D_,d={target:=.collected D_,args:= #[]}/\z.heap.size<=D_/\w.heap[D_]?=D (.deferred (D [])))->
   St X h N f b a w->HT g H z h b w->
   LeavesInM Fence.wide 0 P A_ a.tmps (λe u=>∃c v h b,e=.returned c/\Q v b/\I6 X h b u/\B3 (cx X h b u) v c/\HT g H z h b u) i .returning w
 |[],w,_,_,s,x=>by obtain⟨c,m,l⟩:=ADe s o;obtain⟨J,n,r,I,K⟩:=j.2 X h w c s.sim l;exact⟨c,m,c,t,J,p,rfl,B,n,r,Fp.ext rfl j.1 I K x⟩
 |d::i,w,hnd,hds,s,x=>by obtain⟨D_,rfl,G,q⟩:=hds d k!;simp only[Gk]at hnd;refine⟨k!,.inl ⟨D_,_,rfl,run_takeDeferred q,?_⟩⟩;have C:=s.sim.shut (y:=ε) q;refine pR o j B i _ hnd.2 (λF k=>?_) ⟨C.2,s.env.later C.1,s.size⟩ (x.shut G q);obtain⟨E,rfl,o,j⟩:=hds F (CU _ k);refine⟨E,rfl,o,?_⟩;rw[World.putObj_heap_other,j];rintro rfl;exact hnd.1 k
theorem Ku(E:P.funcs[O]?=D V)(C:V.body=D r)(hn:θ f≤V.ntmps)
  (I:KC P V.ntmps r (env0 0 f) H (AKX P V (θ H) B)):E8 P O f H B:=by
 intro X g w a s M hr;have D_:PY (cx X g H w) (env0 0 f) {tmps:=a++Array.replicate (V.ntmps-a.size) undef,defers:=[]}:=by
  intro t v m;obtain⟨_,N⟩:=zE m;have G:t<θ f:=q!
  have L:a[t]?=D (a[t]' o!):=Oe o!;have:(a++Array.replicate (V.ntmps-a.size) undef).getD t undef=a[t]' o!:=by simp_all[Yp]
  grind
 refine(callsIn_wide (n:=0)).1 (callsIn_of_wp_marks E C trivial (wpIn_mono (I ε X g {tmps:=a++Array.replicate (V.ntmps-a.size) undef,defers:=[]} w ⟨s,D_,w!⟩ (λl e=>by cases e)) ?_));rintro e z i ⟨u,j,d,q,J,K,A_,b,y,x⟩;have k:∀v h c,jM P V j d=D v->PZ (θ H) v d h c->B h c->LeavesInM Fence.wide 0 P V z.tmps (λe i=>∃r v u d,e=.returned r/\B v d/\I6 X u d i/\B3 (cx X u d i) v r/\HT g H w u d i) z.defers .returning i:=by intro v h c o p F;rw[b,DR];exact pR o p F A_ i y x J K
 cases e with
 |normal=>obtain⟨v,h,c,o,p,F⟩:=q;exact k v h c o p F
 |ret=>obtain⟨v,h,c,o,p,F⟩:=q;exact k v h c o p F
 |_=>exact q.elim
def Enters(P:u)(F:FuncId):Bool:=
 match P.funcs[F]? with
 |some fn=>fn.body.isSome&& !(fn.name== "runtime.NumGoroutine")
 |none=>false
def iz(h:Enters P O=A)(args:Array Value)(w:World):(callFunc O args).run P w=.ok (.enter O args) w:=by unfold Enters at h;split at h;rename_i a c;unfold callFunc;cases b:a.body<;>simp_all;cases h
def Fv.ren(ρ:z->z):Fv->Fv
 |.dead=>.dead
 |.live g cs=>.live g (Af.renL ρ cs)
 |.lp L=>.lp {L with env:=L.env.map λp=>(p.1,p.2.ren ρ)}
 |.mp k es=>.mp k es
 |.it n s=>.it n s
def Fv.idsAll(p:z->Bool):Fv->Bool
 |.dead=>A
 |.live _ cs=>Af.idsAllL p cs
 |.lp L=>L.env.all λq=>q.2.idsAll p
 |.mp _ _=>A
 |.it _ _=>A
def Z8(H:Ay)(bs:Ψ z):Ay:=bs.map λb=>(H.getD b .dead).ren (bs.idxOf ·)
def Tu(H:Ay)(bs:Ψ z)(j:z):z:=if j<θ bs then bs.getD j 0 else θ H+(j-θ bs)
def cL(ρ:z->z):Ay->Ψ z->Ay->Ay
 |H,b::bs,e::es=>cL ρ (H.set b (e.ren ρ)) bs es
 |H,_,_=>H
def Vm(H:Ay)(bs:Ψ z)(Hc:Ay):Ay:=cL (Tu H bs) H bs Hc++(Hc.drop (θ bs)).map (Fv.ren (Tu H bs))
def Te(c:z->z):∀bs H a,(cL c H bs a).length=θ H
 |[],H,a=>by cases a<;>rfl
 |b::bs,H,[]=>rfl
 |b::bs,H,e::es=>by simp only[cL];rw[Te c bs];simp
def jB(c:z->z){id:z}:∀(bs:Ψ z)H a,id∉bs->(cL c H bs a)[id]?=H[id]?
 |[],H,a,_=>by cases a<;>rfl
 |b::bs,H,[],_=>rfl
 |b::bs,H,e::es,h=>by simp only[As,not_or]at h;simp only[cL];rw[jB c bs _ _ h.2,Dl (h.1 ·.symm)]
def xC(a:z->z):∀(bs:Ψ z)(H c:Ay)(j b:z),bs.Nodup->bs[j]?=D b->b<θ H->θ bs<=θ c->(cL a H bs c)[b]?=(c[j]?).map (Fv.ren a)
 |[],_,_,_,_,_,hj,_,_=>by simp at hj
 |b0::bs,H,[],_,_,_,_,_,hl=>by simp at hl
 |b0::bs,H,e::es,j,b,hnd,hj,hb,hl=>by
  simp only[Gk]at hnd;simp only[cL];cases j with
  |zero=>simp at hj;subst hj;rw[jB a bs _ _ hnd.1];simp[hb]
  |succ j=>simp at hj;rw[xC a bs _ es j b hnd.2 hj (by simpa using hb) (by simpa using hl)];simp
def pO(h:N∈l):l.idxOf N<θ l:=List.idxOf_lt_length_of_mem h
theorem iY(h:N∈l):l[l.idxOf N]?=D N:=q!
theorem qh(a:l.Nodup)(h:l[N]?=D t):l.idxOf t=N:=q!
section
variable {X:Nat->Prop}{h:Gh}{H:Ay}{w:World}{bs:Ψ Nat}
mutual
theorem sF:∀v:Af,v.idsAll (λ_=>A)=A
 |.itp _ _=>rfl
 |.ptr _ _ _=>rfl
 |.sl _ _ _ _ _=>rfl
 |.yf _=>rfl
 |.mp _=>rfl
 |.vptr c=>QF c
 |.vs _ d=>QF d
 |.fn _ a b=>by simp only[Af.idsAll,QF a,QF b,WV]
 |.agg c=>QF c
 |.tup c=>QF c
 |.bool _|.int _ _|.str _|.nilp|.nils|.nilf|.any=>rfl
theorem QF:∀l:Ψ Af,Af.idsAllL (λ_=>A) l=A
 |[]=>rfl
 |v::r=>by simp only[Af.idsAllL,sF v,QF r,WV]
end
def Xs(X:z->Prop)(h:Gh)(H:Ay)(bs:Ψ z)(B:z):Prop:=X B\/∃id e,id∉bs/\H[id]?=D e/\e≠Fv.dead/\h.io id=D B
def XV(h:Gh)(bs:Ψ z):Gh:=⟨λj=>(bs[j]?).bind h.io,λj=>((bs[j]?).map h.gen).getD 0,λj=>((bs[j]?).map h.cap).getD 0⟩
def zw:p.ren F=.dead↔p=.dead:=by cases p<;>simp[Fv.ren]
theorem mR(d:(Z8 H bs)[N]?=D p)(c:p≠.dead):∃b a,bs[N]?=D b/\H[b]?=D a/\a≠.dead/\p=a.ren (bs.idxOf ·):=by grind[Z8,Fv.ren]
theorem AF2(e:(Z8 H bs)[N]?=D (Fv.live t f)):∃b a,bs[N]?=D b/\H[b]?=D (Fv.live t a)/\f=Af.renL (bs.idxOf ·) a:=by obtain⟨b,d,h,j,_,i⟩:=mR e k!;cases d<;>grind[Fv.ren]
theorem fL(d:owned (XV h bs) (Z8 H bs) N):∃b e,b∈bs/\H[b]?=D e/\e≠Fv.dead/\h.io b=D N:=by obtain⟨j,e,f,c,a⟩:=d;grind[mR,XV]
theorem yT(x:z)(c:τ (x∈bs)=A)(_:x<(cx X h H w).n):
  bs.idxOf x<(cx (Xs X h H bs) (XV h bs) (Z8 H bs) w).n/\(cx (Xs X h H bs) (XV h bs) (Z8 H bs) w).gen (bs.idxOf x)=(cx X h H w).gen x/\(cx (Xs X h H bs) (XV h bs) (Z8 H bs) w).io (bs.idxOf x)=(cx X h H w).io x/\(cx (Xs X h H bs) (XV h bs) (Z8 H bs) w).cap (bs.idxOf x)=(cx X h H w).cap x:=by
 have a:x∈bs:=q!
 have b:=iY a;refine⟨by simpa[cx,Z8]using pO a,?_,?_,?_⟩<;>simp[cx,XV,b]
def AF3(B:z)(a:(cx (Xs X h H bs) (XV h bs) (Z8 H bs) w).O B):(cx X h H w).O B:=by rcases a with(a|⟨id,e,_,d,c,f⟩)|a;exact .inl a;exact .inr ⟨id,e,d,c,f⟩;obtain⟨b,e,_,d,c,f⟩:=fL a;exact .inr ⟨b,e,d,c,f⟩
theorem QL{w:World}(h:w.heap[N]?=D Z):N<w.heap.size:=q!
theorem I6.io_at(s:I6 X h H w)(c:H[N]?=D p)(e:p≠.dead)(b:h.io N=D t):t<w.heap.size:=by
 cases p with
 |dead=>grind
 |live g l=>obtain⟨_,hn|⟨d,i,T,B,f,a,j,_⟩⟩:=s.live N g l c;rw[show(cx X h H w).io N=h.io N from rfl,b]at hn;grind;rw[show(cx X h H w).io N=h.io N from rfl,b]at a;injection a with p;subst p;exact QL j
 |lp L=>obtain⟨_,d,r,a,j,_⟩:=s.lp N L c;rw[show(cx X h H w).io N=h.io N from rfl,b]at a;injection a with p;subst p;exact QL j
 |mp k q=>obtain⟨d,i,m,_,o,_⟩:=s.bld N _ c rfl;grind[QL]
 |it n seen=>obtain⟨d,m,_,o⟩:=s.bld N _ c rfl;grind[QL]
def dy:(p.ren F).isB=p.isB:=by cases p<;>rfl
theorem BAt.ren{h h':Gh}{w w':World}{id id':Nat}{e:Fv}{ρ:Nat->Nat}(b:BAt h w id e)(g:h'.io id'=h.io id)(a:h'.gen id'=h.gen id)(f:h'.cap id'=h.cap id)(l: ∀B (o:Obj),h.io id=some B->w.heap[B]? =some o->w'.heap[B]? =w.heap[B]?):BAt h' w' id' (e.ren ρ):=by
 cases e with
 |mp k p=>obtain⟨B,i,c,j,d,m⟩:=b;exact⟨B,i,g.trans c,a.trans j,(l B _ c d).trans d,m⟩
 |it n seen=>obtain⟨B,c,j,d⟩:=b;exact⟨B,g.trans c,a.trans j,by rw[f];exact(l B _ c d).trans d⟩
 |_=>trivial
theorem I6.sub(s:I6 X h H w)(K:bs.Nodup)(hb:∀b∈bs,((H.getD b .dead).idsAll λid=>decide (id∈bs))=A):I6 (Xs X h H bs) (XV h bs) (Z8 H bs) w where
 out B n:=by have M:¬(∃b e,b∈bs/\H[b]?=D e/\e≠Fv.dead/\h.io b=D B)->¬owned (XV h bs) (Z8 H bs) B:=λhn ho=>hn (fL ho);rcases n with n|⟨id,e,Z,d,o,k⟩;exact⟨(s.out B n).1,M λ⟨b,e,_,d,o,k⟩=>(s.out B n).2 ⟨b,e,d,o,k⟩⟩;exact⟨s.io_at d o k,M λ⟨b,e',hm,x,Q,C⟩=>Z (s.inj id b e e' B d x o Q k C▸hm)⟩
 live j g cs hj:=by
  obtain⟨b,A_,a,D_,rfl⟩:=AF2 hj;obtain⟨Y,J⟩:=s.live b g A_ D_;refine⟨by simpa[cx,XV,a]using Y,?_⟩;rcases J with⟨hn,rfl⟩|⟨B,N,T,fz,f,y,c,G,ad,W,l⟩;exact .inl ⟨by simpa[cx,XV,a]using hn,rfl⟩;refine .inr ⟨B,N,T,fz,f,by simpa[cx,XV,a]using y,c,by simpa[cx,XV,a]using G,by rw[PO,BX];exact ad,W,?_⟩;intro i v z;rw[PO,CO]at z;cases hu:A_[i]? with
  |none=>rw[hu]at z;cases z
  |some u=>rw[hu]at z;simp only[Bw,Av]at z;subst z;obtain⟨d,k,x⟩:=l i u hu;refine⟨d,k,B3.ren (p:=λid=>decide (id∈bs)) (yT ·) rfl AF3 x ?_⟩;have:=hb b (BP a);grind[Nj,Fv.idsAll]
 lp j L hj:=by
  obtain⟨b,P,a,D_,o,I⟩:=mR hj k!;cases P with
  |dead=>exact(o rfl).elim
  |live g cs=>simp[Fv.ren]at I
  |mp=>simp[Fv.ren]at I
  |it=>simp[Fv.ren]at I
  |lp L0=>simp only[Fv.ren,Fv.lp.injEq]at I;subst I;obtain⟨Y,B,r,y,c,d,k,x,C,h5,h6,h7⟩:=s.lp b L0 D_;refine⟨by simpa[cx,XV,a]using Y,B,r,by simpa[cx,XV,a]using y,c,d,k,x,C,h5,h6,λt v m=>?_⟩;obtain⟨q,hq,e⟩:=BY.1 m;simp only[Ep]at e;obtain⟨rfl,rfl⟩:=e;refine⟨(h7 q.1 q.2 hq).1,B3.ren (p:=λid=>decide (id∈bs)) (yT ·) rfl AF3 (h7 q.1 q.2 hq).2 ?_⟩;have:=hb b (BP a);grind[Fv.idsAll,List.all_eq_true]
 inj i i' e e' B d k hn1 hn2 x C:=by obtain⟨b,c0,E,R,U,_⟩:=mR d hn1;obtain⟨b',O,F,S,V,_⟩:=mR k hn2;have e:=s.inj b b' c0 O B R S U V (by simpa[XV,E]using x) (by simpa[XV,F]using C);subst e;rw[<-qh K E,<-qh K F]
 bld j e hj n:=by obtain⟨b,P,a,D_,o,rfl⟩:=mR hj (by rintro rfl;cases n);rw[dy]at n;exact(s.bld b P D_ n).ren (by simp[XV,a]) (by simp[XV,a]) (by simp[XV,a]) (λ_ _ _ _=>rfl)
def OM(h:Gh)(H:Ay)(bs:Ψ z)(hc:Gh):Gh:=
 let pick {α:Type} (f fc:z->α) (id:z):α:=if id∈bs then fc (bs.idxOf id)else if id<θ H then f id else fc (θ bs+(id-θ H))
 ⟨pick h.io hc.io,pick h.gen hc.gen,pick h.cap hc.cap⟩
def nH:(Vm H bs S).length=θ H+(θ S-θ bs):=by simp[Vm,Te]
def ZS(h:bs.Nodup)(k:θ bs≤θ S)(a:(Vm H bs S)[N]?=D p):
  (N∉bs/\N<θ H/\H[N]?=D p)\/∃j f,N=Tu H bs j/\S[j]?=D f/\p=f.ren (Tu H bs):=by
 unfold Vm at a;rcases A1 N (θ H)with b|b;rw[Cb (by rw[Te];exact b)]at a;by_cases g:N∈bs;have i:=iY g;rw[xC _ bs H S _ N h i b k]at a;cases d:S[bs.idxOf N]? with
 |none=>rw[d]at a;cases a
 |some f=>rw[d]at a;simp only[Bw,Av]at a;refine .inr ⟨bs.idxOf N,f,?_,d,a.symm⟩;unfold Tu;rw[C! (pO g),R0,i];rfl
 rw[jB _ bs H S g]at a;exact .inl ⟨g,b,a⟩;rw[Cu (by rw[Te];exact b),Te,CO,KJ]at a;cases d:S[θ bs+(N-θ H)]? with
 |none=>rw[d]at a;cases a
 |some f=>rw[d]at a;simp only[Bw,Av]at a;refine .inr ⟨_,f,?_,d,a.symm⟩;unfold Tu;rw[D! o!];omega
theorem cq{hc}(f:bs.Nodup)(a:∀b∈bs,b<θ H)(j:z)(g:j<θ S):
  Tu H bs j<(Vm H bs S).length/\(OM h H bs hc).gen (Tu H bs j)=hc.gen j/\(OM h H bs hc).io (Tu H bs j)=hc.io j/\(OM h H bs hc).cap (Tu H bs j)=hc.cap j:=by
 rw[nH];unfold Tu;split;grind[OM];have c:θ H+(j-θ bs)∉bs:=λc=>by have:=a _ c;omega
 have e:θ bs+(θ H+(j-θ bs)-θ H)=j:=o!
 simp only[OM,c,if_false,show¬(θ H+(j-θ bs)<θ H)from by omega,e,and_true];omega
theorem oF(c:bs.Nodup)(k:∀b∈bs,b<θ H)(r:θ bs≤θ S)(s:owned (OM h H bs Q) (Vm H bs S) N):
  (∃id e,id∉bs/\H[id]?=D e/\e≠Fv.dead/\h.io id=D N)\/owned Q S N:=by
 obtain⟨id,e,o,l,a⟩:=s;rcases ZS c r o with⟨u,p,t⟩|⟨j,m,rfl,q,d⟩;grind[OM];have i:j<θ S:=q!
 rw[(cq (h:=h) (hc:=Q) c k j i).2.2.1]at a;exact .inr ⟨j,m,q,λn=>l (d.trans (zw.2 n)),a⟩
theorem HT.back(l:bs.Nodup)(k:∀b∈bs,b<θ H)(x:HT (XV h bs) (Z8 H bs) w Q S G):HT h H w (OM h H bs Q) (Vm H bs S) G:=by
 have r:θ bs<=θ S:=by have:=x.n;simpa[Z8]using this
 refine⟨x.os,x.tape,x.output,x.size,λB p hn=>x.keep B p λa=>?_,?_,?_,?_,?_,x.loops⟩;obtain⟨b,e,_,g,f,i⟩:=fL a;exact hn ⟨b,e,g,f,i⟩;rw[nH];omega;intro id c;by_cases d:id∈bs;have q:=iY d;have:=x.gen (bs.idxOf id) (by simpa[Z8]using pO d);grind[OM,XV];simp[OM,d,c];intro id c;by_cases d:id∈bs;have q:=iY d;have:=x.same (bs.idxOf id) (by simpa[Z8]using pO d);grind[OM,XV];simp[OM,d,c];intro B a;rcases oF l k r a with⟨id,e,_,g,f,i⟩|a;exact .inl ⟨id,e,g,f,i⟩;rcases x.fresh B a with a|a;obtain⟨b,e,_,g,f,i⟩:=fL a;exact .inl ⟨b,e,g,f,i⟩;grind
def B3.back(g:bs.Nodup)(f:∀b∈bs,b<θ H)(l:θ bs≤θ S)
  (r:B3 (cx (Xs X h H bs) Q S w) d c):B3 (cx X (OM h H bs Q) (Vm H bs S) w) (d.ren (Tu H bs)) c:=by
 refine B3.ren (x:=cx (Xs X h H bs) Q S w) (y:=cx X (OM h H bs Q) (Vm H bs S) w) (ρ:=Tu H bs) (p:=λ_=>A) (λj _ k=>cq (h:=h) (hc:=Q) g f j k) rfl (λB a=>?_) r (sF d);rcases a with a|a;exact .inl (.inl a);rcases oF g f l a with a|a;exact .inl (.inr a);exact .inr a
theorem I6.back(s:I6 X h H w)(l:bs.Nodup)(z:∀b∈bs,b<θ H)(x:HT (XV h bs) (Z8 H bs) w Q S G)
  (sc:I6 (Xs X h H bs) Q S G):I6 X (OM h H bs Q) (Vm H bs S) G:=by
 have Y:θ bs<=θ S:=by have:=x.n;simpa[Z8]using this
 have xb:=HT.back (h:=h) l z x;have M:∀{id:Nat}{e:Fv}{B:Nat}{o:Obj},id∉bs->H[id]?=D e->e≠.dead->h.io id=D B->w.heap[B]?=D o->G.heap[B]?=D o:=by intro id e B o y E ao c d;refine(x.keep B (QL d) λho=>?_).trans d;obtain⟨b,e',ap,I,h0,N⟩:=fL ho;exact y (s.inj id b e e' B E I ao h0 c N▸ap)
 have lt:∀{j:Nat}{D_:Fv},S[j]?=D D_->j<θ S:=by intro j D_ F;rcases A1 j (θ S)with A_|A_;exact A_;grind[u?]
 refine⟨λB O=>⟨DX (s.out B O).1 x.size,λho=>?_⟩,λid g cs U=>?_,λid L U=>?_,λid ar e e' B n A_ ad al I N=>?_,λid e U O=>?_⟩;rcases oF l z Y ho with⟨id,e,_,n,h0,A_⟩|ho;exact(s.out B O).2 ⟨id,e,n,h0,A_⟩;exact(sc.out B (.inl O)).2 ho;rcases ZS l Y U with⟨y,k,E⟩|⟨j,D_,rfl,F,a⟩;obtain⟨W,K⟩:=s.live id g cs E;refine⟨by simpa[cx,OM,y,k]using W,?_⟩;rcases K with⟨hn,rfl⟩|⟨B,C,T,fz,f,c,d,J,Z,V,p⟩;exact .inl ⟨by simpa[cx,OM,y,k]using hn,rfl⟩;refine .inr ⟨B,C,T,fz,f,by simpa[cx,OM,y,k]using c,M y E k! c d,by simpa[cx,OM,y,k]using J,Z,V,λi v P=>?_⟩;obtain⟨n,A_,I⟩:=p i v P;exact⟨n,A_,I.later (xb.later X)⟩;cases D_ with
 |dead=>simp[Fv.ren]at a
 |lp L=>simp[Fv.ren]at a
 |mp=>simp[Fv.ren]at a
 |it=>simp[Fv.ren]at a
 |live g0 R=>
  simp only[Fv.ren,Fv.live.injEq]at a;obtain⟨rfl,rfl⟩:=a;obtain⟨_,r1,r2,r3⟩:=cq (h:=h) (hc:=Q) l z j (lt F);obtain⟨W,K⟩:=sc.live j g R F;refine⟨r1.trans W,?_⟩;rcases K with⟨hn,rfl⟩|⟨B,C,T,fz,f,c,d,J,Z,V,p⟩;exact .inl ⟨r2.trans hn,rfl⟩;refine .inr ⟨B,C,T,fz,f,r2.trans c,d,J.trans r3.symm,by rw[PO,BX];exact Z,V,λi v P=>?_⟩;rw[PO,CO]at P;cases hu:R[i]? with
  |none=>rw[hu]at P;cases P
  |some u=>rw[hu]at P;simp only[Bw,Av]at P;subst P;obtain⟨n,A_,I⟩:=p i u hu;exact⟨n,A_,B3.back l z Y I⟩
 rcases ZS l Y U with⟨y,k,E⟩|⟨j,D_,rfl,F,a⟩;obtain⟨W,B,r,c,d,n,A_,I,N,h5,h6,h7⟩:=s.lp id L E;exact⟨by simpa[cx,OM,y,k]using W,B,r,by simpa[cx,OM,y,k]using c,M y E k! c d,n,A_,I,N,h5,h6,λt v m=>⟨(h7 t v m).1,(h7 t v m).2.later (xb.later X)⟩⟩;cases D_ with
 |dead=>simp[Fv.ren]at a
 |live g0 R=>simp[Fv.ren]at a
 |mp=>simp[Fv.ren]at a
 |it=>simp[Fv.ren]at a
 |lp L0=>simp only[Fv.ren,Fv.lp.injEq]at a;subst a;obtain⟨_,r1,r2,r3⟩:=cq (h:=h) (hc:=Q) l z j (lt F);obtain⟨W,B,r,c,d,n,A_,I,N,h5,h6,h7⟩:=sc.lp j L0 F;refine⟨r1.trans W,B,r,r2.trans c,d,n,A_,I,N,h5,h6,λt v m=>?_⟩;obtain⟨q,hq,e⟩:=BY.1 m;simp only[Ep]at e;obtain⟨rfl,rfl⟩:=e;exact⟨(h7 q.1 q.2 hq).1,B3.back l z Y (h7 q.1 q.2 hq).2⟩
 have key:∀{id:Nat}{e:Fv},(Vm H bs S)[id]?=D e→e≠.dead→(OM h H bs Q).io id=D B→
   (id∉bs/\H[id]?=D e/\h.io id=D B)\/∃j D_,id=Tu H bs j/\S[j]?=D D_/\D_≠.dead/\Q.io j=D B:=by
  intro id e U ao c;rcases ZS l Y U with⟨y,k,E⟩|⟨j,D_,rfl,F,a⟩;exact .inl ⟨y,E,by simpa[OM,y,k]using c⟩;exact .inr ⟨j,D_,rfl,F,λh0=>ao (a.trans (zw.2 h0)),by rw[<-(cq (h:=h) (hc:=Q) l z j (lt F)).2.2.1];exact c⟩
 rcases key n ad I with⟨m1,a1,b1⟩|⟨j1,g1,e1,a1,d1,b1⟩<;>rcases key A_ al N with⟨m2,a2,b2⟩|⟨j2,g2,e2,a2,d2,b2⟩;exact s.inj _ _ _ _ B a1 a2 ad al b1 b2;exact((sc.out B (.inr ⟨_,_,m1,a1,ad,b1⟩)).2 ⟨j2,g2,a2,d2,b2⟩).elim;exact((sc.out B (.inr ⟨_,_,m2,a2,al,b2⟩)).2 ⟨j1,g1,a1,d1,b1⟩).elim;rw[e1,e2,sc.inj _ _ _ _ B a1 a2 d1 d2 b1 b2];rcases ZS l Y U with⟨y,k,E⟩|⟨j,D_,rfl,F,rfl⟩;have b:=s.bld id e E O;have a:e.ren (λx=>x)=e:=by cases e<;>simp_all[Fv.ren,Fv.isB]
 have:=b.ren (h':=OM h H bs Q) (w':=G) (id':=id) (ρ:=λx=>x) (by simp[OM,y,k]) (by simp[OM,y,k]) (by simp[OM,y,k]) (λB o c hb=>(M y E (by rintro rfl;cases O) c hb).trans hb.symm);rwa[a]at this;rw[dy]at O;obtain⟨_,r1,r2,r3⟩:=cq (h:=h) (hc:=Q) l z j (lt F);exact(sc.bld j D_ F O).ren r2 r1 r3 (λ_ _ _ _=>rfl)
end
def oi(env:Env)(c:Call)(first caps:Ψ Af):Ψ Af:=first++c.args.toList.map (BR env)++caps
def fI(P:u)(s f:z):Ω (z×TypeId×z):=
 match P.underlying s with
 |some (.struct fs)=>
  match fs[f]? with
  |some fd=>
   match tI P fd.type with
   |some (_,n)=>D (fd.offset,fd.type,n)
   |none=>ε
  |none=>ε
 |_=>ε
def eI(P:u)(t:TypeId):Ω (Ω z×TypeId×z):=
 match P.underlying t with
 |some (.array len e)=>(tI P e).map λi=>(D len,e,i.2)
 |some (.slice e)=>(tI P e).map λi=>(ε,e,i.2)
 |_=>ε
inductive Kd where
 |bool|int (k:IntKind)|str|bytes|other
 deriving DecidableEq
def kd(P:u)(t:TypeId):Kd:=
 match P.underlying t with
 |some .bool=>.bool
 |some (.int k)=>.int k
 |some .string=>.str
 |some (.slice e)=>match P.underlying e with|some (.int .u8)=>.bytes|_=>.other
 |_=>.other
def UD(H:Ay)(id g:z):Bool:=
 match H[id]? with
 |some (.live g' _)=>g'==g
 |_=>η
def I6.cur{w}(s:I6 X h H w)(a:UD H N t=A):h.gen N=t:=by unfold UD at a;split at a;rename_i c b d;have:=(s.live N c b d).1;simp at a;exact this.trans a;cases a
def shift(H:Ay)(k:z):Af->Ω Af
 |.ptr id g off=>if UD H id g then D (.ptr id g (off+k))else ε
 |.vptr cs=>if k<=θ cs then D (.vptr (cs.drop k))else ε
 |_=>ε
theorem xE(s:I6 e h H w)(r:B3 (cx e h H w) d c)(b:shift H N d=D x):
  ∃B a,c=.pointer (D ⟨B,a,ε⟩)/\B3 (cx e h H w) x (.pointer (D ((⟨B,a,ε⟩:Addr).add N))):=by
 cases r with
 | @ptr id g a c v o t l=>simp only[shift]at b;split at b;rename_i X;simp at b;subst b;obtain⟨B,i,rfl⟩:=l (s.cur X);refine⟨B,a,rfl,.ptr v o rfl λ_=>⟨B,i,by rw[Pf]⟩⟩;cases b
 | @vptr q B a f n m l k=>simp only[shift]at b;split at b;simp at b;subst b;refine⟨B,a,rfl,?_⟩;rw[Pf];refine .vptr (λj=>f (N+j)) n m (λj d p=>?_) λj d p=>?_;grind;grind;cases b
 |_=>grind[shift]
def Wf(P:u)(H:Ay)(s f:z)(v:Af):Ω Af:=
 match fI P s f with
 |some (off,_,n)=>if n=0 then ε else shift H off v
 |none=>ε
def vn(sim:I6 e h H w)(r:B3 (cx e h H w) d c)(s:Wf P H N t d=D x):
  ∃i,(Instr.fieldAt N c t).run P w=.ok i w/\B3 (cx e h H w) x i:=by
 unfold Wf at s;split at s;rename_i k X n a;split at s;cases s;rename_i hn;obtain⟨B,o,rfl,hr⟩:=xE sim r s;unfold fI at a;split at a;rename_i p g;split at a;rename_i l f;split at a;rename_i b m j;obtain⟨rfl,rfl,rfl⟩:=a;refine⟨_,?_,hr⟩;simp[Instr.fieldAt,run_underlying g,f,Instr.sureAddr,fieldPlace,MC j,hn];cases a;cases a;cases a;cases s
def Wm(P:u)(H:Ay)(t:TypeId)(v:Af)(i:Af):Ω Af:=
 match eI P t,i with
 |some (D len,_,sz),.int _ i=>if 0<=i/\i<len then shift H (i.toNat*sz) v else ε
 |some (ε,_,sz),.int _ i=>
  match v with
  |.vs sz' rows=>if 0<=i/\sz=sz' then(rows[i.toNat]?).map λe=>.vptr e.cells else ε
  |.sl id g sz' off len=>if 0<=i/\i<len/\sz=sz'/\UD H id g=A then D (.ptr id g (off+i.toNat*sz))else ε
  |_=>ε
 |_,_=>ε
theorem vr(sim:I6 e h H w)(r:B3 (cx e h H w) d c)(t:B3 (cx e h H w) x I)
  (l:Wm P H b d x=D T):∃O,(Instr.indexAt b c I).run P w=.ok O w/\B3 (cx e h H w) T O:=by
 unfold Wm at l;split at l;rename_i len Q sz k n u;cases t;split at l;rename_i A_;obtain⟨B,o,rfl,hr⟩:=xE sim r l;unfold eI at u;split at u;rename_i F y v;cases m:tI P y with
 |none=>rw[m]at u;cases u
 |some p=>rw[m]at u;simp only[Bw,Av,Ep]at u;obtain⟨rfl,rfl,rfl⟩:=u;refine⟨_,?_,hr⟩;simp[Instr.indexAt,asIntOf,run_underlying v,Instr.sureAddr,A_,MC m]
 rename_i y v;cases m:tI P y<;>grind;cases u;cases l;rename_i Q sz k n u;cases t;have v:∃x,P.underlying b=D (.slice Q)/\tI P Q=D x/\x.2=sz:=by
  unfold eI at u;split at u;rename_i F y v;cases m:tI P y with
  |none=>rw[m]at u;cases u
  |some p=>rw[m]at u;simp at u
  rename_i y v;cases m:tI P y with
  |none=>rw[m]at u;cases u
  |some p=>rw[m]at u;simp only[Bw,Av,Ep]at u;obtain⟨_,rfl,rfl⟩:=u;exact⟨p,v,m,rfl⟩
  cases u
 obtain⟨p,v,m,rfl⟩:=v;cases r with
 | @vs N q a cap f C Y S W Z=>
  simp only at l;split at l;rename_i A_;obtain⟨G,rfl⟩:=A_;cases i:q[n.toNat]? with
  |none=>rw[i]at l;cases l
  |some R=>
   rw[i]at l;simp only[Bw,Av]at l;subst l;have s:n.toNat<θ q:=by rcases A1 n.toNat (θ q)with X|X;exact X;rw[Cz X]at i;cases i
   obtain⟨B,z,rfl,V,U,J⟩:=W (by intro Q;rw[Q]at s;simp at s);refine⟨.pointer (D ⟨B,z+n.toNat*p.2,ε⟩),?_,.vptr (f n.toNat ·) V U (λj d M=>?_) λj d M=>Z _ R _ d i M⟩;have E:n<θ q:=o!
   simp[Instr.indexAt,asIntOf,run_underlying v,G,E,MC m,Pf];have:=J _ R j d i M;rw[fh];exact this
  cases l
 | @sl id g N z len c K i h1 J=>simp only at l;split at l;rename_i A_;obtain⟨G,s,rfl,D_⟩:=A_;simp only[Av]at l;subst l;rcases J (sim.cur D_)with⟨_,hl,_,_⟩|⟨B,cap,L,C,_,rfl⟩;omega;refine⟨.pointer (D ⟨B,z+n.toNat*p.2,ε⟩),?_,.ptr K i rfl λ_=>⟨B,L,rfl⟩⟩;simp[Instr.indexAt,asIntOf,run_underlying v,G,s,MC m,Pf];cases l
 |_=>cases l
 cases l
def vF(P:u)(t:TypeId)(cs:Ψ Af)(off:z):Ω Af:=
 match tI P t with
 |some (A,n)=>if off+n<=θ cs then D (.agg ((cs.drop off).take n))else ε
 |some (η,_)=>cs[off]?
 |none=>ε
theorem zn{P:u}{w:World}(l:k.size=θ f)(o:∀(j:z)(c:Value),k[j]?=D c→c.oneCell'=A)
  (m:∀(j:z)(v:Af)(c:Value),f[j]?=D v->k[j]?=D c->B3 i v c) (x:vF P b f N=D d):∃c,(part b k N).run P w=.ok c w/\B3 i d c:=by
 unfold vF at x;split at x;rename_i n t;split at x;rename_i a;simp at x;subst x;refine⟨.agg (k.extract N (N+n)),by simp[part,Ya t,MC t],.agg w! (λj c h=>?_) λj v c h g=>?_⟩;grind[Array.getElem?_extract];grind;cases x;rename_i n t;have e:N<θ f:=q!
 have g:k[N]?=D (k[N]' o!):=Oe o!;exact⟨_,by simp[part,Ya t,g],m N d _ x g⟩;cases x
def uO(P:u)(s f:z)(v:Af):Ω Af:=
 match fI P s f,v with
 |some (off,t,_),.agg cs=>vF P t cs off
 |_,_=>ε
def ADA(r:B3 i d c)(v:uO P N t d=D x):∃b,(Instr.field N c t).run P w=.ok b w/\B3 i x b:=by
 unfold uO at v;split at v;rename_i o s n f a;cases r with
 | @agg f j g k m=>obtain⟨b,l,hr⟩:=zn (P:=P) (w:=w) g k m v;unfold fI at a;split at a;rename_i q h;split at a;rename_i p e;split at a;simp at a;obtain⟨rfl,rfl,rfl⟩:=a;exact⟨b,by simp[Instr.field,run_underlying h,e,asAgg,l],hr⟩;cases a;cases a;cases a
 cases v
def lC(P:u)(t:TypeId)(v i:Af):Ω Af:=
 match v,i with
 |.agg cs,.int _ i=>
  match eI P t with
  |some (D len,e,sz)=>if 0<=i/\i<len then vF P e cs (i.toNat*sz)else ε
  |_=>ε
 |.str s,.int _ i=>if kd P t=.str/\0<=i then(s[i.toNat]?).map λb=>.int .u8 b.toNat else ε
 |_,_=>ε
theorem uk{P}(h:kd P b=.str):P.underlying b=D .string:=by unfold kd at h;grind
theorem AJA(h:kd P b=.int M):P.underlying b=D (.int M):=by unfold kd at h;grind
theorem ADF(r:B3 i d c)(B:B3 i x I)(a:lC P b d x=D T):∃f,(Instr.index b c I).run P w=.ok f w/\B3 i T f:=by
 unfold lC at a;split at a;rename_i C k n;cases B;split at a;rename_i len e sz v;split at a;rename_i g;cases r with
 | @agg C D_ m F J=>
  obtain⟨f,G,hr⟩:=zn (P:=P) (w:=w) m F J a;unfold eI at v;split at v;rename_i A_ E o;cases z:tI P E with
  |none=>grind
  |some p=>rw[z]at v;simp only[Bw,Av,Ep]at v;obtain⟨rfl,rfl,rfl⟩:=v;exact⟨f,by simp[Instr.index,asIntOf,run_underlying o,g,MC z,G],hr⟩
  simp_all;cases v
 cases a;cases a;rename_i s k n;cases B;cases r with
 | @str s h t=>
  split at a;rename_i g;subst t;cases y:h.data.toList[n.toNat]? with
  |none=>grind
  |some u=>
   rw[y]at a;simp only[Bw,Av]at a;subst a;have j:h[n.toNat]?=D u:=by
    obtain⟨H,v⟩:=Gb.1 y;have l:n.toNat<h.size:=by simpa using H
    rw[getElem?_pos h n.toNat l];exact E! D v
   exact⟨.int .u8 u.toNat,by simp[Instr.index,asIntOf,run_underlying (uk g.1),g.2,j],.int _ _⟩
  cases a
 cases a
def ADo(P:u)(g:TypeId->Option (List Kd)):List Field->z->Option (List Kd)
 |[],_=>some []
 |f::r,off=>
  if f.offset=off/\(f.name== "_")=false then
   match g f.type with
   |some ks=>if ks.length=P.cellsOf f.type then(ADo P g r (off+ks.length)).map (ks++ ·)else none
   |none=>none
  else none
def xZ(P:u):z->TypeId->Ω (Ψ Kd)
 |0,_=>ε
 |d+1,t=>
  match P.underlying t with
  |some .bool=>D [.bool]
  |some (.int k)=>D [.int k]
  |some .string=>D [.str]
  |some (.array n e)=>
   match xZ P d e with
   |some ks=>if θ ks=P.cellsOf e/\(P.info? e).isSome then D (ς n ks).flatten else ε
   |none=>ε
  |some (.struct fs)=>if P.stoodInHeld t then ε else ADo P (xZ P d) fs.toList 0
  |_=>ε
def AAw:Kd->Af->Bool
 |.bool,.bool _=>A
 |.int k,.int k' _=>decide (k=k')
 |.str,.str _=>A
 |_,_=>η
def typed:Ψ Kd->Ψ Af->Bool
 |[],[]=>A
 |k::ks,v::vs=>AAw k v&&typed ks vs
 |_,_=>η
def sEq:Af->Af->Bool
 |.bool a,.bool b=>a==b
 |.int _ a,.int _ b=>a==b
 |.str a,.str b=>a==b
 |_,_=>η
def vk:Ψ Af->Ψ Af->Bool
 |[],[]=>A
 |a::as,b::bs=>sEq a b&&vk as bs
 |_,_=>η
variable {J:Ψ Kd}
def YQ{b:Ψ Kd}:∀{a},typed (J++b) a=A->typed J (a.take (θ J))=A/\typed b (a.drop (θ J))=A:=by
 induction J with
 |nil=>intro a h;exact⟨by simp[typed],by simpa using h⟩
 |cons k f e=>
  intro a h;cases a with
  |nil=>simp[typed]at h
  |cons v a=>simp only[Dx,typed,BQ]at h;obtain⟨c,d⟩:=e h.2;exact⟨by simp[typed,h.1,c],by simpa using d⟩
def HC:∀{a}{b},typed a b=A->θ b=θ a
 |[],[],_=>rfl
 |_::_,_::_,h=>by simp only[typed,BQ]at h;simp[HC h.2]
 |[],_::_,h=>by simp[typed]at h
 |_::_,[],h=>by simp[typed]at h
def qS:∀n(c bs:Ψ Af),θ c=θ bs->vk c bs=(vk (c.take n) (bs.take n)&&vk (c.drop n) (bs.drop n))
 |0,c,bs,_=>by simp[vk]
 |n+1,[],[],_=>by simp[vk]
 |n+1,a::c,b::bs,h=>by simp only[BW,Nat.add_right_cancel_iff]at h;simp only[vk,List.take_succ_cons,List.drop_succ_cons,qS n c bs h,Bool.and_assoc]
 |n+1,[],_::_,h=>by simp at h
 |n+1,_::_,[],h=>by simp at h
def Over(P:Program)(x:Cx)(t:TypeId)(as:List Af)(a:Value):Prop:=
 ∃(b:Bool) (n:Nat) (cs:List Value),tI P t=some (b,n)/\as.length=n/\nN x as cs/\(if b then a= .agg cs.toArray else cs=[a])
def EqF(P:u)(d:z)(t:TypeId)(ks:Ψ Kd):Prop:=
 ∀w x a b as bs,Over P x t as a->Over P x t bs b->typed ks as=A->typed ks bs=A->(Op.equalIn d t a b).run P w=.ok (vk as bs) w
theorem mL{P:Program}{x:Cx}{t:TypeId}{h:List Af}{d:List Value}{off n:Nat}{w:World}{b:Bool}(hr:nN x h d)(f:tI P t=some (b,n))(m:b=false→n=1)(o:off+n≤h.length):
  ∃a,(part t d.toArray off).run P w= .ok a w/\Over P x t ((h.drop off).take n) a:=by
 have e:nN x ((h.drop off).take n) ((d.drop off).take n):=by
  refine⟨by simp[hr.1],λj v c g i=>?_⟩;rw[cj]at g i;split at g
  ·rename_i k;rw[if_pos k]at i;rw[KJ]at g i;exact hr.2 _ v c g i
  ·cases g
 cases b with
 |true=>refine⟨.agg (d.toArray.extract off (off+n)),by simp[part,Ya f,MC f],true,n,(d.drop off).take n,f,by simp;omega,e,?_⟩;simp only[if_true,Value.agg.injEq];apply Array.toList_inj.1;simp only[Array.toList_extract,wB,Tr]
 |false=>
  obtain rfl:=m rfl;have l:off<d.length:=by rw[hr.1];omega
  refine⟨d[off],by simp[part,Ya f,l],false,1,(d.drop off).take 1,f,by simp;omega,e,?_⟩;rw[if_neg (by simp),KH l];rfl
def oI{d}(h:xZ P d b=D J):∃t,tI P b=D (t,P.cellsOf b)/\(t=η->θ J=1):=by
 cases d with
 |zero=>simp[xZ]at h
 |succ d=>
  unfold xZ at h;unfold tI Program.cellsOf;cases f:P.info? b with
  |none=>
   have a:P.underlying b=ε:=by simp[Program.underlying,f]
   rw[a]at h;cases h
  |some i=>
   cases a:P.underlying b with
   |none=>rw[a]at h;cases h
   |some c=>rw[a]at h;refine⟨_,rfl,?_⟩;cases c<;>simp_all<;>(subst h;rfl)
def zz{P:Program}{d:Nat}{g:TypeId→Option (List Kd)}(C: ∀t i,g t=some i→EqF P d t i∧ ∃b,tI P t=some (b,P.cellsOf t)∧(b=false→i.length=1)){x:Cx}{w:World}{l bs:List Af}{H I:List Value}
  (A_:nN x l H) (B:nN x bs I) (j:l.length=bs.length): ∀(m:List Field) (h:Nat) (i:List Kd),ADo P g m h=some i->h<=l.length->typed i (l.drop h)=true->typed i (bs.drop h)=true->(Op.eqFields d H.toArray I.toArray m).run P w= .ok (vk (l.drop h) (bs.drop h)) w
 |[],h,i,hk,_,ta,tb=>by simp only[ADo,Av]at hk;subst hk;have J:=HC ta;have K:=HC tb;rw[Eu J,Eu K];simp[Op.eqFields,vk]
 |f::m,h,i,hk,ho,ta,tb=>by
  simp only[ADo]at hk;split at hk;rename_i L;obtain⟨rfl,k⟩:=L;split at hk;rename_i k1 u;split at hk;rename_i o;cases hr:ADo P g m (f.offset+k1.length)with
  |none=>rw[hr]at hk;cases hk
  |some N=>
   rw[hr]at hk;simp only[Bw,Av]at hk;subst hk;obtain⟨q,y⟩:=YQ ta;obtain⟨r,z⟩:=YQ tb;obtain⟨s,b,D_,n⟩:=C _ _ u;have E:=HC q;have O:=HC r;have v:f.name≠ "_" :=by simpa using k
   obtain⟨a,Q,F⟩:=mL (P:=P) (w:=w) (off:=f.offset) A_ D_ (λe=>o▸n e) (by rw[<-o];simp at E;omega);obtain⟨c,R,G⟩:=mL (P:=P) (w:=w) (off:=f.offset) B D_ (λe=>o▸n e) (by rw[<-o];simp at O;omega);rw[<-o]at F G;have p:=s w x a c _ _ F G q r;have M:=zz C (w:=w) A_ B j m (f.offset+k1.length) N hr (by simp at E;omega) (by simpa[Od]using y) (by simpa[Od]using z);rw[qS k1.length _ _ (by simp[j])];simp only[Op.eqFields,if_pos v,Sem.run_bind,Q,R,p,Result.andThen_ok];cases vk ((l.drop f.offset).take k1.length) ((bs.drop f.offset).take k1.length);simp;simp only[CE,Qd,if_false,pu,M,Od]
  cases hk;cases hk;cases hk
def xA{P:Program}{d:Nat}{e:TypeId}{f:Ψ Kd}(o:EqF P d e f){b:Bool}(s:tI P e=D (b,θ f))(j:b=η→θ f=1){x:Cx}{w:World}{h bs:Ψ Af}{z A_:Ψ Value}
  (u:nN x h z) (v:nN x bs A_) (g:θ h=θ bs):∀(n i:Nat),i*θ f<=θ h->typed (ς n f).flatten (h.drop (i*θ f))=A->typed (ς n f).flatten (bs.drop (i*θ f))=A->(Op.eqItems d e (θ f) z.toArray A_.toArray (List.range' i n)).run P w=.ok (vk (h.drop (i*θ f)) (bs.drop (i*θ f))) w
 |0,i,_,ta,tb=>by have B:=HC ta;have C:=HC tb;rw[Eu (l:=h.drop _) (by simpa using B),Eu (l:=bs.drop _) (by simpa using C)];simp[Op.eqItems,vk]
 |n+1,i,ho,ta,tb=>by
  rw[nR,qB]at ta tb;obtain⟨q,k⟩:=YQ ta;obtain⟨r,m⟩:=YQ tb;have y:=HC q;have E:=HC r;obtain⟨a,H,F⟩:=mL (P:=P) (w:=w) (off:=i*θ f) u s j (by simp at y;omega);obtain⟨c,I,G⟩:=mL (P:=P) (w:=w) (off:=i*θ f) v s j (by simp at E;omega);have p:=o w x a c _ _ F G q r;rw[Od]at k m;have t:i*θ f+θ f=(i+1)*θ f:=by rw[Ec];omega
  rw[t]at k m;have D_:=xA o s j (w:=w) u v g n (i+1) (by simp at y;omega) k m;rw[qS (θ f) _ _ (by simp[g]),Od,Od,t];rw[List.range'_succ];simp only[Op.eqItems,Sem.run_bind,H,I,p,Result.andThen_ok];cases vk ((h.drop (i*θ f)).take (θ f)) ((bs.drop (i*θ f)).take (θ f));simp;simp[D_]
def xa{P}(d:Nat):∀m t(y:Ψ Kd),xZ P m t=D y->EqF P (d+m) t y
 |0,_,_,h=>by simp[xZ]at h
 |m+1,t,y,h=>by
  obtain⟨bt,T,_⟩:=oI h;intro w x a b F bs X Y o p;obtain⟨O,n1,xs,c,U,ra,j⟩:=X;obtain⟨Z,n2,ys,r,V,E,l⟩:=Y;rw[c]at r;simp only[Av,Ep]at r;obtain⟨rfl,rfl⟩:=r;have I:=HC o;have J:=HC p;have g:∀q,P.underlying t=D q->O=(match q with|.struct _|.array _ _=>A|_=>η):=by intro q S;unfold tI at c;rw[S]at c;split at c;rename_i G;injection G with e;subst e;simp only[Av,Ep]at c;exact c.1.symm;cases c
  unfold xZ at h;split at h;rename_i f;simp only[Av]at h;subst h;have:=g _ f;simp only at this;subst this;simp only[Qd,if_false]at j l;subst j l;match F,I,bs,J with
  |[u],_,[v],_=>have C:=ra.2 0 u a rfl rfl;have D_:=E.2 0 v b rfl rfl;simp only[typed,Ry]at o p;cases u<;>simp[AAw]at o;cases v<;>simp[AAw]at p;cases C;cases D_;rw[show d+(m+1)=(d+m)+1 from rfl,run_equalIn_bool' w (d+m) t _ _ f];simp[vk,sEq]
  rename_i k f;simp only[Av]at h;subst h;have:=g _ f;simp only at this;subst this;simp only[Qd,if_false]at j l;subst j l;match F,I,bs,J with
  |[u],_,[v],_=>have C:=ra.2 0 u a rfl rfl;have D_:=E.2 0 v b rfl rfl;simp only[typed,Ry]at o p;cases u<;>simp[AAw]at o;cases v<;>simp[AAw]at p;cases C;cases D_;subst o p;rw[show d+(m+1)=(d+m)+1 from rfl,run_equalIn_int w (d+m) t _ _ _ _ f];simp[vk,sEq]
  rename_i f;simp only[Av]at h;subst h;have:=g _ f;simp only at this;subst this;simp only[Qd,if_false]at j l;subst j l;match F,I,bs,J with
  |[u],_,[v],_=>
   have C:=ra.2 0 u a rfl rfl;have D_:=E.2 0 v b rfl rfl;simp only[typed,Ry]at o p;cases u<;>simp[AAw]at o;cases v<;>simp[AAw]at p;cases C with
   |str s1 Q=>
    cases D_ with
    |str s2 R=>subst Q R;rw[show d+(m+1)=(d+m)+1 from rfl,run_equalIn_string w (d+m) t _ _ f];simp[vk,sEq,ByteArray.toList_eq]
  rename_i n e f;split at h;rename_i k1 A_;split at h;rename_i H;simp only[Av]at h;subst h;have:=g _ f;simp only at this;subst this;simp only[if_true]at j l;subst j l;obtain⟨N,s⟩:=fj.1 H.2;obtain⟨b,L,B⟩:=oI A_;rw[<-H.1]at L;have i:=xA (xa d m e k1 A_) L B (w:=w) ra E o! n 0 k! (by simpa using o) (by simpa using p);rw[show d+(m+1)=(d+m)+1 from rfl,run_equalIn_array w (d+m) _ _ f s,<-H.1,List.range_eq_range'];simpa using i;cases h;cases h;rename_i K f;split at h;cases h;rename_i W;have:=g _ f;simp only at this;subst this;simp only[if_true]at j l;subst j l;have z:P.fieldsOf t=K:=by simp[Program.fieldsOf,f]
  have i:=zz (d:=d+m) (λt y M=>⟨xa d m t y M,oI M⟩) (w:=w) ra E o! K.toList 0 y h k! (by simpa using o) (by simpa using p);rw[show d+(m+1)=(d+m)+1 from rfl,run_equalIn_struct w (d+m) t _ _ (by rw[z];exact f) (by simpa using W),z];simpa using i;cases h
def qC(op:BinOp)(k:IntKind)(a b:Int):Ω Af:=
 match op with
 |.add=>D (.int k (k.wrap (a+b)))
 |.sub=>D (.int k (k.wrap (a-b)))
 |.mul=>D (.int k (k.wrap (a*b)))
 |.quo=>if b=0 then ε else D (.int k (k.wrap (a.tdiv b)))
 |.rem=>if b=0 then ε else D (.int k (a.tmod b))
 |.and=>D (.int k (k.wrap (κ k.bits a&&&κ k.bits b).toNat))
 |.or=>D (.int k (k.wrap (κ k.bits a|||κ k.bits b).toNat))
 |.xor=>D (.int k (k.wrap (κ k.bits a^^^κ k.bits b).toNat))
 |.andNot=>D (.int k (k.wrap (κ k.bits a&&& ~~~κ k.bits b).toNat))
 |.eql=>D (.bool (a==b))
 |.neq=>D (.bool (a !=b))
 |.lss=>D (.bool (τ (a<b)))
 |.leq=>D (.bool (τ (a<=b)))
 |.gtr=>D (.bool (τ (a>b)))
 |.geq=>D (.bool (τ (a>=b)))
 |.shl|.shr=>ε
def AAb{a k}(w:World)(h:qC R M a k=D d):∃c,(binOp R b (.int M a) (.int M k)).run P w=.ok c w/\B3 i d c:=by
 cases R<;>simp only[qC]at h<;>(try split at h)<;>first
  |cases h;done
  |(simp at h;subst h;first
    |exact⟨_,by simp[binOp,Op.intArith,Op.intDiv,Op.intBits, *],.int _ _⟩
    |exact⟨_,by simp[binOp,Op.intCmp],.bool _⟩)
def lM(op:BinOp)(k:IntKind)(a b:Int):Option Af:=
 if b<0 then ε else
 match op with
 |.shl=>δ (.int k (k.wrap (a*2^min b.toNat k.bits)))
 |.shr=>δ (.int k (a.fdiv (2^min b.toNat k.bits)))
 |_=>ε
def AEY(P:u)(t:TypeId):Ω (Ψ Kd):=
 if P.eqGuardType P.depth t then ε else
 match xZ P 12 t with
 |some ks=>if tI P t=D (A,θ ks)then D ks else ε
 |none=>ε
def xS(op:BinOp)(a b:Ψ UInt8):Ω Af:=
 match op with
 |.add=>if θ a+θ b<=9223372036854775807 then D (.str (a++b))else ε
 |.eql=>D (.bool (a==b))
 |.neq=>D (.bool (a !=b))
 |.lss=>D (.bool (Op.bytesLess a b))
 |.leq=>D (.bool (Op.bytesLess a b||a==b))
 |.gtr=>D (.bool (!(Op.bytesLess a b||a==b)))
 |.geq=>D (.bool (!Op.bytesLess a b))
 |_=>ε
def yp(P:u)(op:BinOp)(t:TypeId)(x y:Af):Ω Af:=
 match x,y with
 |.int k a,.int k' b=>
  match op with
  |.shl|.shr=>lM op k a b
  |_=>if k=k' then qC op k a b else ε
 |.bool a,.bool b=>
  match op with
  |.eql=>if kd P t=.bool then D (.bool (a==b))else ε
  |.neq=>if kd P t=.bool then D (.bool (!(a==b)))else ε
  |_=>ε
 |.str a,.str b=>xS op a b
 |.agg as,.agg bs=>
  match AEY P t with
  |some ks=>
   if typed ks as=A/\typed ks bs=A then
    match op with
    |.eql=>D (.bool (vk as bs))
    |.neq=>D (.bool (!vk as bs))
    |_=>ε
   else ε
  |none=>ε
 |_,_=>ε
theorem ACG(h:kd P b=.bool):P.underlying b=D .bool:=by unfold kd at h;grind
def toList_data(t:ByteArray):t.toList=t.data.toList:=ByteArray.toList_eq t
theorem AGe{P:Program}{e:BinOp}{t:TypeId}{x y:Operand}{a b u:Af}{f g:Value}{X:Cx}(w:World)(ra:B3 X a f)(A_:B3 X b g)(h:yp P e t a b=some u):
  ∃c,(do eqGuard e t x y f g;binOp e t f g:Sem Value).run P w= .ok c w/\B3 X u c:=by
 unfold yp at h;split at h
 ·rename_i k n T U;cases ra;cases A_;have m:(eqGuard e t x y (.int k n) (.int T U)).run P w= .ok () w:=by unfold eqGuard;cases e<;>simp
  simp only[Sem.run_bind,m,Result.andThen_ok];split at h
  ·unfold lM at h;split at h
   ·cases h
   ·rename_i C;simp only[Av]at h;subst h;exact⟨_,by simp[binOp,Op.shift,C],.int _ _⟩
  ·unfold lM at h;split at h
   ·cases h
   ·rename_i C;simp only[Av]at h;subst h;exact⟨_,by simp[binOp,Op.shift,C],.int _ _⟩
  ·simp_all[AAb]
 ·rename_i p q;cases ra;cases A_;have m:(eqGuard e t x y (.bool p) (.bool q)).run P w= .ok () w:=by unfold eqGuard;cases e<;>simp
  simp only[Sem.run_bind,m,Result.andThen_ok];split at h
  ·split at h
   ·rename_i I;simp only[Av]at h;subst h;exact⟨_,run_eql_bool w t p q (ACG I),.bool _⟩
   ·cases h
  ·split at h
   ·rename_i I;simp only[Av]at h;subst h;refine⟨_,?_,.bool _⟩;simp only[binOp];simp[run_equal_bool w t p q (ACG I)]
   ·cases h
  ·cases h
 ·rename_i s1 s2;cases ra with
  |str s L=>
   cases A_ with
   |str z O=>
    have m:(eqGuard e t x y (.string s) (.string z)).run P w= .ok () w:=by unfold eqGuard;cases e<;>simp
    simp only[Sem.run_bind,m,Result.andThen_ok];subst L O;unfold xS at h;split at h
    ·split at h
     ·rename_i S;simp only[Av]at h;subst h;have o: ¬(((s.size+z.size:Nat):Int)>IntKind.i64.max):=by
       have Z:s.data.toList.length=s.size:=by simp
       have e2:z.data.toList.length=z.size:=by simp
       have K:IntKind.i64.max=9223372036854775807:=by decide
       rw[K];omega
      exact⟨.string (s++z),by simp only[binOp];simp only[Op.stringOp,if_neg o];rfl,.str _ (by simp)⟩
     ·cases h
    all_goals first
     |cases h;done
     |(simp only[Av]at h
       subst h;exact⟨_,by simp only[binOp];simp[Op.stringOp,toList_data,bne],.bool _⟩)
 ·rename_i B bs;cases ra with
  | @agg B f V M Y=>
   cases A_ with
   | @agg bs g W N vb=>
    split at h
    ·rename_i ks d;unfold AEY at d;split at d
     ·cases d
     ·rename_i G;split at d
      ·rename_i J E;split at d
       ·rename_i r;simp only[Av]at d;subst d;split at h
        ·rename_i i;have F:=xa (P:=P) 9988 12 t J E;have Q:=HC i.1;have R:=HC i.2;have l:(Op.equalIn 10000 t (.agg f) (.agg g)).run P w= .ok (vk B bs) w:=
          F w X (.agg f) (.agg g) B bs ⟨true,_,f.toList,r,by omega,⟨by simpa using V,λj v c H D_=>Y j v c H (by simpa using D_)⟩,by simp⟩
           ⟨true,_,g.toList,r,by omega,⟨by simpa using W,λj v c H D_=>vb j v c H (by simpa using D_)⟩,by simp⟩ i.1 i.2
         have m:(eqGuard e t x y (.agg f) (.agg g)).run P w= .ok () w:=run_eqGuard_agg w e t x y f g (by simpa using G);simp only[Sem.run_bind,m,Result.andThen_ok];split at h
         ·simp only[Av]at h;subst h;exact⟨_,by rw[run_eql_struct,l];rfl,.bool _⟩
         ·simp only[Av]at h;subst h;exact⟨_,by rw[run_neq_struct,l];rfl,.bool _⟩
         ·cases h
        ·cases h
       ·cases d
      ·cases d
    ·cases h
 ·cases h
def unV(op:UnOp)(v:Af):Ω Af:=
 match op,v with
 |.neg,.int k n=>D (.int k (k.wrap (0-n)))
 |.xor,.int k n=>D (.int k (k.wrap (κ k.bits (if k.signed then-1 else k.max)^^^κ k.bits n).toNat))
 |.not,.bool b=>D (.bool !b)
 |_,_=>ε
def AJh{b}(w:World)(r:B3 i d c)(h:unV b d=D x):∃a,(Op.unary b c).run P w=.ok a w/\B3 i x a:=by unfold unV at h;split at h;cases r;simp at h;subst h;exact⟨_,by simp[Op.unary,Op.intArith],.int _ _⟩;cases r;simp at h;subst h;exact⟨_,by simp only[Op.unary];rfl,.int _ _⟩;cases r;simp at h;subst h;exact⟨_,by simp[Op.unary],.bool _⟩;cases h
def rowsOf(H:Ay):Af->Ω (Ψ Af)
 |.vs sz rows=>if sz=1 then D (rows.flatMap Af.cells)else ε
 |.sl id g sz off len=>
  match H[id]? with
  |some (.live g' cs)=>if g=g'/\sz=1/\off+len<=θ cs then D ((cs.drop off).take len)else ε
  |_=>ε
 |.nils=>D []
 |_=>ε
def u8s:Ψ Af->Ω (Ψ UInt8)
 |[]=>D []
 |.int .u8 n::r=>(u8s r).map (UInt8.ofNat n.toNat:: ·)
 |_=>ε
def Xy(P:u)(H:Ay)(src dst:TypeId)(v:Af):Ω Af:=
 match kd P dst,v with
 |.int k,.int _ n=>if(P.underlying src).isSome then D (.int k (k.wrap n))else ε
 |.str,.str s=>if(P.underlying src).isSome then D (.str s)else ε
 |.str,v=>
  if kd P src=.bytes then
   match rowsOf H v with
   |some cs=>(u8s cs).map Af.str
   |none=>ε
  else ε
 |_,_=>ε
theorem rG{sz:z}:∀{rows:Ψ Af},(∀(j:z)(e:Af),rows[j]?=D e->θ e.cells=sz)->(rows.flatMap Af.cells).length=θ rows*sz
 |[],_=>k!
 |e::r,h=>by have b:=h 0 e rfl;have d:=rG (rows:=r) λj a c=>h (j+1) a q!;grind
theorem flat_get{sz:z}(c:0<sz):∀{rows:Ψ Af},(∀(j:z)(e:Af),rows[j]?=D e→θ e.cells=sz)→ ∀(i:z)(v:Af),(rows.flatMap Af.cells)[i]?=D v→
  ∃e,rows[i/sz]?=D e/\e.cells[i%sz]?=D v
 |e::r,h,i,v,hi=>by
  have d:=h 0 e rfl;simp at hi;rcases A1 i sz with f|a;grind[Nat.div_eq_of_lt,Nat.mod_eq_of_lt];rw[Cu o!,d]at hi;obtain⟨b,l,m⟩:=flat_get c (rows:=r) (λj b n=>h (j+1) b q!) (i-sz) v hi;have g:i/sz=(i-sz)/sz+1:=by rw[<-Nat.add_div_right _ c,Nat.sub_add_cancel a]
  have k:i%sz=(i-sz)%sz:=by rw[<-Nat.add_mod_right (i-sz),Nat.sub_add_cancel a]
  grind
def ABT{P:Program}(s:I6 e h H w)(r:B3 (cx e h H w) d c)(hr:rowsOf H d=D f):
  ∃a n cap V,c=.slice a n cap/\n=θ f/\nN (cx e h H w) f V/\((a=ε/\n=0)\/∃C,a=D C/\(loadCells C n).run P w=.ok V.toArray w):=by
 cases r with
 |nils=>simp only[rowsOf,Av]at hr;subst hr;exact⟨ε,0,0,[],rfl,rfl,⟨rfl,λ_ _ _ h=>by cases h⟩,.inl ⟨rfl,rfl⟩⟩
 | @vs sz b a cap v D_ ar m Z hv=>
  simp only[rowsOf]at hr;split at hr;rename_i R;subst R;simp only[Av]at hr;subst hr;have l:=rG m;rw[Nat.mul_one]at l;cases b with
  |nil=>
   cases a with
   |none=>exact⟨ε,0,cap,[],rfl,rfl,⟨rfl,λ_ _ _ h=>by cases h⟩,.inl ⟨rfl,rfl⟩⟩
   |some C=>exact⟨D C,0,cap,[],rfl,rfl,⟨rfl,λ_ _ _ h=>by cases h⟩,.inr ⟨C,rfl,by simp[loadCells,loadCellsFrom]⟩⟩
  |cons Y I=>
   obtain⟨B,i,rfl,hO,hB,L⟩:=Z k!;generalize Y::I=b at*;refine⟨_,θ b,cap,(List.range (θ b)).map λj=>v j 0,rfl,l.symm,⟨by simp[l],λj d X A_ o=>?_⟩,.inr ⟨_,rfl,?_⟩⟩;obtain⟨K,p,E⟩:=flat_get o! m j d A_;rw[Nat.div_one]at p;rw[Nat.mod_one]at E;have t:j<θ b:=by rcases A1 j (θ b)with y|y;exact y;rw[Cz y]at p;cases p
   rw[CO,R1 t]at o;simp only[Bw,Av]at o;subst o;exact hv j K 0 d p E;have:=run_loadCells (P:=P) w ⟨B,i,ε⟩ (θ b) (v · 0) λj A_=>by have J:b[j]?=D (b[j]):=Au A_;have hl:=m j _ J;have M:(b[j]).cells[0]?=D ((b[j]).cells[0]' o!):=Au o!;rw[Pf];have:=(L j _ 0 _ J M).1;simpa[cx]using this
   exact this
  cases hr
 | @sl id g sz i len c ao hg R L=>
  simp only[rowsOf]at hr;split at hr;rename_i g' x J;split at hr;rename_i z;obtain⟨rfl,rfl,ap⟩:=z;simp only[Av]at hr;subst hr;obtain⟨G,F⟩:=s.live id g x J;rcases L G with⟨q,rfl,rfl,rfl⟩|⟨B,cap,q,D_,N,rfl⟩;exact⟨ε,0,0,[],rfl,k!,⟨k!,λ_ _ _ _ h=>by cases h⟩,.inl ⟨rfl,rfl⟩⟩;rcases F with⟨hn,_⟩|⟨Q,W,T,fz,v,u,hb,S,U,al,k⟩;rw[hn]at q;cases q;have:Q=B:=by rw[q]at u;injection u with K;exact K.symm
  subst this;refine⟨_,len,cap,(List.range len).map λj=>v (i+j),rfl,w!,⟨w!,λj d X A_ o=>?_⟩,.inr ⟨_,rfl,?_⟩⟩;have t:j<len:=by rcases A1 j len with y|y;exact y;rw[Cz (by simpa using y)]at o;cases o
  rw[cj,C! t,KJ]at A_;rw[CO,R1 t]at o;simp only[Bw,Av]at o;subst o;exact(k _ d A_).2.2;exact run_loadCells (P:=P) w ⟨Q,i,ε⟩ len (λj=>v (i+j)) λj A_=>by have O:x[i+j]?=D (x[i+j]' o!):=Au o!;rw[Pf,Qg (w:=w) hb];exact(k _ _ O).1
  cases hr;cases hr
 |_=>simp only[rowsOf]at hr;cases hr
theorem AAE{x}:∀{d}{b}{bs:Ψ UInt8},nN x d b->u8s d=D bs->∃e:Ψ Int,b=e.map (Value.int .u8)/\bs=e.map λn=>UInt8.ofNat n.toNat
 |[],b,bs,hr,hb=>by simp only[u8s]at hb;rw[Eu hr.1];simp_all
 |v::d,b,bs,hr,hb=>by
  match b,hr with
  |u::b,hr=>
   have h:=hr.2 0 v u rfl rfl;have l:nN x d b:=⟨by have:=hr.1;simpa using this,λj a c p o=>hr.2 (j+1) a c q! q!⟩
   unfold u8s at hb;split at hb<;>rename_i f<;>(try cases f)<;>try (cases hb;done)
   cases k:u8s d with
   |none=>grind
   |some g=>obtain⟨e,i,m⟩:=AAE l k;cases h;exact⟨_::e,by rw[i];rfl,q!⟩
def AAp(a:Ψ Int):∀s:ByteArray,(a.foldl (λr n=>r.push (UInt8.ofNat n.toNat)) s).data.toList=s.data.toList++a.map λn=>UInt8.ofNat n.toNat:=by induction a<;>simp_all
theorem AE1{P}(h:kd P b=.bytes):∃e,P.underlying b=D (.slice e)/\P.underlying e=D (.int .u8):=by unfold kd at h;grind
theorem AEf(s:I6 e h H w)(r:B3 (cx e h H w) d c)(l:Xy P H b W d=D x):
  ∃y,(convert b W c).run P w=.ok y w/\B3 (cx e h H w) x y:=by
 unfold Xy at l;split at l;rename_i k I n j;split at l;rename_i i;obtain⟨C,i⟩:=fj.1 i;simp only[Av]at l;subst l;cases r;exact⟨_,by simp[convert,run_underlying i,run_underlying (AJA j),Conv.intToInt],.int _ _⟩;cases l;rename_i J j;split at l;rename_i i;obtain⟨C,i⟩:=fj.1 i;simp only[Av]at l;subst l;cases r with
 |str t F=>exact⟨_,by simp[convert,run_underlying i,run_underlying (uk j)],.str _ F⟩
 cases l;rename_i L j _;split at l;rename_i D_;split at l;rename_i B p;cases q:u8s B with
 |none=>rw[q]at l;cases l
 |some bs=>
  rw[q]at l;simp only[Bw,Av]at l;subst l;obtain⟨v,m,z⟩:=AE1 D_;obtain⟨a,n,cap,K,rfl,hn,X,f⟩:=ABT (P:=P) s r p;obtain⟨o,rfl,rfl⟩:=AAE X q;rcases f with⟨rfl,E⟩|⟨A_,rfl,g⟩;have:o=[]:=by have G:=X.1;grind[List.length_map,List.eq_nil_of_length_eq_zero]
  subst this;exact⟨.string .empty,by simp[convert,run_underlying m,run_underlying (uk j),run_underlying z,Conv.bytesToString],.str _ rfl⟩;refine⟨_,?_,.str _ (AAp o ByteArray.empty)⟩;simp only[convert,Sem.run_bind,run_underlying m,run_underlying (uk j),run_underlying z,Result.andThen_ok];exact run_bytesToString w A_ n cap o (by simpa using g)
 cases l;cases l;cases l
def ql(P:u)(H:Ay)(t:TypeId)(v:Af):Ω Af:=
 match P.underlying t,v with
 |some .string,.str s=>D (.int .i64 (θ s))
 |some (.array n _),_=>D (.int .i64 n)
 |some (.slice _),.vs _ rows=>D (.int .i64 (θ rows))
 |some (.slice _),.sl _ _ _ _ len=>D (.int .i64 len)
 |some (.slice _),.nils=>D (.int .i64 0)
 |_,_=>ε
def AHE{P}{w}{t ty:TypeId}(s:I6 e h H w)(r:B3 (cx e h H w) d c)(b:ql P H t d=D x):
  ∃f,(Builtin.len_ #[t] ty #[c]).run P w=.ok f w/\B3 (cx e h H w) x f:=by
 unfold ql at b;split at b;rename_i p X;simp only[Av]at b;subst b;cases r with
 |str j m=>
  refine⟨.int .i64 j.size,by simp[Builtin.len_,run_underlying X,goInt],?_⟩;have:θ p=j.size:=by rw[<-m];simp
  rw[this];exact .int _ _
 rename_i n u X;simp only[Av]at b;subst b;exact⟨.int .i64 n,by simp[Builtin.len_,run_underlying X,goInt],.int _ _⟩;rename_i sz i X;simp only[Av]at b;subst b;cases r;exact⟨_,by simp[Builtin.len_,run_underlying X,goInt],.int _ _⟩;rename_i id g sz o len X;simp only[Av]at b;subst b;cases r with
 |sl l v k q=>obtain⟨a,cap,rfl⟩:=k;exact⟨_,by simp[Builtin.len_,run_underlying X,goInt],.int _ _⟩
 rename_i X;simp only[Av]at b;subst b;cases r;exact⟨_,by simp[Builtin.len_,run_underlying X,goInt],.int _ _⟩;cases b
def mmV(mx:Bool):Ψ Af->Ω Af
 |[.int k a,.int _ b]=>D (.int k (if mx then(if b>a then b else a)else(if b<a then b else a)))
 |_=>ε
def AFD{P:u}{w:World}{mx}{ts:Array TypeId}{ty:TypeId}(g:B3 i d I)(h:B3 i x c)(a:mmV mx [d,x]=D T):
  ∃f,((if mx then Builtin.max_ ts ty #[I,c]else Builtin.min_ ts ty #[I,c]):Sem Value).run P w=.ok f w/\B3 i T f:=by
 cases d<;>try (simp[mmV]at a;done)
 cases x<;>try (simp[mmV]at a;done)
 cases g;cases h;simp only[mmV,Av]at a;subst a;cases mx;exact⟨_,by simp[Builtin.min_,Builtin.min2],.int _ _⟩;exact⟨_,by simp[Builtin.max_,Builtin.max2],.int _ _⟩
def mm3:Af->Af->Af->Ω Af
 |.int k a,.int _ b,.int _ c=>D (.int k (if c<(if b<a then b else a)then c else(if b<a then b else a)))
 |_,_,_=>ε
def AHJ{P:Program}{w:World}{ts:Array TypeId}{ty:TypeId}{u:Af}{e}(f:B3 i d c)(j:B3 i x I)(k:B3 i T e)(a:mm3 d x T=D u):
  ∃b,(Builtin.min_ ts ty #[c,I,e]).run P w=.ok b w/\B3 i u b:=by
 unfold mm3 at a;split at a;cases f;cases j;cases k;simp at a;subst a;exact⟨_,by simp[Builtin.min_,Builtin.min2],.int _ _⟩;cases a
def u6:Af->Ω z
 |.int _ i=>if 0<=i then D i.toNat else ε
 |_=>ε
def XZ(d:z):Ω Af->Ω z
 |none=>D d
 |some v=>u6 v
def jC(P:u)(H:Ay)(t:TypeId)(v:Af)(lo hi mx:Ω Af):Ω Af:=
 match v with
 |.str s=>
  match XZ 0 lo,XZ (θ s) hi,mx with
  |some l,D h,ε=>if kd P t=.str/\l<=h/\h<=θ s then D (.str ((s.drop l).take (h-l)))else ε
  |_,_,_=>ε
 |.vs sz rows=>
  match XZ 0 lo,XZ (θ rows) hi,XZ (θ rows) mx,eI P t with
  |some l,D h,D m,D (ε,_,sz')=>if sz=sz'/\l<=h/\h<=m/\m<=θ rows/\(mx.isSome=A->hi.isSome=A)then D (.vs sz ((rows.drop l).take (h-l)))else ε
  |_,_,_,_=>ε
 |.sl id g sz off len=>
  match XZ 0 lo,XZ len hi,XZ len mx,eI P t with
  |some l,D h,D m,D (ε,_,sz')=>
   if sz=sz'/\0<sz/\l<=h/\h<=m/\m<=len/\UD H id g=A/\(mx.isSome=A->hi.isSome=A)then
    if l=0 then D (.sl id g sz off h)else if l=h then D (.vs sz [])else D (.sl id g sz (off+l*sz) (h-l))
   else ε
  |_,_,_,_=>ε
 |.nils=>
  match XZ 0 lo,XZ 0 hi,XZ 0 mx,eI P t with
  |some 0,D 0,D 0,D (ε,_,_)=>if mx.isSome=A->hi.isSome=A then D .nils else ε
  |_,_,_,_=>ε
 |_=>ε
theorem ADN(r:B3 i d c)(h:u6 d=D N):∃k x,c=.int k x/\0<=x/\x.toNat=N:=by
 cases d<;>try (simp[u6]at h;done)
 cases r;grind[u6]
def run_sliceBound{P:u}{w:World}{code}(r:B3 i d c)(h:u6 d=D N)(b:N<=t):(Instr.sliceBound c t code).run P w=.ok N w:=by
 obtain⟨k,x,rfl,a,rfl⟩:=ADN r h;have:x<=t:=o!
 simp[Instr.sliceBound,asIntOf,a,this]
def ZW{P:Program}{w:World}{isSlice:Bool}{len cap l h m:Nat}{k j mx:Ω Af}{e b cmx:Ω Value}(x:∀v,k=D v→ ∃c,e=D c∧B3 i v c)(g:k=ε→e=ε)
  (o:∀v,j=D v->∃c,b=D c/\B3 i v c) (t:j=ε->b=ε) (z:∀v,mx=D v->∃c,cmx=D c/\B3 i v c) (u:mx=ε->cmx=ε)
  (a:XZ 0 k=D l) (q:XZ len j=D h) (D_:XZ len mx=D m) (s:l<=h) (E:h<=m) (J:m<=len) (K:len<=cap) (F:mx.isSome=A->j.isSome=A):
  (Instr.sliceBounds isSlice len cap e b cmx).run P w=.ok (l,h,if mx.isSome then m else cap) w:=by
 unfold Instr.sliceBounds;cases mx with
 |none=>
  obtain rfl:=u rfl;cases j with
  |none=>
   obtain rfl:=t rfl;simp only[XZ,Av]at q;subst q;cases k with
   |none=>obtain rfl:=g rfl;simp only[XZ,Av]at a;simp[a]
   |some v=>obtain⟨d,rfl,r⟩:=x v rfl;have n:=λc=>run_sliceBound (P:=P) (w:=w) (code:=c) r a s;simp[n]
  |some A_=>
   obtain⟨B,rfl,y⟩:=o A_ rfl;have p:=λc=>run_sliceBound (P:=P) (w:=w) (code:=c) y q (show h<=cap by omega);cases k with
   |none=>obtain rfl:=g rfl;simp only[XZ,Av]at a;simp[a,p]
   |some v=>obtain⟨d,rfl,r⟩:=x v rfl;have n:=λc=>run_sliceBound (P:=P) (w:=w) (code:=c) r a s;simp[p,n]
 |some H=>
  obtain⟨I,rfl,G⟩:=z H rfl;have f:=F rfl;cases j with
  |none=>simp at f
  |some A_=>
   obtain⟨B,rfl,y⟩:=o A_ rfl;have C:=λc=>run_sliceBound (P:=P) (w:=w) (code:=c) G D_ (show m<=cap by omega);have p:=λc=>run_sliceBound (P:=P) (w:=w) (code:=c) y q E;simp only[Sem.run_bind,C,p,Result.andThen_ok,fk,if_true];cases k with
   |none=>obtain rfl:=g rfl;simp only[XZ,Av]at a;simp[a]
   |some v=>obtain⟨d,rfl,r⟩:=x v rfl;have n:=λc=>run_sliceBound (P:=P) (w:=w) (code:=c) r a s;simp[n]
theorem RV{P}(a:eI P b=D (ε,W,N)):P.underlying b=D (.slice W)/\∃t,tI P W=D (t,N):=by unfold eI at a;split at a;simp_all;rename_i c d;cases f:tI P c<;>grind;cases a
theorem ADk{lo V q:Ω Af}{N L A_:Ω Value}(s:I6 e h H w)(r:B3 (cx e h H w) d c)
  (K:∀d,lo=D d->∃c,N=D c/\B3 (cx e h H w) d c) (G:lo=ε->N=ε)
  (J:∀d,V=D d->∃c,L=D c/\B3 (cx e h H w) d c) (F:V=ε->L=ε) (R:∀d,q=D d->∃c,A_=D c/\B3 (cx e h H w) d c) (I:q=ε->A_=ε)
  (X:jC P H b d lo V q=D x):∃c',(Instr.sliceAt b c N L A_).run P w=.ok c' w/\B3 (cx e h H w) x c':=by
 unfold jC at X;split at X;rename_i s';split at X;rename_i l p S O;split at X;rename_i o;obtain⟨hk,h1,U⟩:=o;simp only[Av]at X;subst X;obtain rfl:=I rfl;cases r with
 |str t' ht=>
  have t:θ s'=t'.size:=by rw[<-ht];simp
  rw[t]at O U;have o:=ZW (P:=P) (w:=w) (isSlice:=η) (len:=t'.size) (cap:=t'.size) (mx:=ε) (cmx:=ε) K G J F (λ_ h=>by cases h) (λ_=>rfl) S O rfl h1 U (Ao _) (Ao _) (λh=>by cases h);refine⟨.string (t'.extract l p),?_,.str _ ?_⟩;simp only[Instr.sliceAt,Instr.slice,Sem.run_bind,run_underlying (uk hk),Result.andThen_ok,Option.isSome_none,Qd,if_false,o,Sem.run_pure];simp_all[wB]
 cases X;cases X;rename_i sz k;split at X;rename_i l p m u a1 S O Z he;split at X;rename_i o;obtain⟨rfl,h1,U,h3,h4⟩:=o;simp only[Av]at X;subst X;obtain⟨z,v,y⟩:=RV he;cases r with
 | @vs sz k a cap f C Y ao ha X=>
  have o:=ZW (P:=P) (w:=w) (isSlice:=A) (len:=θ k) (cap:=cap) K G J F R I S O Z h1 U h3 C h4;have E:∀{j:Nat}{u:Af},((k.drop l).take (p-l))[j]?=D u->k[l+j]?=D u:=q!
  have t:((k.drop l).take (p-l)).length=p-l:=w!
  refine⟨.slice (if(if q.isSome then m else cap)=l then a else a.map (·.add (l*sz))) (p-l) ((if q.isSome then m else cap)-l),?_,?_⟩;simp only[Instr.sliceAt,Instr.slice,Sem.run_bind,run_underlying z,Result.andThen_ok,o,MC y,Sem.run_pure];have hM:p<=(if q.isSome then m else cap):=by split<;>omega
  generalize (if q.isSome then m else cap)=M at hM;have T:B3 (cx e h H w) (.vs sz ((k.drop l).take (p-l))) (.slice (if M=l then a else a.map (·.add (l*sz))) ((k.drop l).take (p-l)).length (M-l)):=?_;rw[t]at T;exact T;refine .vs (λj i=>f (l+j) i) (by rw[t];omega) Y (λj u hj=>ao _ u (E hj)) (λa4=>?_) λj u i d hj V=>X _ u i d (E hj) V;have a3:l<p:=by rcases A1 l p with h5|h5;exact h5;simp_all[Eu]
  obtain⟨B,n,rfl,hO,hB,hc⟩:=ha (by intro u;rw[u]at h3;simp at h3;omega);refine⟨B,n+l*sz,?_,hO,hB,λj u i d hj V=>?_⟩;grind[Pf];have:=hc _ u i d (E hj) V;rw[Ec]at this;rw[show n+l*sz+(j*sz+i)=n+(l*sz+j*sz+i)from by omega];exact this
 cases X;cases X;rename_i id g sz n len;split at X;rename_i l p m u a1 S O Z he;split at X;rename_i o;obtain⟨rfl,Y,h1,U,h3,ad,h4⟩:=o;obtain⟨z,v,y⟩:=RV he;cases r with
 | @sl id g sz n len c W hg a2 hc=>
  rcases hc (s.cur ad)with⟨Q,rfl,rfl,rfl⟩|⟨B,cap,Q,C,D_,rfl⟩;have o:=ZW (P:=P) (w:=w) (isSlice:=A) (len:=0) (cap:=0) K G J F R I S O Z h1 U h3 (Ao _) h4;have ax:l=0:=o!
  have ar:p=0:=o!
  have a0:m=0:=o!
  subst ax ar a0;simp only[if_true,Av]at X;subst X;refine⟨.slice ε 0 0,?_,.sl W hg ⟨_,_,rfl⟩ λ_=>.inl ⟨Q,rfl,rfl,rfl⟩⟩;simp only[Instr.sliceAt,Instr.slice,Sem.run_bind,run_underlying z,Result.andThen_ok,o,MC y,Sem.run_pure];cases q<;>simp;have o:=ZW (P:=P) (w:=w) (isSlice:=A) (len:=len) (cap:=cap) K G J F R I S O Z h1 U h3 C h4
  have ap:(Instr.sliceAt b (.slice (D ⟨B,n,ε⟩) len cap) N L A_).run P w=
    .ok (.slice (if(if q.isSome then m else cap)=l then D ⟨B,n,ε⟩else(D ⟨B,n,ε⟩:Ω Addr).map (·.add (l*sz))) (p-l) ((if q.isSome then m else cap)-l)) w:=by
   simp only[Instr.sliceAt,Instr.slice,Sem.run_bind,run_underlying z,Result.andThen_ok,o,MC y,Sem.run_pure]
  refine⟨_,ap,?_⟩;have hM:p<=(if q.isSome then m else cap)/\(if q.isSome then m else cap)<=cap:=by split<;>omega
  generalize (if q.isSome then m else cap)=M at hM;split at X;rename_i hl;subst hl;simp only[Av]at X;subst X;refine .sl W hg ⟨_,_,rfl⟩ λ_=>.inr ⟨B,M,Q,hM.1,?_,?_⟩;exact C5 (Nat.add_le_add_left (Lj _ hM.2) _) D_;simp[Pf];rename_i hl;split at X;rename_i al;subst al;simp only[Av]at X;subst X;rw[HG];exact B3.vs (rows:=[]) (λ_ _=>undef) (BS _) Y (λ_ _ h=>by simp at h) (λh=>(h rfl).elim) λ_ _ _ _ h=>by simp at h
  rename_i al;simp only[Av]at X;subst X;refine .sl W hg ⟨_,_,rfl⟩ λ_=>.inr ⟨B,M-l,Q,o!,?_,?_⟩;rw[fh,<-Ec];have:l+(M-l)=M:=o!
  rw[this];exact C5 (Nat.add_le_add_left (Lj _ hM.2) _) D_;rw[D! o!];simp[Pf]
 cases X;cases X;split at X;rename_i u sz S O Z he;split at X;rename_i h4;simp only[Av]at X;subst X;obtain⟨z,v,y⟩:=RV he;cases r;have o:=ZW (P:=P) (w:=w) (isSlice:=A) (len:=0) (cap:=0) K G J F R I S O Z (Ao _) (Ao _) (Ao _) (Ao _) h4;refine⟨.slice ε 0 0,?_,.nils⟩;simp only[Instr.sliceAt,Instr.slice,Sem.run_bind,run_underlying z,Result.andThen_ok,o,MC y,Sem.run_pure];cases q<;>simp;cases X;cases X;cases X
def Af.solid:Af->Bool
 |.any=>η
 |.tup _=>η
 |_=>A
def cells_one(h:c.oneCell'=A):c.cells= #[c]:=by cases c<;>first|rfl|(simp[Value.oneCell']at h;done)
theorem XT(r:B3 i d c)(h:d.solid=A):B3 i (.agg d.cells) (.agg c.cells):=by
 have one:∀{u}{x},B3 i u x->x.oneCell'=A->x.cells= #[x]->u.cells=[u]->B3 i (.agg u.cells) (.agg x.cells):=by intro u x A_ g q z;rw[q,z];refine .agg rfl (λj c s=>?_) λj d c s l=>?_;grind;grind
 cases r with
 |agg o g p=>exact .agg o g p
 |any c=>simp[Af.solid]at h
 |tup o p=>simp[Af.solid]at h
 |ptr v m g l=>exact one (.ptr v m g l) g (cells_one g) rfl
 |sl v m g l=>obtain⟨a,cap,rfl⟩:=g;exact one (.sl v m ⟨a,cap,rfl⟩ l) rfl (cells_one rfl) rfl
 |bool b=>exact one (.bool b) rfl rfl rfl
 |int k n=>exact one (.int k n) rfl rfl rfl
 |str t y=>exact one (.str t y) rfl rfl rfl
 |nilp=>exact one .nilp rfl rfl rfl
 |vptr f a b c x=>exact one (.vptr f a b c x) rfl rfl rfl
 |nils=>exact one .nils rfl rfl rfl
 |vs f a b c x e=>exact one (.vs f a b c x e) rfl rfl rfl
 |fn a b c x=>exact one (.fn a b c x) rfl rfl rfl
 |yf v g l=>exact one (.yf v g l) g (cells_one g) rfl
 |mp v g l=>exact one (.mp v g l) g (cells_one g) rfl
 |itp v w g l=>exact one (.itp v w g l) g (cells_one g) rfl
 |nilf=>exact one .nilf rfl rfl rfl
def XS(cs:Ψ Af)(off:z)(vs:Ψ Af):Ψ Af:=cs.take off++vs++cs.drop (off+θ vs)
theorem lL(h:N+θ v<=θ f):(XS f N v).length=θ f:=by grind[XS]
theorem vN(h:N+θ v<=θ f)(j:z):(XS f N v)[j]?=if N<=j/\j<N+θ v then v[j-N]? else f[j]? :=by grind[XS,List.getElem?_append_left]
inductive aY where
 |arr (sz:Nat)
 |str (l:List (Nat×Nat))
def aY.at_:aY->z->Ω (z×z)
 |.arr sz,i=>D (i*sz,sz)
 |.str l,i=>l[i]?
def Za(P:u)(t:TypeId):Ω (Ψ Af):=
 match (P.info? t).bind (·.zero)with
 |some z=>if z.cells.toList.all (·.oneCell')then D (z.cells.toList.map rZ)else ε
 |none=>ε
def placesOf(P:u)(t:TypeId):Ω aY:=
 match P.underlying t with
 |some (.struct fs)=>(fs.toList.mapM λf=>(P.info? f.type).map λi=>(f.offset,i.size)).map aY.str
 |some (.array _ e)=>(P.info? e).map λi=>aY.arr i.size
 |_=>ε
def rl(p:aY):Ψ Af->Ψ (z×Af)->Ω (Ψ Af)
 |cs,[]=>D cs
 |cs,(i,v)::r=>
  match p.at_ i with
  |some (off,size)=>if v.solid=A/\θ v.cells=size/\off+size<=θ cs then rl p (XS cs off v.cells) r else ε
  |none=>ε
def ti(P:u)(t:TypeId)(parts:Ψ (Nat×Af)):Ω Af:=
 match Za P t,placesOf P t with
 |some z,D p=>(rl p z parts).map Af.agg
 |_,_=>ε
theorem fT(x:Cx)(h:Za P b=D f):∃i v,P.info? b=D i/\i.zero=D v/\B3 x (.agg f) (.agg v.cells):=by
 unfold Za at h;cases d:P.info? b with
 |none=>grind
 |some i=>
  cases z:i.zero with
  |none=>grind
  |some v=>rw[d]at h;simp only[AD,z]at h;split at h;rename_i a;simp at h;subst h;refine⟨i,v,rfl,z,.agg k! (λj c e=>?_) λj u c e t=>?_⟩;grind;grind[qP];cases h
theorem foldl_set(a:z):∀(l:Ψ Value)(k:z)(b:Array Value),a+k+θ l≤b.size→
  ((l.zipIdx k).foldl (λb (p:Value×z)=>b.setIfInBounds (a+p.2) p.1) b).size=b.size/\∀j,((l.zipIdx k).foldl (λb (p:Value×z)=>b.setIfInBounds (a+p.2) p.1) b)[j]?=if a+k<=j/\j<a+k+θ l then l[j-(a+k)]? else b[j]?
 |[],k,b,_=>by simp;intro j c d;omega
 |v::l,k,b,h=>by simp at h⊢;obtain⟨c,d⟩:=foldl_set a l (k+1) (b.setIfInBounds (a+k) v) w!;grind
theorem AFv{d:Array Value}{off:z}(r:B3 i (.agg f) (.agg k))(p:B3 i (.agg v) (.agg d))(h:off+θ v≤θ f)(a:Array Value)
  (e:a.size=k.size) (b:∀j,a[j]?=if off<=j/\j<off+d.size then d[j-off]? else k[j]?):B3 i (.agg (XS f off v)) (.agg a):=by
 cases r with
 |agg m q t=>
  cases p with
  |agg n g o=>refine .agg (by rw[e,m,lL h]) (λj c l=>?_) λj x c l s=>?_;grind;grind[vN]
theorem wT{x}(p:aY):∀(b:Ψ (Nat×Af))(a:Ψ (Nat×Value))f d(n:Ψ Af),a.map (·.1)=b.map (·.1)→
  (∀(j:Nat)(q:Nat×Af)(o:Nat×Value),b[j]?=D q->a[j]?=D o->B3 x q.2 o.2)->B3 x (.agg f) (.agg d)->rl p f b=D n->
  ∃l,Instr.fill p.at_ d a=D l/\B3 x (.agg n) (.agg l)
 |[],a,f,d,n,m,_,r,h=>by
  have:a=[]:=t!
  subst this;simp only[rl,Av]at h;subst h;exact⟨d,rfl,r⟩
 |(i,v)::b,(i',c)::a,f,d,n,m,hr,r,h=>by
  simp at m;obtain⟨rfl,m⟩:=m;simp only[rl]at h;split at h;rename_i e size E;split at h;rename_i u;obtain⟨g,rfl,s⟩:=u;have t:=XT (hr 0 (i',v) (i',c) rfl rfl) g;have z:c.cells.size=θ v.cells:=by cases t with|agg h _ _=>exact h
  have w:d.size=θ f:=by cases r with|agg h _ _=>exact h
  have k:=foldl_set e c.cells.toList 0 d q!;have B:c.cells.zipIdx.foldl (λf (p:Value×Nat)=>f.setIfInBounds (e+p.2) p.1) d=(c.cells.toList.zipIdx 0).foldl (λf (p:Value×Nat)=>f.setIfInBounds (e+p.2) p.1) d:=by rw[<-Array.foldl_toList,Array.toList_zipIdx]
  have A_:=AFv (off:=e) r t s ((c.cells.toList.zipIdx 0).foldl (λf (p:Value×Nat)=>f.setIfInBounds (e+p.2) p.1) d) k.1 (λj=>q!);obtain⟨l,C,D_⟩:=wT p b a _ _ n m (λj q o F y=>hr (j+1) q o q! q!) A_ h;grind[Instr.fill];cases h;cases h
theorem ACv{u:Ψ (Nat×Af)}{a:Array (Nat×Value)}(E:a.toList.map (·.1)=u.map (·.1))
  (hr:∀(j:Nat)(q:Nat×Af)(A_:Nat×Value),u[j]?=D q->a.toList[j]?=D A_->B3 i q.2 A_.2) (h:ti P b u=D d):∃c,(Instr.build b a).run P w=.ok c w/\B3 i d c:=by
 unfold ti at h;split at h;rename_i z p F t;cases y:rl p z u with
 |none=>grind
 |some H=>
  rw[y]at h;simp at h;subst h;obtain⟨x,v,D_,k,G⟩:=fT i F;obtain⟨m,s,C⟩:=wT p u a.toList z v.cells H E hr G y;refine⟨.agg m,run_build w b a m ?_,C⟩;unfold Program.built;rw[D_];unfold placesOf at t;split at t;rename_i B r;rw[r];cases o:B.toList.mapM (λf=>(P.info? f.type).map λx=>(f.offset,x.size))with
  |none=>grind
  |some l=>simp only[k,o];rw[<-s];congr 1;grind[aY.at_]
  rename_i n e r;rw[r];cases g:P.info? e with
  |none=>grind
  |some I=>rw[g]at t;simp at t;subst t;simp only[k,g];exact s
  cases t
 cases h
def Cp(P:u)(env:Env)(H:Ay):Op->Ω Af
 |.move x|.assign x=>D (BR env x)
 |.pick c a b=>
  match BR env c with
  |.bool t=>D (if t then BR env a else BR env b)
  |_=>ε
 |.load t a=>jL P t H (BR env a)
 |.nilCheck x=>
  match BR env x with
  |.ptr id g off=>if UD H id g then D (.ptr id g off)else ε
  |.vptr cs=>D (.vptr cs)
  |.fn (.func f) a b=>D (.fn (.func f) a b)
  |_=>ε
 |.binOp op t x y _=>yp P op t (BR env x) (BR env y)
 |.unOp op _ x=>unV op (BR env x)
 |.convert s d x=>Xy P H s d (BR env x)
 |.fieldAddr s x f=>Wf P H s f (BR env x)
 |.field s x f=>uO P s f (BR env x)
 |.indexAddr t x i=>Wm P H t (BR env x) (BR env i)
 |.index t x i=>lC P t (BR env x) (BR env i)
 |.slice t x lo hi mx=>jC P H t (BR env x) (lo.map (BR env)) (hi.map (BR env)) (mx.map (BR env))
 |.extract x i=>
  match BR env x with
  |.tup vs=>vs[i]?
  |_=>ε
 |.makeFunc f a b=>D (.fn f (a.toList.map (BR env)) (b.toList.map (BR env)))
 |.build t parts=>ti P t (parts.toList.map λp=>(p.1,BR env p.2))
 |.call {callee:=.builtin .len,args:=⟨[x]⟩,argTypes:=⟨[t]⟩}=>ql P H t (BR env x)
 |.call {callee:=.builtin .max,args:=⟨[x,y]⟩,.. }=>mmV A [BR env x,BR env y]
 |.call {callee:=.builtin .min,args:=⟨[x,y]⟩,.. }=>mmV η [BR env x,BR env y]
 |.call {callee:=.builtin .min,args:=⟨[x,y,z]⟩,.. }=>mm3 (BR env x) (BR env y) (BR env z)
 |_=>ε
def ADa{P}{N}{X:Nat→Prop}{h}{env}{H}{a}{w}{o:Oper}{v:Af}(s:St X h N env H a w)(b:Cp P env H o.op=D v):
  ∃c,(execOp a.eval o).run P w=.ok (.value c) w/\B3 (cx X h H w) v c:=by
 have k:=λx=>Dy s.env x;have d:∀{m:Sem Value},(∃c,m.run P w=.ok c w/\B3 (cx X h H w) v c)->∃c,(do pure (Next.value (<-m)):Sem Next).run P w=.ok (.value c) w/\B3 (cx X h H w) v c:=by rintro m ⟨c,u,hr⟩;exact⟨c,by simp[u],hr⟩
 unfold execOp;cases e:o.op with
 |move x=>rw[e]at b;simp only[Cp,Av]at b;subst b;exact⟨_,rfl,k x⟩
 |assign x=>rw[e]at b;simp only[Cp,Av]at b;subst b;exact⟨_,rfl,k x⟩
 |pick c x y=>rw[e]at b;simp only[Cp]at b;split at b;rename_i t ht;have u:=k c;rw[ht]at u;simp only[Av]at b;subst b;generalize W:a.eval c=cv at u;cases u;simp only[W,asBool];cases t;exact⟨_,k!,k y⟩;exact⟨_,k!,k x⟩;cases b
 |load t x=>rw[e]at b;simp only[Cp]at b;obtain⟨B,ad,D_,E,hl,hr⟩:=zX s.sim (k x) b;exact d ⟨D_,by rw[E];simp[Instr.loadAt,Instr.sureAddr,hl],hr⟩
 |nilCheck x=>
  rw[e]at b;simp only[Cp]at b;have z:=k x;split at b;rename_i id g ad E;rw[E]at z;split at b;rename_i M;simp only[Av]at b;subst b;generalize A_:a.eval x=c at z;cases z with
  |ptr Y S n u=>obtain⟨B,al,rfl⟩:=u (s.sim.cur M);exact⟨_,by simp only[A_];rfl,.ptr Y S n u⟩
  cases b;rename_i cs E;rw[E]at z;simp only[Av]at b;subst b;generalize A_:a.eval x=c at z;cases z with
  |vptr f n r U V=>exact⟨_,by simp only[A_];rfl,.vptr f n r U V⟩
  rename_i f p q E;rw[E]at z;simp only[Av]at b;subst b;generalize A_:a.eval x=c at z;cases z with
  |fn n r U V=>exact⟨_,by simp only[A_];rfl,.fn n r U V⟩
  cases b
 |binOp op t x y yt=>rw[e]at b;simp only[Cp]at b;exact d (AGe w (k x) (k y) b)
 |unOp op t x=>rw[e]at b;simp only[Cp]at b;exact d (AJh w (k x) b)
 |convert p q x=>rw[e]at b;simp only[Cp]at b;exact d (AEf s.sim (k x) b)
 |fieldAddr p x f=>rw[e]at b;simp only[Cp]at b;exact d (vn s.sim (k x) b)
 |field p x f=>rw[e]at b;simp only[Cp]at b;exact d (ADA (k x) b)
 |indexAddr t x i=>rw[e]at b;simp only[Cp]at b;exact d (vr s.sim (k x) (k i) b)
 |index t x i=>rw[e]at b;simp only[Cp]at b;exact d (ADF (k x) (k i) b)
 |slice t x lo hi T=>
  rw[e]at b;simp only[Cp]at b;have G:∀(y:Ω Operand)(v:Af),y.map (BR env)=D v->∃c,y.map a.eval=D c/\B3 (cx X h H w) v c:=by
   intro y v Q;cases y with
   |none=>cases Q
   |some y=>simp only[Bw,Av]at Q;subst Q;exact⟨_,rfl,k y⟩
  have C:∀(y:Ω Operand),y.map (BR env)=ε->y.map a.eval=ε:=by
   intro y Q;cases y with
   |none=>rfl
   |some y=>cases Q
  exact d (ADk s.sim (k x) (G lo) (C lo) (G hi) (C hi) (G T) (C T) b)
 |extract x i=>
  rw[e]at b;simp only[Cp]at b;have z:=k x;split at b;rename_i vs E;rw[E]at z;generalize u:a.eval x=c at z;cases z with
  | @tup vs R hs Z=>
   have ao:i<θ vs:=by rcases A1 i (θ vs)with r|r;exact r;rw[Cz r]at b;cases b
   have S:R[i]?=D (R[i]' o!):=Oe o!;refine d ⟨_,?_,Z i v _ b S⟩;simp only[Instr.extract,u,S];rfl
  cases b
 |makeFunc f p q=>
  rw[e]at b;simp only[Cp,Av]at b;subst b;have L:∀(p:Array Operand)(j:Nat)(v:Af)(c:Value),(p.toList.map (BR env))[j]?=D v->(p.map a.eval)[j]?=D c->B3 (cx X h H w) v c:=by
   intro p j v c J u;rw[CO,Qb]at J;rw[ck]at u;cases O:p[j]? with
   |none=>rw[O]at J;cases J
   |some y=>rw[O]at J u;simp only[Bw,Av]at J u;subst J u;exact k y
  exact d ⟨_,rfl,.fn k! k! (L p) (L q)⟩
 |build t I=>
  rw[e]at b;simp only[Cp]at b;refine d (ACv ?_ ?_ b);simp;intro j q q' K F;rw[CO,Qb]at K;rw[Qb,ck]at F;cases O:I[j]? with
  |none=>rw[O]at K;cases K
  |some y=>rw[O]at K F;simp only[Bw,Av]at K F;subst K F;exact k y.2
 |call c=>
  rw[e]at b;simp only[Cp]at b;split at b<;>rename_i l<;>first
   |(cases b;done)
   |(cases l;done)
   |skip
  injection l with l;subst l;simp only[resolve,invoke,builtin,Sem.run_bind,Sem.run_pure,Result.andThen_ok,RK,Bs,H5];obtain⟨D_,n,r⟩:=AHE (ty:=o.type) s.sim (k _) b;exact⟨D_,by rw[n];rfl,r⟩;injection l with l;subst l;simp only[resolve,invoke,builtin,Sem.run_bind,Sem.run_pure,Result.andThen_ok,RK,Bs,H5];obtain⟨D_,n,r⟩:=AFD (P:=P) (w:=w) (mx:=A) (ts:=_) (ty:=o.type) (k _) (k _) b;exact⟨D_,by simp only[if_true]at n;rw[n];rfl,r⟩;injection l with l;subst l;simp only[resolve,invoke,builtin,Sem.run_bind,Sem.run_pure,Result.andThen_ok,RK,Bs,H5];obtain⟨D_,n,r⟩:=AFD (P:=P) (w:=w) (mx:=η) (ts:=_) (ty:=o.type) (k _) (k _) b;exact⟨D_,by simp only[Qd,if_false]at n;rw[n];rfl,r⟩;injection l with l;subst l;simp only[resolve,invoke,builtin,Sem.run_bind,Sem.run_pure,Result.andThen_ok,RK,Bs,H5];obtain⟨D_,n,r⟩:=AHJ (P:=P) (w:=w) (ts:=_) (ty:=o.type) (k _) (k _) (k _) b;exact⟨D_,by rw[n];rfl,r⟩
 |_=>rw[e]at b;simp[Cp]at b
def D5{P}{N}{H}{v:Af}(b:Cp P g H o.op=D v)(e:K v H):Jy P N o g H K:=by apply DG (by cases f:o.op<;>first|rfl|(rw[f]at b;simp[Cp]at b));intro X h a w s Q;obtain⟨c,d,hr⟩:=ADa s b;unfold Oper.wp;rw[d,Oper.upon_value];exact⟨c,v,h,H,rfl,e,hr,s.sim,HT.refl _ _ _⟩
section
variable {X:Nat->Prop}{h:Gh}{H:Ay}{w:World}
def Gh.at_(h:Gh)(id:z)(io:Ω z)(gen cap:z):Gh:=
 ⟨λi=>if i=id then io else h.io i,λi=>if i=id then gen else h.gen i,λi=>if i=id then cap else h.cap i⟩
def Holds(x:Cx)(cs:Ψ Af)(arr:Array Value)(fz:z×z):Prop:=
 ∃f:z->Value,θ cs<=arr.size/\(∀i,i<arr.size->(τ (fz.1<=i)&&τ (i<fz.2))=η)/\
  ∀(j:z)(v:Af),cs[j]?=D v->arr[j]?=D (f j)/\(f j).oneCell'=A/\B3 x v (f j)
def Qx(r:B3 i (.agg f) (.agg k)):Holds i f k (0,0):=by
 cases r with
 |agg l h c=>
  refine⟨λj=>k.getD j undef,o!,λa _=>k!,λj v x=>?_⟩;have b:j<k.size:=by rcases A1 j (θ f)with g|g;omega;rw[Cz g]at x;cases x
  have d:k[j]?=D (k[j]):=Oe b;have e:k.getD j undef=k[j]:=by simp[b]
  show k[j]?=D (k.getD j undef)/\(k.getD j undef).oneCell'=A/\B3 i v (k.getD j undef);rw[e];exact⟨d,h j _ d,c j v _ x d⟩
def I6.of_ext'(s:I6 X h H w)(V:HT h H w Q S G)
  (key:∀(id:Nat)(e:Fv),S[id]?=D e->e≠.dead->(H[id]?=D e/\Q.gen id=h.gen id/\Q.io id=h.io id/\Q.cap id=h.cap id/\∀B,h.io id=D B->G.heap[B]?=w.heap[B]?)\/((∃g K,e=.live g K/\ABi (cx X Q S G) id g K)\/(∃L,e=.lp L/\xK (cx X Q S G) id L)\/(e.isB=A/\BAt Q G id e)))
  (inj:∀(id x:Nat)(e W:Fv)(B:Nat),S[id]?=D e->S[x]?=D W->e≠.dead->W≠.dead->Q.io id=D B->Q.io x=D B->id=x):I6 X Q S G:=by
 have hl:=V.later X;refine⟨λB l=>⟨DX (s.out B l).1 V.size,λN=>?_⟩,λid g K I=>?_,λid L I=>?_,inj,λid e I l=>?_⟩;rcases V.fresh B N with N|N;exact(s.out B l).2 N;have:=(s.out B l).1;omega;rcases key id _ I k! with⟨c,y,q,M,z⟩|⟨Y,D_,e,hn⟩|⟨L,e,_⟩|⟨e,_⟩;obtain⟨T,J⟩:=s.live id g K c;refine⟨y.trans T,?_⟩;rcases J with⟨hn,rfl⟩|⟨B,C,T',P,f,d,R,A_,U,p,o⟩;exact .inl ⟨q.trans hn,rfl⟩;refine .inr ⟨B,C,T',P,f,q.trans d,(z B d).trans R,A_.trans M.symm,U,p,λj v hj=>?_⟩;obtain⟨p1,p2,p3⟩:=o j v hj;exact⟨p1,p2,p3.later hl⟩;injection e with a b;subst a b;exact hn;cases e;cases e;rcases key id _ I k! with⟨c,y,q,M,z⟩|⟨Y,D_,e,hn⟩|⟨L',e,hn⟩|⟨e,_⟩;obtain⟨T,B,r,d,R,u,E,F,i,h5,h6,Z⟩:=s.lp id L c;exact⟨y.trans T,B,r,q.trans d,(z B d).trans R,u,E,F,i,h5,h6,λt v m=>⟨(Z t v m).1,(Z t v m).2.later hl⟩⟩;cases e;injection e with a;subst a;exact hn;cases e;rcases key id _ I (by rintro rfl;cases l)with⟨c,y,q,M,z⟩|⟨Y,D_,e,hn⟩|⟨L',e,hn⟩|⟨_,hn⟩;cases e with
 |mp k es=>obtain⟨B,O,u,E,F,i⟩:=s.bld id _ c l;exact⟨B,O,q.trans u,y.trans E,(z B u).trans F,i⟩
 |it n seen=>obtain⟨B,u,E,F⟩:=s.bld id _ c l;exact⟨B,q.trans u,y.trans E,by rw[M];exact(z B u).trans F⟩
 |_=>cases l
 subst e;cases l;subst e;cases l;exact hn
def I6.of_ext(s:I6 X h H w)(m:HT h H w Q S G)
  (key:∀(id:z)(e:Fv),S[id]?=D e->e≠.dead->(H[id]?=D e/\Q.gen id=h.gen id/\Q.io id=h.io id/\Q.cap id=h.cap id/\∀B,h.io id=D B->G.heap[B]?=w.heap[B]?)\/((∃g j,e=.live g j/\ABi (cx X Q S G) id g j)\/∃L,e=.lp L/\xK (cx X Q S G) id L))
  (inj:∀(id c:z)(e k:Fv)(B:z),S[id]?=D e->S[c]?=D k->e≠.dead->k≠.dead->Q.io id=D B->Q.io c=D B->id=c):I6 X Q S G:=
 s.of_ext' m (λi e l f=>(key i e l f).imp id λh=>h.imp id .inl) inj
def JZ{e:Fv}(a:(H++[p])[N]?=D e):(N<θ H/\H[N]?=D e)\/(N=θ H/\e=p):=by rcases RP N (θ H)with b|rfl|c;rw[Cb b]at a;exact .inl ⟨b,a⟩;rw[Cu (Ao _),HG]at a;simp at a;exact .inr ⟨rfl,a.symm⟩;rw[Cz w!]at a;cases a
def Jx{e:Fv}(c:N<θ H)(a:(H.set N p)[t]?=D e):(t≠N/\H[t]?=D e)\/(t=N/\e=p):=by by_cases b:t=N;subst b;rw[HU c]at a;simp at a;exact .inr ⟨rfl,a.symm⟩;rw[Dl (b ·.symm)]at a;exact .inl ⟨b,a⟩
def HT.push(o:Obj)(cap:z)(E:Fv):
  HT h H w (h.at_ (θ H) (D w.heap.size) 0 cap) (H++[E]) {w with heap:=w.heap.push o}where
 os:=rfl
 tape:=rfl
 output:=rfl
 size:=k!
 keep B hB _:=by simp[UG,Bq hB]
 n:=k!
 gen id hid:=by simp[Gh.at_,Bq hid]
 same id hid _:=by simp[Gh.at_,Bq hid]
 fresh B ho:=by obtain⟨id,e,b,d,a⟩:=ho;rcases JZ b with⟨c,b⟩|⟨rfl,rfl⟩;exact .inl ⟨id,e,b,d,by simpa[Gh.at_,Bq c]using a⟩;simp[Gh.at_]at a;exact .inr o!
 loops B r hB:=⟨r,by have:=QL hB;simp[UG,Bq this,hB]⟩
def I6.push_any(s:I6 X h H w)(o:Obj)(cap:z)(E:Fv)
  (t:E≠.dead->((∃g l,E=.live g l/\ABi (cx X (h.at_ (θ H) (D w.heap.size) 0 cap) (H++[E]) {w with heap:=w.heap.push o}) (θ H) g l)\/∃L,E=.lp L/\xK (cx X (h.at_ (θ H) (D w.heap.size) 0 cap) (H++[E]) {w with heap:=w.heap.push o}) (θ H) L)):
  I6 X (h.at_ (θ H) (D w.heap.size) 0 cap) (H++[E]) {w with heap:=w.heap.push o}:=by
 refine s.of_ext (HT.push o cap E) (λid e f d=>?_) λid u e v B p q b c i j=>?_;rcases JZ f with⟨a,f⟩|⟨rfl,rfl⟩;refine .inl ⟨f,by simp[Gh.at_,Bq a],by simp[Gh.at_,Bq a],by simp[Gh.at_,Bq a],λB k=>?_⟩;have:=s.io_at f d k;simp[UG,Bq this];exact .inr (t d);rcases JZ p with⟨l1,m⟩|⟨rfl,_⟩<;>rcases JZ q with⟨l2,n⟩|⟨rfl,_⟩;exact s.inj _ _ _ _ B m n b c (by simpa[Gh.at_,Bq l1]using i) (by simpa[Gh.at_,Bq l2]using j);have r:=s.io_at m b (by simpa[Gh.at_,Bq l1]using i);simp[Gh.at_]at j;omega;have r:=s.io_at n c (by simpa[Gh.at_,Bq l2]using j);simp[Gh.at_]at i;omega;rfl
theorem I6.push(s:I6 X h H w)(a:Array Value)(T:TypeId)(c:Nat×Nat)(g:List Af)(i:Holds (cx X h H w) g a c):
  I6 X (h.at_ H.length (some w.heap.size) 0 a.size) (H++[.live 0 g]) {w with heap:=w.heap.push (.cells a T c)}:=by
 refine s.push_any _ _ _ λ_=>.inl ⟨0,g,rfl,?_⟩;obtain⟨f,e,d,b⟩:=i;refine⟨by simp[cx,Gh.at_],.inr ⟨w.heap.size,a,T,c,f,by simp[cx,Gh.at_],by show(w.heap.push (.cells a T c))[w.heap.size]? =_;simp,by simp[cx,Gh.at_],e,d,λj v k=>?_⟩⟩;obtain⟨l,m,n⟩:=b j v k;exact⟨l,m,n.later ((HT.push _ _ _).later X)⟩
theorem I6.upd(s:I6 X h H w){id g g' B:Nat}{K cs':List Af}{arr:Array Value}{T:TypeId}{fz:Nat×Nat}{w':World}(y:H[id]? =some (Fv.live g K))(hg:g≤g')
  (z:g'=g->h.io id=some B/\h.cap id=arr.size) (a:h.io id=some B\/w.heap.size<=B) (hb:w'.heap[B]? =some (.cells arr T fz)) (N: ∀k,k<w.heap.size->k≠B->w'.heap[k]? =w.heap[k]?)
  (R:w'.os=w.os) (C:w'.tape=w.tape) (G:w'.output=w.output) (A_:w.heap.size<=w'.heap.size) (hh:Holds (cx X h H w) cs' arr fz):
  I6 X (h.at_ id (some B) g' arr.size) (H.set id (.live g' cs')) w'/\HT h H w (h.at_ id (some B) g' arr.size) (H.set id (.live g' cs')) w':=by
 have q:id<H.length:=by
  rcases A1 id H.length with o|o
  ·exact o
  ·rw[Cz o]at y;cases y
 have u:h.gen id=g:=(s.live id g K y).1;have S:HT h H w (h.at_ id (some B) g' arr.size) (H.set id (.live g' cs')) w':=by
  refine⟨R,C,G,A_,λk O hn=>?_,by simp,λi n=>?_,λi n e=>?_,λk ho=>?_,λk r hr=>⟨r,?_⟩⟩
  ·refine N k O λe=>?_;subst e;rcases a with a|a
   ·exact hn ⟨id,_,y,by simp,a⟩
   ·omega
  ·by_cases e:i=id
   ·subst e;simp[Gh.at_,u,hg]
   ·simp[Gh.at_,e]
  ·by_cases Z:i=id
   ·subst Z;simp only[Gh.at_,if_true]at e⊢;have:=z (e.trans u);exact⟨this.1.symm,this.2.symm⟩
   ·simp[Gh.at_,Z]
  ·obtain⟨i,d,t,b,o⟩:=ho;rcases Jx q t with⟨n,l⟩|⟨rfl,_⟩
   ·exact .inl ⟨i,d,l,b,by simpa[Gh.at_,n]using o⟩
   ·simp[Gh.at_]at o;subst o;rcases a with a|a
    ·exact .inl ⟨i,_,y,by simp,a⟩
    ·exact .inr a
  ·have Q:=QL hr;refine(N k Q λe=>?_).trans hr;subst e;rcases a with a|a
   ·rcases(s.live id g K y).2 with⟨hn,_⟩|⟨W,Y,T',ad,f',x,D_,_⟩
    ·rw[show(cx X h H w).io id=h.io id from rfl,a]at hn;cases hn
    ·rw[show(cx X h H w).io id=h.io id from rfl,a]at x;injection x with e;subst e;rw[show(cx X h H w).w.heap=w.heap from rfl,hr]at D_;cases D_
   ·omega
 have hl:=S.later X;have c: ∀{i:Nat} {d:Fv},i≠id->H[i]? =some d->d≠ .dead->h.io i=some B->False:=by
  intro i d n t b m;rcases a with a|a
  ·exact n (s.inj i id d _ B t y b (by simp) m a)
  ·have:=s.io_at t b m;omega
 refine⟨s.of_ext S (λi d t b=>?_) (λi i' d L k t o E F I J=>?_),S⟩
 ·rcases Jx q t with⟨n,l⟩|⟨rfl,rfl⟩
  ·refine .inl ⟨l,by simp[Gh.at_,n],by simp[Gh.at_,n],by simp[Gh.at_,n],λW m=>N W (s.io_at l b m) λe=>?_⟩;subst e;exact c n l b m
  ·obtain⟨f,P,M,p⟩:=hh;refine .inr (.inl ⟨g',cs',rfl,by simp[cx,Gh.at_],.inr ⟨B,arr,T,fz,f,by simp[cx,Gh.at_],hb,by simp[cx,Gh.at_],P,M,λj v hj=>?_⟩⟩);obtain⟨p1,p2,p3⟩:=p j v hj;exact⟨p1,p2,p3.later hl⟩
 ·rcases Jx q t with⟨U,d⟩|⟨rfl,_⟩<;>rcases Jx q o with⟨V,L⟩|⟨rfl,_⟩
  ·exact s.inj _ _ _ _ k d L E F (by simpa[Gh.at_,U]using I) (by simpa[Gh.at_,V]using J)
  ·simp[Gh.at_]at J;subst J;exact(c U d E (by simpa[Gh.at_,U]using I)).elim
  ·simp[Gh.at_]at I;subst I;exact(c V L F (by simpa[Gh.at_,V]using J)).elim
  ·rfl
end
def ADC(h:w.heap[N]?=D (.cells k b E))(a:z):w.frozen? ⟨N,a,ε⟩=(τ (E.1<=a)&&τ (a<E.2)):=by unfold World.frozen?;rw[h]
def Vq{P:Program}{B off:Nat}{T:TypeId}{h:Nat×Nat}:∀(g:Ψ Value)(i:Nat)a(w:World),w.heap[B]?=D (.cells a T h)→off+i+θ g≤a.size→
  (∀j,j<a.size->(τ (h.1<=j)&&τ (j<h.2))=η)->(∀v∈g,v.oneCell'=A)->
  ∃d b,(storeCells ⟨B,off,ε⟩ g i).run P w=.ok () d/\d.heap[B]?=D (.cells b T h)/\b.size=a.size/\(∀j,b[j]?=if off+i<=j/\j<off+i+θ g then g[j-(off+i)]? else a[j]?)/\(∀k,k≠B->d.heap[k]?=w.heap[k]?)/\d.os=w.os/\d.tape=w.tape/\d.output=w.output/\d.heap.size=w.heap.size
 |[],i,a,w,hb,_,_,_=>⟨w,a,rfl,hb,rfl,λj=>by rw[D! k!],λ_ _=>rfl,rfl,rfl,rfl,rfl⟩
 |v::g,i,a,w,hb,hle,hfz,h1=>by
  simp only[BW]at hle;have o:w.cell? ⟨B,off+i,ε⟩=D (a[off+i]' o!):=by rw[Qg (w:=w) hb];exact Oe o!
  have p:w.frozen? ⟨B,off+i,ε⟩=η:=by rw[ADC hb];exact hfz _ o!
  have c:(store ⟨B,off+i,ε⟩ v).run P w=.ok () (w.setCell ⟨B,off+i,ε⟩ v):=by rw[run_store P w _ v .plain (h1 v k!),o];simp[p]
  have l:(w.setCell ⟨B,off+i,ε⟩ v).heap[B]?=D (.cells (a.setIfInBounds (off+i) v) T h):=by simp[World.setCell,cP,hb]
  obtain⟨d,b,r,s,t,x,y,z,A_,C,D_⟩:=Vq (P:=P) (off:=off) g (i+1) (a.setIfInBounds (off+i) v) (w.setCell ⟨B,off+i,ε⟩ v) l w!
   (by simpa using hfz) (λu q=>h1 u (CU _ q))
  refine⟨d,b,?_,s,by rw[t];simp,λj=>?_,λk n=>?_,z,A_,C,by rw[D_];simp[World.setCell]⟩;simp only[storeCells,Pf,Sem.run_bind,c,Result.andThen_ok];exact r;rw[x];by_cases m:j=off+i;subst m;rw[D! o!,C! k!,Array.getElem?_setIfInBounds_self_of_lt o!];simp;by_cases f:off+(i+1)<=j/\j<off+(i+1)+θ g;rw[C! f,C! w!,show j-(off+i)=(j-(off+(i+1)))+1 from by omega];rfl;rw[D! f,D! w!,vz (m ·.symm)];rw[y k n];simp[World.setCell,cP,Lk n]
section
variable {P:Program}{N:Nat}{o:Oper}{env:Env}{H:Ay}{K:Af->Ay->Prop}
def Jy.alloc(d:o.op=.alloc b)(g:Za P b=D f)(t:K (.ptr (θ H) 0 0) (H++[.live 0 f])):Jy P N o env H K:=by
 apply DG (by rw[d];rfl);intro X h a w s Q;obtain⟨i,v,e,c,j⟩:=fT (cx X h H w) g;have z:(execOp a.eval o).run P w=.ok (.value (.pointer (D ⟨w.heap.size,0,ε⟩))) {w with heap:=w.heap.push (.cells v.cells b)}:=by unfold execOp;rw[d];simp[Instr.alloc,zeroValue,typeInfo,e,c,newVar,newRow]
 unfold Oper.wp;rw[z,Oper.upon_value];refine⟨_,_,_,_,rfl,t,?_,s.sim.push v.cells b (0,0) f (Qx j),HT.push _ _ _⟩;exact .ptr (by simp[cx]) (by simp[cx,Gh.at_]) rfl λ_=>⟨w.heap.size,by simp[cx,Gh.at_],rfl⟩
def Jy.box(c:o.op=.box b m)(g:BR env m=d)(f:d.solid=A)(e:K (.ptr (θ H) 0 0) (H++[.live 0 d.cells])):Jy P N o env H K:=by
 apply DG (by rw[c];rfl);intro X h a w s Q;have x:=Dy s.env m;rw[g]at x;have i:=XT x f;have t:(execOp a.eval o).run P w=.ok (.value (.pointer (D ⟨w.heap.size,0,ε⟩))) {w with heap:=w.heap.push (.cells (a.eval m).cells b)}:=by unfold execOp;rw[c];simp[Instr.box,newVar,newRow]
 unfold Oper.wp;rw[t,Oper.upon_value];refine⟨_,_,_,_,rfl,e,?_,s.sim.push _ b (0,0) d.cells (Qx i),HT.push _ _ _⟩;exact .ptr (by simp[cx]) (by simp[cx,Gh.at_]) rfl λ_=>⟨w.heap.size,by simp[cx,Gh.at_],rfl⟩
def Jy.store{id g off:Nat}{v:Af}{cs:Ψ Af}{b:Bool}(ho:o.op=.store W m Y)(hx:BR env m=.ptr id g off)(hy:BR env Y=v)(hs:v.solid=A)
  (he:H[id]?=D (Fv.live g cs)) (ht:tI P W=D (b,θ v.cells)) (J:off+θ v.cells<=θ cs) (V:K .any (H.set id (.live g (XS cs off v.cells)))):Jy P N o env H K:=by
 apply DG (by rw[ho];rfl);intro X h a w s Q;have Z:=Dy s.env m;rw[hx]at Z;have t:=Dy s.env Y;rw[hy]at t;have rz:=XT t hs;obtain⟨I,F⟩:=s.sim.live id g cs he;obtain⟨B,i,S⟩:∃B,h.io id=D B/\a.eval m=.pointer (D ⟨B,off,ε⟩):=by
  generalize a.eval m=c at Z;cases Z with
  |ptr al O h1 hc=>obtain⟨B,i,rfl⟩:=hc I;exact⟨B,i,rfl⟩
 rcases F with⟨hn,_⟩|⟨B',D_,T,R,f,z,hb,E,ad,G,y⟩;rw[show(cx X h H w).io id=h.io id from rfl,i]at hn;cases hn;rw[show(cx X h H w).io id=h.io id from rfl,i]at z;injection z with e;subst e;generalize U:a.eval Y=c at t rz;obtain⟨M,A_,x⟩:c.cells.size=θ v.cells/\(∀(j:Nat)(d:Value),c.cells[j]?=D d->d.oneCell'=A)/\(∀(j:Nat)(u:Af)(d:Value),v.cells[j]?=D u->c.cells[j]?=D d->B3 (cx X h H w) u d):=by cases rz with|agg p q r=>exact⟨p,q,r⟩
 obtain⟨w',n,p1,p2,p3,p4,p5,p6,p7,p8,p9⟩:=Vq (P:=P) (off:=off) c.cells.toList 0 D_ w hb w! G (λd hd=>by obtain⟨j,C⟩:=Dk hd;exact A_ j d (by simpa using C));have L:(execOp a.eval o).run P w=.ok .skip w':=by unfold execOp;rw[ho];simp only[S,U,Instr.storeAt,Instr.sureAddr,Sem.run_bind,Sem.run_pure,Result.andThen_ok,storeVar,MC ht];rw[D! (by simp[M])];simp only[Result.andThen_ok,p1]
 have hh:Holds (cx X h H w) (XS cs off v.cells) n R:=by
  refine⟨λj=>if off<=j/\j<off+θ v.cells then c.cells.getD (j-off) undef else f j,by rw[lL J];omega,by rw[p3];exact G,λj u C=>?_⟩;rw[vN J]at C;rw[p4];simp only[No,EA,M,Qb];split at C;rename_i l;rw[C! l,C! l];have hl:j-off<c.cells.size:=o!
  have O:c.cells[j-off]?=D (c.cells[j-off]):=Oe hl;have e:c.cells.getD (j-off) undef=c.cells[j-off]:=by simp[hl]
  rw[e];exact⟨O,A_ _ _ O,x _ u _ C O⟩;rename_i l;rw[D! l,D! l];exact y j u C
 obtain⟨q1,q2⟩:=s.sim.upd (g':=g) (B:=B) (arr:=n) (T:=T) (fz:=R) (w':=w') he (Ao _) (λ_=>⟨i,by rw[p3];exact E.symm⟩) (.inl i) p2 (λk _ V=>p5 k V) p6 p7 p8 (by rw[p9];exact Ao _) hh;unfold Oper.wp;rw[L,Oper.upon_skip];exact⟨_,_,_,_,rfl,V,.any _,q1,q2⟩
end
section
variable {X:Nat->Prop}{h:Gh}{H:Ay}{w w':World}
def HT.grow(b:w'.os=w.os)(f:w'.tape=w.tape)(d:w'.output=w.output)(e:w.heap.size<=w'.heap.size)(c:∀k,k<w.heap.size->w'.heap[k]?=w.heap[k]?):HT h H w h H w':=⟨b,f,d,e,λB a _=>c B a,Ao _,λ_ _=>Ao _,λ_ _ _=>⟨rfl,rfl⟩,λ_ h=>.inl h,λB r a=>⟨r,(c B (QL a)).trans a⟩⟩
def I6.grow(s:I6 X h H w)(c:w'.os=w.os)(i:w'.tape=w.tape)(f:w'.output=w.output)(g:w.heap.size<=w'.heap.size)(e:∀k,k<w.heap.size->w'.heap[k]?=w.heap[k]?):I6 X h H w':=s.of_ext (HT.grow c i f g e) (λ_ _ d b=>.inl ⟨d,rfl,rfl,rfl,λB a=>e B (s.io_at d b a)⟩) s.inj
def HT.virt:HT h H w (h.at_ (θ H) ε 0 0) (H++[.live 0 []]) w where
 os:=rfl
 tape:=rfl
 output:=rfl
 size:=Ao _
 keep B _ _:=rfl
 n:=k!
 gen id hid:=by simp[Gh.at_,Bq hid]
 same id hid _:=by simp[Gh.at_,Bq hid]
 fresh B ho:=by obtain⟨id,e,b,d,a⟩:=ho;rcases JZ b with⟨c,b⟩|⟨rfl,rfl⟩;exact .inl ⟨id,e,b,d,by simpa[Gh.at_,Bq c]using a⟩;simp[Gh.at_]at a
 loops B r hB:=⟨r,hB⟩
theorem I6.virt(s:I6 X h H w):I6 X (h.at_ (θ H) ε 0 0) (H++[.live 0 []]) w:=by refine s.of_ext HT.virt (λid e f m=>?_) λid n e o B j k a b c d=>?_;rcases JZ f with⟨l,f⟩|⟨rfl,rfl⟩;grind[Gh.at_];exact .inr (.inl ⟨0,[],rfl,by simp[cx,Gh.at_],.inl ⟨by simp[cx,Gh.at_],rfl⟩⟩);rcases JZ j with⟨l1,g⟩|⟨rfl,_⟩<;>rcases JZ k with⟨l2,i⟩|⟨rfl,_⟩;exact s.inj _ _ _ _ B g i a b (by simpa[Gh.at_,Bq l1]using c) (by simpa[Gh.at_,Bq l2]using d);simp[Gh.at_]at d;simp[Gh.at_]at c;rfl
def I6.bump(s:I6 X h H w){id g:Nat}{cs}(n:H[id]?=D (Fv.live g cs))(hn:h.io id=ε):
  I6 X (h.at_ id ε (g+1) (h.cap id)) (H.set id (.live (g+1) [])) w/\HT h H w (h.at_ id ε (g+1) (h.cap id)) (H.set id (.live (g+1) [])) w:=by
 have a:id<θ H:=by rcases A1 id (θ H)with b|b;exact b;rw[Cz b]at n;cases n
 have c:h.gen id=g:=(s.live id g cs n).1;have own:∀B,owned (h.at_ id ε (g+1) (h.cap id)) (H.set id (.live (g+1) [])) B->owned h H B:=by rintro B ⟨i,e,j,l,b⟩;rcases Jx a j with⟨f,d⟩|⟨rfl,_⟩;exact⟨i,e,d,l,by simpa[Gh.at_,f]using b⟩;simp[Gh.at_]at b
 have u:HT h H w (h.at_ id ε (g+1) (h.cap id)) (H.set id (.live (g+1) [])) w:=by refine⟨rfl,rfl,rfl,Ao _,λk A_ hn=>rfl,k!,λi f=>?_,λi f e=>?_,λB C=>.inl (own B C),λB r y=>⟨r,y⟩⟩;by_cases e:i=id;subst e;simp[Gh.at_,c];simp[Gh.at_,e];by_cases m:i=id;subst m;simp[Gh.at_,c]at e;simp[Gh.at_,m]
 refine⟨s.of_ext u (λi e j l=>?_) (λi F e m k j b o p q t=>?_),u⟩;rcases Jx a j with⟨f,d⟩|⟨rfl,rfl⟩;exact .inl ⟨d,by simp[Gh.at_,f],by simp[Gh.at_,f],by simp[Gh.at_,f],λB z=>rfl⟩;exact .inr (.inl ⟨g+1,[],rfl,by simp[cx,Gh.at_],.inl ⟨by simp[cx,Gh.at_],rfl⟩⟩);rcases Jx a j with⟨D_,v⟩|⟨rfl,_⟩<;>rcases Jx a b with⟨E,x⟩|⟨rfl,_⟩;exact s.inj _ _ _ _ k v x o p (by simpa[Gh.at_,D_]using q) (by simpa[Gh.at_,E]using t);simp[Gh.at_]at t;simp[Gh.at_]at q;rfl
end
def Ko(H:Ay)(sz:z):Af->Ω (z×Ψ Af)
 |.vs sz' rows=>if sz=sz' then D (θ rows,rows.flatMap Af.cells)else ε
 |.sl id g sz' off len=>
  match H[id]? with
  |some (.live g' cs)=>if g=g'/\sz=sz'/\off+len*sz<=θ cs then D (len,(cs.drop off).take (len*sz))else ε
  |_=>ε
 |.nils=>D (0,[])
 |_=>ε
theorem PW{P:Program}{X:Nat→Prop}{h}{H}{w}{v}{c}{sz m:Nat}{J:Ψ Af}(s:I6 X h H w)(r:B3 (cx X h H w) v c)(N:0<sz)(hr:Ko H sz v=D (m,J)):
  ∃a cap S,c=.slice a m cap/\θ J=m*sz/\nN (cx X h H w) J S/\(∀u∈S,u.oneCell'=A)/\(Builtin.lenOf c).run P w=.ok m w/\(Builtin.firstCells sz m c).run P w=.ok S.toArray w:=by
 cases r with
 |nils=>simp only[Ko,Av,Ep]at hr;obtain⟨rfl,rfl⟩:=hr;exact⟨ε,0,[],rfl,k!,⟨rfl,λ_ _ _ h=>by cases h⟩,(λ_ h=>by cases h),rfl,rfl⟩
 | @vs R b a cap f y Z D_ ha hv=>
  simp only[Ko]at hr;split at hr;rename_i F;subst F;simp only[Av,Ep]at hr;obtain⟨rfl,rfl⟩:=hr;have q:=rG D_;cases b with
  |nil=>refine⟨a,cap,[],rfl,k!,⟨rfl,λ_ _ _ h=>by cases h⟩,(λ_ h=>by cases h),rfl,?_⟩;cases a<;>simp[Builtin.firstCells,loadCells,loadCellsFrom]
  |cons e0 E=>
   obtain⟨B,k,rfl,hO,hB,L⟩:=ha k!;generalize e0::E=b at*;have K:∀j,j<θ b*sz->∃e v,b[j/sz]?=D e/\e.cells[j%sz]?=D v:=by intro j o;have F:j/sz<θ b:=(Nat.div_lt_iff_lt_mul N).2 o;have I:b[j/sz]?=D (b[j/sz]):=Au F;grind[Nat.mod_lt,m?]
   refine⟨_,cap,(List.range (θ b*sz)).map λj=>f (j/sz) (j%sz),rfl,q,⟨by simp[q],λj v d o G=>?_⟩,λu O=>?_,rfl,?_⟩;grind[flat_get,Nat.lt_or_ge,u?,List.getElem?_range,Option.some.injEq];grind;have:=run_loadCells (P:=P) w ⟨B,k,ε⟩ (θ b*sz) (λj=>f (j/sz) (j%sz)) λj o=>by obtain⟨e,v,I,Q⟩:=K j o;rw[Pf];have V:=(L _ e _ v I Q).1;rw[Nat.div_add_mod' j sz]at V;exact V
   grind[Builtin.firstCells]
  cases hr
 | @sl id g R k len c ao hg F L=>
  simp only[Ko]at hr;split at hr;rename_i g' l I;split at hr;rename_i x;obtain⟨rfl,rfl,ap⟩:=x;simp only[Av,Ep]at hr;obtain⟨rfl,rfl⟩:=hr;obtain⟨A_,z⟩:=s.live id g l I;rcases L A_ with⟨n,rfl,rfl,rfl⟩|⟨B,cap,n,y,M,rfl⟩;exact⟨ε,0,[],rfl,k!,⟨k!,λ_ _ _ _ h=>by cases h⟩,(λ_ h=>by cases h),rfl,rfl⟩;rcases z with⟨hn,_⟩|⟨U,ad,T,fz,f,p,hb,W,Y,al,i⟩;rw[hn]at n;cases n;have:U=B:=by rw[n]at p;injection p with e;exact e.symm
  subst this;refine⟨_,cap,(List.range (len*sz)).map λj=>f (k+j),rfl,w!,⟨w!,λj v d o G=>?_⟩,λu O=>?_,rfl,?_⟩;have C:j<len*sz:=by grind[Nat.lt_or_ge,u?]
  rw[cj,C! C,KJ]at o;rw[CO,R1 C]at G;simp only[Bw,Av]at G;subst G;exact(i _ v o).2.2;simp only[BY,Ie]at O;obtain⟨j,o,rfl⟩:=O;have t:l[k+j]?=D (l[k+j]' o!):=Au o!;exact(i _ _ t).2.1;have:=run_loadCells (P:=P) w ⟨U,k,ε⟩ (len*sz) (λj=>f (k+j)) λj o=>by have t:l[k+j]?=D (l[k+j]' o!):=Au o!;rw[Pf,Qg (w:=w) hb];exact(i _ _ t).1
  simpa[Builtin.firstCells]using this;cases hr;cases hr
 |_=>simp only[Ko]at hr;cases hr
theorem AA7(a b:z)(h:b<a):Builtin.nextslicecap a b<=2*a+2048:=by grind[Builtin.nextslicecap,Builtin.growBy]
def Sy(P:u)(e:TypeId):Bool:=
 match P.info? e with
 |some i=>decide (i.bytes<=1048576)&&(match i.zero with|some z=>decide (z.cells.size=i.size)|none=>η)
 |none=>η
section
variable {P:Program}{N:Nat}{o:Oper}{env:Env}{H:Ay}{K:Af->Ay->Prop}
theorem Uv(h:Sy P b=A):∃i z,P.info? b=D i/\i.bytes<=1048576/\i.zero=D z/\z.cells.size=i.size:=by grind[Sy]
theorem mS(h:tI P b=D (s,N))(a:P.info? b=D y):y.size=N:=by unfold tI at h;grind
theorem Jy.buildSlice{t e:TypeId}{len sz:Nat}{f:Array (Nat×Operand)}{W:Ψ Af}(ho:o.op=.buildSlice t len f)(he:eI P t=D (ε,e,sz))(a0:0<sz)(a5:Sy P e=A)
  (C:f.toList.map (·.1)=List.range len) (a7:f.toList.map (BR env ·.2)=W) (O:∀v∈W,v.solid=A/\θ v.cells=sz) (L:len<=4096/\sz<=4096) (hk:K (.vs sz W) H):Jy P N o env H K:=by
 apply DG (by rw[ho];rfl);intro X h a w s Q;obtain⟨a1,b,hi⟩:=RV he;obtain⟨i,z,D_,_,hz,a8⟩:=Uv a5;have A_:=mS hi D_;have V:θ W=len:=by have n:=E! θ C;grind[θ]
 let g:Ψ Value:=f.toList.map λp=>a.eval p.2;have U:θ g=len:=by grind[θ]
 have M:∀(j:Nat)(v:Af)(c:Value),W[j]?=D v->g[j]?=D c->B3 (cx X h H w) (.agg v.cells) (.agg c.cells)/\θ v.cells=sz:=by
  intro j v c G Y;have hm:=O v (BP G);refine⟨?_,hm.2⟩;subst a7;simp only[g,CO]at G Y;cases Z:f.toList[j]? with
  |none=>rw[Z]at G;cases G
  |some p=>rw[Z]at G Y;simp only[Bw,Av]at G Y;subst G Y;exact XT (Dy s.env p.2) hm.1
 have y:∀c∈g,c.cells.size=sz:=by
  intro c Y;obtain⟨j,B⟩:=Dk Y;have E:j<θ W:=by grind[Nat.lt_or_ge,u?]
  obtain⟨n,r⟩:=M j _ c (Au E) B;cases n<;>grind
 have R:(f.map λq=>(q.1,a.eval q.2)).toList=(g.zipIdx 0).map λx=>(x.2,x.1):=by
  apply Jc;intro j;simp only[Array.toList_map,CO,List.getElem?_zipIdx,Dg,g];cases Z:f.toList[j]? with
  |none=>rfl
  |some p=>
   have n:(f.toList.map (·.1))[j]?=D p.1:=by rw[CO,Z];rfl
   rw[C]at n;have E:j<len:=by rcases A1 j len with r|r;exact r;rw[Cz (by simpa using r)]at n;cases n
   rw[R1 E]at n;simp only[Av]at n;simp[n]
 have a4:(g.flatMap λc=>c.cells.toList).length=len*sz:=by
  clear R;have:∀l:Ψ Value,(∀c∈l,c.cells.size=sz)->(l.flatMap λc=>c.cells.toList).length=θ l*sz:=by
   intro l;induction l with
   |nil=>simp
   |cons c l ih=>intro V;simp only[H8,AV,EA,V c k!,ih (λd I=>V d (CU _ I)),BW,Ec];omega
  rw[this g y,U]
 have al:∀(j:Nat)(c:Value)(q:Nat)(d:Value),g[j]?=D c->c.cells[q]?=D d->(g.flatMap λc=>c.cells.toList)[j*sz+q]?=D d:=by
  have:∀(l:Ψ Value),(∀c∈l,c.cells.size=sz)->∀(j:Nat)(c:Value)(q:Nat)(d:Value),l[j]?=D c->c.cells[q]?=D d->(l.flatMap λc=>c.cells.toList)[j*sz+q]?=D d:=by
   intro l;induction l with
   |nil=>intro _ j c q d B;simp at B
   |cons c0 l ih=>
    intro V j c q d B I;simp only[H8];have h0:=V c0 k!;cases j with
    |zero=>simp at B;subst B;rw[Yn,Dg,Cb (by rcases A1 q c0.cells.size with r|r;simpa using r;rw[tf r]at I;cases I)];simpa using I
    |succ j=>rw[Cu (by rw[EA,h0,Ec];omega),EA,h0];rw[show(j+1)*sz+q-sz=j*sz+q from by rw[Ec];omega];exact ih (λd I=>V d (CU _ I)) j c q d (by simpa using B) I
  exact this g y
 have F:∃m:Array Value,(execOp a.eval o).run P w=.ok (.value (.slice (D ⟨w.heap.size,0,ε⟩) len len)) {w with heap:=w.heap.push (.cells m e)}/\m.toList=g.flatMap λc=>c.cells.toList:=by
  unfold execOp;rw[ho];by_cases h0:len=0;subst h0;have:g=[]:=Eu U;refine⟨#[],?_,by rw[this];rfl⟩;have Z:f= #[]:=by have n:=E! θ C;simp at n;exact n
  simp[Instr.buildSlice,run_underlying a1,MC hi,Z,Instr.fill,newRow,show Array.range 0= #[]from rfl];refine⟨(g.flatMap λc=>c.cells.toList).toArray,?_,rfl⟩;have ap:¬len*i.size=0:=by rw[A_];exact Nat.mul_ne_zero h0 o!
  have a6:¬len*i.size>2^24:=by rw[A_];have:=nT L.1 L.2;omega
  have hf:=Go.Great.fill_whole (s:=sz) a0 g ((Array.range (len*i.size)).map (z.cells[· %z.cells.size]!)) y (by simp[U,A_]);have:=run_buildSlice (P:=P) w t e len (f.map λq=>(q.1,a.eval q.2)) _ i z a1 D_ hz a6 ap (by rw[R,A_]at*;exact hf);simp only[Sem.run_bind];rw[show(f.map λx=>match x with|(i,x)=>(i,a.eval x))=(f.map λq=>(q.1,a.eval q.2))from rfl,this];rfl
 obtain⟨m,F,ad⟩:=F;unfold Oper.wp;rw[F,Oper.upon_value];have ax:=s.sim.grow (w':={w with heap:=w.heap.push (.cells m e)}) rfl rfl rfl k! (λk hk=>by simp[UG,Bq hk]);have J:=HT.grow (h:=h) (H:=H) (w:=w) (w':={w with heap:=w.heap.push (.cells m e)}) rfl rfl rfl k! (λk hk=>by simp[UG,Bq hk]);refine⟨_,_,h,H,rfl,hk,?_,ax,J⟩;subst V;refine .vs (λj q=>((g.getD j undef).cells.getD q undef)) (Ao _) a0 (λj v B=>(O v (BP B)).2) (λao=>⟨w.heap.size,0,rfl,?_,by simp[cx],λj v q u B hq=>?_⟩) λj v q u B hq=>?_;rintro(hX|ho);have:=(s.sim.out _ hX).1;omega;obtain⟨id,e1,n,ao,r⟩:=ho;have:=s.sim.io_at n ao r;omega;all_goals
  have E:j<θ g:=by rcases A1 j (θ W)with r|r;omega;rw[Cz r]at B;cases B
  have S:g[j]?=D (g[j]):=Au E;have a3:g.getD j undef=g[j]:=by simp[R0,S]
  obtain⟨r1,r2⟩:=M j v _ B S;rw[a3];cases r1 with
  |agg hs n G=>
   have ar:q<(g[j]).cells.size:=by rcases A1 q (θ v.cells)with r|r;omega;rw[Cz r]at hq;cases hq
   have T:(g[j]).cells[q]?=D ((g[j]).cells[q]):=Oe ar;have a2:(g[j]).cells.getD q undef=(g[j]).cells[q]:=by simp[ar]
   rw[a2];first
    |exact(G q u _ hq T).later (J.later X)
    |(refine⟨?_,n q _ T⟩
      have hb:(w.heap.push (.cells m e))[w.heap.size]?=D (.cells m e (0,0)):=k!
      rw[Dg];show World.cell? {w with heap:=w.heap.push (.cells m e)} _=_;rw[Qg (w:={w with heap:=w.heap.push (.cells m e)}) hb,<-Qb,ad];exact al j _ q _ S T)
end
section
variable {P:Program}
def Zb(z:Array Value)(n:Nat):(Builtin.zeroCells z n).size=n*z.size:=by simp[Builtin.zeroCells]
def nZ{t ty e:TypeId}(g:P.underlying t=D (.slice e))(j:P.info? e=D y){base:Ω Addr}{n cap m:z}{w w':World}
  (d:(Builtin.lenOf c).run P w=.ok m w) (f:(Builtin.firstCells y.size m c).run P w=.ok C.toArray w) (i:n+m<=cap)
  (b:(match base with
   |some a=>storeCells (a.add (n*y.size)) C
   |none=>pure ():Sem Unit).run P w=.ok () w'):
  (Builtin.append_ #[t,t] ty #[.slice base n cap,c]).run P w=.ok (.slice base (n+m) cap) w':=by
 cases base<;>simp only at b<;>simp[Builtin.append_,run_underlying g,sizeOf,typeInfo,j,d,f,i,b];simp at b;exact b
def rQ{t ty e:TypeId}(g:P.underlying t=D (.slice e))(p:P.info? e=D y)(r:y.zero=D c)(l:y.bytes≤1048576){base:Ω Addr}{n cap m:z}{os j:Ψ Value}
  (f:(Builtin.lenOf I).run P w=.ok m w) (q:(Builtin.firstCells y.size n (.slice base n cap)).run P w.drew=.ok os.toArray w.drew) (hn:(Builtin.firstCells y.size m I).run P w.drew=.ok j.toArray w.drew)
  (b:cap<n+m) (h:n+m<=16777216):
  ∃a,n+m<=a/\(Builtin.append_ #[t,t] ty #[.slice base n cap,I]).run P w=.ok (.slice (D ⟨w.heap.size,0,ε⟩) (n+m) a) {w.drew with heap:=w.drew.heap.push (.cells (os.toArray++j.toArray++Builtin.zeroCells c.cells (a-(n+m))) e)}:=by
 have d:¬(Builtin.nextslicecap (n+m) cap*y.bytes>2^48):=by have s:=AA7 (n+m) cap b;have u:Builtin.nextslicecap (n+m) cap*y.bytes<=33556480*1048576:=nT o! l;omega
 refine⟨(Question.appendCap (n+m) cap e).cut (w.tape w.drawn (.appendCap (n+m) cap e)),by simp[Question.cut],?_⟩;have k:IntKind.i64.max=9223372036854775807:=g!
 have i:¬((9223372036854775807:Int)<(n:Int)+(m:Int)/\y.bytes=0):=o!
 have o:(Question.appendCap (n+m) cap e).forced=η:=rfl;simp[Builtin.append_,sizeOf,typeInfo,zeroValue,run_underlying g,p,r,f,d,newRow,k];rw[D! o!,D! i,D! (by rw[o];simp),q];simp only[Result.andThen_ok];rw[hn];simp only[Result.andThen_ok,Result.ok.injEq];refine⟨rfl,?_⟩;rw[<-List.append_toArray,Array.append_assoc];rfl
end
section
variable {P:Program}{N:Nat}{o:Oper}{env:Env}{H:Ay}{K:Af->Ay->Prop}
def Rv{a:Operand→Value}(e:o.op=.call {callee:=.builtin .append,args:= #[m,Y],argTypes:= #[b,b]})
  (h:(Builtin.append_ #[b,b] o.type #[a m,a Y]).run P w=.ok c G):(execOp a o).run P w=.ok (.value c) G:=by
 unfold execOp;rw[e];simp only[resolve,invoke,builtin,Sem.run_bind,Sem.run_pure,Result.andThen_ok,RK,Bs,H5];rw[h];rfl
def I6.drew{X:z->Prop}{h}{H}{w}(s:I6 X h H w):I6 X h H w.drew:=s.grow rfl rfl rfl (Ao _) λ_ _=>rfl
def HT.drew{h}{H}{w}:HT h H w h H w.drew:=HT.grow rfl rfl rfl (Ao _) λ_ _=>rfl
def wa{as bs}{os a}{n:Array Value}(ra:nN i as os)(g:nN i bs a)(k:∀u∈os,u.oneCell'=A)(l:∀u∈a,u.oneCell'=A):
  Holds i (as++bs) (os.toArray++a.toArray++n) (0,0):=by
 refine⟨λj=>(os++a).getD j undef,?_,λx _=>k!,λj v d=>?_⟩;simp[ra.1,g.1];have f:j<(os++a).length:=by rcases A1 j (as++bs).length with b|b;simp[ra.1,g.1]at*;omega;rw[Cz b]at d;cases d
 have c:(os++a)[j]?=D ((os++a)[j]):=Au f;have e:(os++a).getD j undef=(os++a)[j]:=by rw[R0,c];rfl
 show _=D ((os++a).getD j undef)/\((os++a).getD j undef).oneCell'=A/\B3 i v ((os++a).getD j undef);rw[e];refine⟨?_,?_,?_⟩;rw[Yp (by simpa using f),List.append_toArray,lw];exact c;have m:(os++a)[j]∈os++a:=KM f;rcases Ah.1 m with h|h;exact k _ h;exact l _ h;rcases A1 j (θ as)with b|b;rw[Cb b]at d;rw[Cb (by rw[ra.1];exact b)]at c;exact ra.2 j v _ d c;rw[Cu b]at d;rw[Cu (by rw[ra.1];exact b),ra.1]at c;exact g.2 _ v _ d c
theorem Jy.append_nil{D_ T:Operand}{t e:TypeId}{sz m:Nat}{d:Ψ Af}(I:o.op=.call {callee:=.builtin .append,args:= #[D_,T],argTypes:= #[t,t]})(he:eI P t=D (ε,e,sz))(v:0<sz)(J:Sy P e=A)
  (hs:BR env D_=.nils) (M:Ko H sz (BR env T)=D (m,d)) (V:m<=16777216) (U:K (.sl (θ H) 0 sz 0 m) (H++[.live 0 d])):Jy P N o env H K:=by
 apply DG (by rw[I];rfl);intro X h a w s Q;obtain⟨B,b,hi⟩:=RV he;obtain⟨i,z,f,G,hz,O⟩:=Uv J;have j:=mS hi f;have R:=Dy s.env D_;rw[hs]at R;have y:a.eval D_=.slice ε 0 0:=by generalize a.eval D_=c at R;cases R;rfl
 have S:=Dy s.env T;unfold Oper.wp;rcases WU m with W|W;subst W;obtain⟨Z,x,E,F,A_,g,p,l,q⟩:=PW (P:=P) s.sim S v M;have u:d=[]:=Eu o!;subst u;have L:E=[]:=Eu g.1;subst L;have k:=nZ (ty:=o.type) (base:=ε) (n:=0) (cap:=0) (w':=w) B f l (by rw[j];exact q) o! rfl;rw[Rv I (by rw[y];exact k),Oper.upon_value];exact⟨_,_,_,_,rfl,U,.sl (by simp[cx]) q! ⟨_,_,rfl⟩ λ_=>.inl ⟨by simp[cx,Gh.at_],rfl,rfl,rfl⟩,s.sim.virt,HT.virt⟩;have Y:=s.sim.drew;obtain⟨Z,x,E,F,A_,g,p,l,q⟩:=PW (P:=P) Y (S.later (HT.drew.later X)) v M;obtain⟨_,_,_,_,_,_,_,r,_⟩:=PW (P:=P) s.sim S v M;obtain⟨C,hC,k⟩:=rQ (ty:=o.type) (base:=ε) (n:=0) (cap:=0) (os:=[]) B f hz G r (by rfl) (by rw[j];exact q) o! o!;rw[Rv I (by rw[y];exact k),Oper.upon_value];have hh:Holds (cx X h H w.drew) d (#[]++E.toArray++Builtin.zeroCells z.cells (C-(0+m))) (0,0):=wa (as:=[]) (os:=[]) ⟨rfl,λ_ _ _ h=>by cases h⟩ g (λ_ h=>by cases h) p;refine⟨_,_,_,_,rfl,U,?_,Y.push _ e (0,0) d hh,HT.drew.trans (HT.push _ _ _)⟩;rw[Dg];refine .sl (by simp[cx]) q! ⟨_,_,rfl⟩ λ_=>.inr ⟨w.heap.size,C,by simp[cx,Gh.at_],o!,?_,rfl⟩;have e1:θ E=m*sz:=by rw[g.1,A_]
 simp only[cx,Gh.at_,if_true,Array.size_append,fa,Zb,O,j,e1];have:(C-(0+m))*sz+m*sz=C*sz:=by rw[<-Ec];congr 1;omega
 grind
end
section
variable {X:Nat->Prop}{h:Gh}{H:Ay}{w:World}{N:Nat}{env env2:Env}
def Fp.trans{l m n}{i j k}(a:Fp N t l i m j)(b:Fp N t m j n k):Fp N t l i n k:=⟨b.1,λX h d w s=>by obtain⟨o,u,e,r⟩:=a.2 X h d w s;obtain⟨p,v,f,g⟩:=b.2 X o d w u;exact⟨p,v,λid c=>⟨(f id c).1.trans (e id c).1,(f id c).2.1.trans (e id c).2.1,(f id c).2.2.trans (e id c).2.2⟩,λB q=>r B (g B q)⟩⟩
def Fp.of_le{n0 j:z}{i}(a:Fp N j g H i S)(h:n0<=j):Fp N n0 g H i S:=⟨C5 h a.1,λX f b w s=>by obtain⟨l,n,k,m⟩:=a.2 X f b w s;exact⟨l,n,λid c=>k id (DX c h),m⟩⟩
def Fp.virt{t sz:z}(n:env.get t=.nils):Fp N (θ H) env H (env.put t (.sl (θ H) 0 sz 0 0)) (H++[.live 0 []]):=by
 refine⟨k!,λX g d w s=>⟨g.at_ (θ H) ε 0 0,⟨s.sim.virt,?_,s.size⟩,λid f=>by simp[Gh.at_,Bq f],λB l=>?_⟩⟩;have r:(t,Af.nils)∈env:=by rcases Oh (env:=env) (t:=t)with e|m;rw[n]at e;cases e;rw[n]at m;exact m
 have x:=HT.virt (h:=g) (H:=H) (w:=w);have a:=s.env.later (x.later X);intro u v m;unfold Env.put at m;rcases As.1 m with e|m;injection e with o p;subst o p;obtain⟨q,k⟩:=s.env _ _ r;refine⟨q,?_⟩;generalize d.tmps.getD u undef=c at k;cases k;exact .sl (by simp[cx]) (by simp[cx,Gh.at_]) ⟨_,_,rfl⟩ λ_=>.inl ⟨by simp[cx,Gh.at_],rfl,rfl,rfl⟩;exact a u v (BG.1 m).1;rcases(HT.virt (h:=g) (H:=H) (w:=w)).fresh B l with h|h;exact h;obtain⟨id,e,a,j,b⟩:=l;rcases JZ a with⟨i,a⟩|⟨rfl,rfl⟩;exact⟨id,e,a,j,by simpa[Gh.at_,Bq i]using b⟩;simp[Gh.at_]at b
end
def ABn(sz:z)(cs:Ψ Af)(rows:Ψ Af):Prop:=0<sz/\(∀e∈rows,θ e.cells=sz)/\rows.flatMap Af.cells=cs
theorem pD{sz:z}:∀{a:Ψ Af},(∀e∈a,θ e.cells=sz)->∀(j:z)(e:Af)(i:z)(v:Af),a[j]?=D e->e.cells[i]?=D v->(a.flatMap Af.cells)[j*sz+i]?=D v
 |e0::r,h,j,e,i,v,hj,hi=>by
  have b:=h e0 k!;simp;cases j with
  |zero=>grind
  |succ j=>rw[Cu q!,b,show(j+1)*sz+i-sz=j*sz+i from by grind];exact pD (λe c=>h e (CU _ c)) j e i v q! hi
def B3.froze{id g sz n:Nat}(s:I6 e h H w)(P:H[id]?=D (Fv.live g f))(hr:ABn sz f v)(hn:θ v=n)
  (R:(cx e h H w).Later i) (I:i.w=w) (M:∀B,h.io id=D B->¬i.O B) (r:B3 (cx e h H w) (.sl id g sz 0 n) c):B3 i (.vs sz v) c:=by
 obtain⟨x,k,rfl⟩:=hr;obtain⟨t,o⟩:=s.live id g _ P;cases r with
 |sl p q Y N=>
  rcases N t with⟨d,U,_,rfl⟩|⟨B,cap,d,m,C,rfl⟩;have:v=[]:=Eu o!;subst this;exact B3.vs (rows:=[]) (cap:=0) (λ_ _=>undef) (Ao _) x (λ_ _ h=>by simp at h) (λh=>(h rfl).elim) λ_ _ _ _ h=>by simp at h
  rcases o with⟨E,_⟩|⟨z,J,T,W,a,l,G,A_,S,Q,b⟩;rw[E]at d;cases d;have:z=B:=by rw[d]at l;injection l with y;exact y.symm
  subst this;subst hn;refine .vs (λj X=>a (j*sz+X)) m x (λj y u=>k y (BP u)) (λV=>⟨z,0,rfl,M z d,?_,λj y X F u D_=>?_⟩) λj y X F u D_=>?_;rw[I];exact QL G;obtain⟨K,L,_⟩:=b _ F (pD k j y X F u D_);rw[Dg,I,Qg (w:=w) G];exact⟨K,L⟩;exact(b _ F (pD k j y X F u D_)).2.2.later R
section
variable {X:Nat->Prop}{h:Gh}{H:Ay}{w:World}
theorem fP(b:(H.take N)[t]?=D p):t<N/\H[t]?=D p:=q!
def iv{n0 B}(d:owned h (H.take n0) B):owned h H B:=by obtain⟨id,e,c,b,a⟩:=d;exact⟨id,e,(fP c).2,b,a⟩
def B3.trunc(hn:N<=θ H)(r:B3 (cx X h H w) d c)(a:(d.idsAll λid=>decide (id<N))=A):B3 (cx X h (H.take N) w) d c:=by have:=B3.ren (x:=cx X h H w) (y:=cx X h (H.take N) w) (ρ:=λi=>i) (p:=λid=>decide (id<N)) (λi e _=>⟨by simp[cx]at*;omega,rfl,rfl,rfl⟩) rfl (λB b=>by rcases b with b|b;exact .inl b;exact .inr (iv b)) r a;rwa[ABP (p:=λid=>decide (id<N)) (λ_ _=>rfl) d a]at this
theorem I6.trunc(s:I6 X h H w)(hn:N<=θ H)(E:∀e∈H.take N,(e.idsAll λid=>decide (id<N))=A):I6 X h (H.take N) w:=by refine⟨λB D_=>⟨(s.out B D_).1,λO=>(s.out B D_).2 (iv O)⟩,λid g G c=>?_,λid L c=>?_,λid A_ e I B i k=>s.inj id A_ e I B (fP i).2 (fP k).2,s.bldKeep λid e c _=>⟨(fP c).2,rfl,rfl,rfl,λ_ _ _ _ _=>rfl⟩⟩;obtain⟨x,n⟩:=s.live id g G (fP c).2;refine⟨x,?_⟩;rcases n with⟨z,rfl⟩|⟨B,p,T,J,f,d,a,l,y,u,b⟩;exact .inl ⟨z,rfl⟩;refine .inr ⟨B,p,T,J,f,d,a,l,y,u,λj v F=>?_⟩;obtain⟨i,k,q⟩:=b j v F;exact⟨i,k,q.trunc hn (Nj (by simpa[Fv.idsAll]using E _ (BP c)) F)⟩;obtain⟨x,B,r,d,a,i,k,q,K,M,o,C⟩:=s.lp id L (fP c).2;refine⟨x,B,r,d,a,i,k,q,K,M,o,λt v m=>⟨(C t v m).1,(C t v m).2.trunc hn ?_⟩⟩;have P:=E _ (BP c);grind[Fv.idsAll]
end
def I5:Ψ Oper->Ψ z->Ψ z
 |[],acc=>acc
 |o::r,acc=>I5 r (acc++[o.after.toList.foldl (λs e=>if Region.binds .any e=A then s|||2^e.on|||acc.getD e.on 0 else s) 0])
def QH(m:Ψ z)(i j:z):Bool:=(m.getD j 0).testBit i
def wX{b:Ψ z}{i:z}:∀(l:Ψ Edge)s,(l.foldl (λs e=>if Region.binds .any e=A then s|||2^e.on|||b.getD e.on 0 else s) s).testBit i=A→
  s.testBit i=A\/∃e∈l,Region.binds .any e=A/\(e.on=i\/(b.getD e.on 0).testBit i=A)
 |[],s,h=>.inl h
 |e::l,s,h=>by simp only[YV]at h;rcases wX l _ h with a|⟨f,d,c,g⟩;split at a;rename_i c;simp only[Nat.testBit_or,WX,Nat.testBit_two_pow]at a;rcases a with(a|a)|a;exact .inl a;exact .inr ⟨e,k!,c,.inl (by simpa using a)⟩;exact .inr ⟨e,k!,c,.inr a⟩;exact .inl a;exact .inr ⟨f,CU _ d,c,g⟩
theorem YY:∀l(a:Ψ z),(∀k,k<θ a→(I5 l a)[k]?=a[k]?)∧
  ∀(p i:z)(o:Oper),l[p]?=D o->QH (I5 l a) i (θ a+p)=A->∃e∈o.after.toList,Region.binds .any e=A/\(e.on=i\/(e.on<θ a+p/\QH (I5 l a) i e.on=A))
 |[],a=>⟨λ_ _=>rfl,λp i o h=>by simp at h⟩
 |o::l,a=>by
  simp only[I5];generalize g:o.after.toList.foldl (λs e=>if Region.binds .any e=A then s|||2^e.on|||a.getD e.on 0 else s) 0=x;obtain⟨m,c⟩:=YY l (a++[x]);refine⟨λk r=>?_,λp i j t b=>?_⟩;grind;cases p with
  |zero=>
   have f:(I5 l (a++[x])).getD (θ a) 0=x:=q!
   simp only[QH,No]at b;rw[f,<-g]at b;rcases wX _ _ b with d|⟨e,q,n,d⟩;grind;grind[QH]
  |succ p=>have:=c p i j q! q!;rw[show(a++[x]).length+p=θ a+(p+1)from by simp;omega]at this;exact this
section
variable {ops:Array Oper}
def xI(ops:Array Oper)(L:Array Bool):Prop:=∀(j:z)(o:Oper),ops[j]?=D o->L.getD j η=A->∀e∈o.after,Region.binds .any e=A->L.getD e.on η=A
def fK{L}(k:xI ops L){i}:∀(n j:z)(o:Oper),j<n->ops[j]?=D o->(∀e∈o.after,Region.binds .any e=A->L.getD e.on η=A)->QH (I5 ops.toList []) i j=A->L.getD i η=A
 |0,_,_,h,_,_,_=>o!
 |n+1,j,o,hj,ho,hp,hm=>by
  obtain⟨e,r,q,h⟩:=(YY ops.toList []).2 j i o (by simpa using ho) (by simpa using hm);have a:=hp e (by simpa using r) q;rcases h with rfl|⟨g,c⟩;exact a;have l:e.on<j:=by simpa using g
  cases b:ops[e.on]? with
  |none=>have:QH (I5 ops.toList []) i e.on=A:=c;obtain⟨s,_⟩:=cZ.1 ho;rw[yj]at b;omega
  |some m=>exact fK k n e.on m o! b (λp f d=>k e.on m b a p f d) c
def tmpsOf(o:Oper):Ψ z:=o.op.operands.toList.filterMap λ|.tmp t=>D t|_=>ε
def Z9(P:Program)(N:z)(o:Oper)(env:Env)(H:Ay)(rd:Ψ z)(v:Af):Prop:=
 ∀(env':Env)(H':Ay),(∀t∈tmpsOf o,env'.get t=env.get t)->(∀id∈rd,H'[id]?=H[id]?)->Jy P N o env' H' λu H''=>u=v/\H''=H'
def Eff(P:u)(N:z)(o:Oper)(env:Env)(H:Ay)(F:Ψ z)(K:Af->Ay->Prop):Prop:=
 (∀env':Env,(∀t∈tmpsOf o,env'.get t=env.get t)->Jy P N o env' H K)/\∀v H',K v H'->∀id,id<θ H->id∉F->H'[id]?=H[id]?
def Iy(ops:Array Oper)(j:z):Bool:=
 match ops[j]? with
 |some o=>match o.op with|.alloc _=>A|_=>η
 |none=>η
def RA(P:u)(N:Nat)(ops:Array Oper):Ψ Nat->Ψ (Nat×Ψ Nat)->Env->Ay->(Env->Ay->Prop)->Prop
 |[],_,env,H,Q=>Q env H
 |i::r,pend,env,H,Q=>
  match ops[i]? with
  |none=>False
  |some o=>
   Yd ops o.guard env
    ((Iy ops i=η/\∃v rd,Z9 P N o env H rd v/\(∀id∈rd,id<θ H)/\RA P N ops r ((i,rd)::pend) (env.putO o.dst v) H Q)\/
     (Iy ops i=η/\∃F,(∀j∈r,QH (I5 ops.toList []) i j=A\/Iy ops j=A)/\(∀p∈pend,QH (I5 ops.toList []) p.1 i=A\/∀id∈p.2,id∉F)/\
      ∃K,Eff P N o env H F K/\(∀v H',K v H'->θ H<=θ H')/\∀v H',K v H'->RA P N ops r pend (env.putO o.dst v) H' Q)\/
     ∃t z,o.op=.alloc t/\Za P t=D z/\(∀j∈r,QH (I5 ops.toList []) i j=A\/Iy ops j=A)/\RA P N ops r pend (env.putO o.dst (.ptr (θ H) 0 0)) (H++[.live 0 z]) Q)
    (Iy ops i=η/\RA P N ops r ((i,[])::pend) (env.putO o.dst (.tup [])) H Q)
def Wv(P:u)(ops:Array Oper):Bool:=ops.toList.all λo=>match o.op with|.alloc t=>(Za P t).isSome&&o.guard.isNone|_=>A
def V7(ops:Array Oper)(i:z):Ω z:=(ops[i]?).bind (·.dst)
def ACS(ops:Array Oper)(N:z)(l:Ψ z):Bool:=
 let m:=I5 ops.toList []
 let n:=ops.size
 Pv N ops.toList&&
 (decide l.Nodup&&((List.range n).all λi=>l.contains i)&&l.all (λi=>decide (i<n)))&&
 ((List.range n).all λi=>match ops[i]? with
  |some o=>(o.after.toList.all λe=>!Region.binds .any e||decide (e.on<i))&&
    (match o.guard with|some (j,_)=>QH m j i&&τ (j<n)&&(V7 ops j).isSome|none=>A)&&
    (match o.dst with
     |some d=>(List.range n).all λj=>decide (j=i)||(match ops[j]? with
       |some o'=>! τ (o'.dst=D d)&&(!(tmpsOf o').contains d||QH m i j||QH m j i)
       |none=>A)
     |none=>A)
  |none=>A)&&
 (l.zipIdx.all λ(i,p)=>l.zipIdx.all λ(j,q)=>! τ (p<q)|| !QH m j i)
theorem Gg(env:Env)(t u:z)(v:Af):(env.put t v).get u=if u=t then v else env.get u:=by unfold Env.put;simp only[Env.get];by_cases h:t=u;grind;rw[D! h,D! (h ·.symm)];induction env<;>grind[Env.get]
def KN(env:Env):Prop:=∀t v,(t,v)∈env->env.get t=v
theorem KN.put(h:KN g)(t:z)(v:Af):KN (g.put t v):=by
 intro u x m;rw[Gg];rcases As.1 m with e|m;grind;obtain⟨a,b⟩:=BG.1 m;have:u≠t:=q!
 rw[D! this];exact h u x a
def KN.putO(h:KN g)(t:Ω z)(v:Af):KN (g.putO t v):=by
 cases t with
 |none=>exact h
 |some t=>exact h.put t v
theorem dz:∀{env:Env},(env.map (·.1)).Nodup->KN env
 |[],_=>λ_ _ h=>by cases h
 |(k,w)::r,h=>by
  simp at h;intro t v m;simp only[Env.get];rcases As.1 m with e|m;grind;have:k≠t:=q!
  rw[D! this];exact dz h.2 t v m
end
structure Xu(ops:Array Oper)(N:Nat)(l:List Nat):Prop where
 dsts:Pv N ops.toList=true
 nodup:l.Nodup
 all:∀i,i<ops.size->i∈l
 lt:∀i∈l,i<ops.size
 back:∀(i:Nat)(o:Oper),ops[i]?=some o->∀e∈o.after,Region.binds .any e=true->e.on<i
 guard:∀(i:Nat)(o:Oper)(j:Nat)(b:Bool),ops[i]?=some o->o.guard=some (j,b)->QH (I5 ops.toList []) j i=true/\j<ops.size/\∃d,V7 ops j=some d
 uniq:∀(i j d:Nat),V7 ops i=some d->V7 ops j=some d->i=j
 haz:∀(i j d:Nat)(o:Oper),V7 ops i=some d->ops[j]?=some o->d∈tmpsOf o->i≠j->QH (I5 ops.toList []) i j=true\/QH (I5 ops.toList []) j i=true
 ord:∀(l1 l2:List Nat),l=l1++l2->∀i∈l1,∀j∈l2,QH (I5 ops.toList []) j i=false
theorem Yx(h:V7 q N=D t):∃o,q[N]?=D o/\o.dst=D t:=by grind[V7]
theorem Wl{i:z}(h:q[i]?=D o):i<q.size:=q!
theorem ABO(h:ACS q N l=A):Xu q N l:=by
 unfold ACS at h;simp only[BQ]at h;obtain⟨⟨⟨x,⟨y,M⟩,z⟩,A_⟩,B⟩:=h;have a:∀(i:Nat)(o:Oper),q[i]?=D o->_:=λi o f=>by have:=Ga.1 A_ i (Ie.2 (Wl f));rw[f]at this;simp only[BQ]at this;exact this
 refine⟨x,by simpa using y,λi c=>?_,λi c=>by simpa using List.all_eq_true.1 z i c,λi o f e E C=>?_,λi o j b f F=>?_,λi j d c k=>?_,λi j d o c k n G=>?_,λl1 l2 w i c j k=>?_⟩;simp_all;have:=Ga.1 (a i o f).1.1 e (by simpa using E);simpa[C]using this;have:=(a i o f).1.2;rw[F]at this;simp only[BQ,K!]at this;exact⟨this.1.1,this.1.2,fj.1 this.2⟩;obtain⟨o,f,n⟩:=Yx c;obtain⟨O,m,r⟩:=Yx k;have:=(a i o f).2;rw[n]at this;have:=Ga.1 this j (Ie.2 (Wl m));rw[m]at this;simp only[r,decide_true,CE,Bool.false_and,Bool.or_false,K!]at this;exact this.symm;obtain⟨L,u,s⟩:=Yx c;have:=(a i L u).2;rw[s]at this;have:=Ga.1 this j (Ie.2 (Wl k));rw[k]at this;have D_:(tmpsOf o).contains d=A:=by simpa using n
 simp only[D_,CE,Bool.false_or,WX,K!,BQ]at this;rcases this with h|⟨_,h⟩;omega;exact h;obtain⟨p,H⟩:=Dk c;obtain⟨g,I⟩:=Dk k;have v:p<θ l1:=q!
 have J:(i,p)∈l.zipIdx:=by rw[tY];rw[w,Cb v];exact H
 have K:(j,θ l1+g)∈l.zipIdx:=by rw[tY];rw[w,Cu o!];simpa using I
 have:=Ga.1 (Ga.1 B _ J) _ K;have t:p<θ l1+g:=o!
 simpa[t]using this
section
variable {P:Program}{N:Nat}{ops:Array Oper}{l:Ψ Nat}{Q:Env->Ay->Prop}{env0:Env}{X:Nat->Prop}{h0:Gh}{H0:Ay}{w0:World}{ds0:Ψ Deferred}
def Opd(ops:Array Oper)(env0:Env)(v:z->Af)(i:z)(o:Oper)(ei:Env):Prop:=
 ∀t∈tmpsOf o,(∀k,k≠i->V7 ops k=D t->QH (I5 ops.toList []) k i=A->ei.get t=v k)/\
  ((∀k,k≠i->V7 ops k=D t->QH (I5 ops.toList []) k i=η)->ei.get t=env0.get t)
def U0(v:z->Af)(o:Oper)(r:Bool):Prop:=
 match o.guard with
 |none=>r=A
 |some (j,want)=>(∃b,v j=.bool b/\r=(b==want))\/(v j=.tup []/\r=η)
def XR(X:z->Prop)(early:z->Ω z)(B:z):Prop:=X B\/∃i,early i=D B
structure Inv(P:Program)(N:Nat)(ops:Array Oper)(l:List Nat)(Q:Env→Ay→Prop)(env0:Env)(X:Nat→Prop)(h0:Gh)(H0:Ay)(w0:World)(ds0:List Deferred)
  (l1 l2:List Nat) (v:Nat->Af) (pend:List (Nat×List Nat)) (env:Env) (H:Ay) (h:Gh) (early:Nat->Option Nat) (L:Array Bool) (a:Act) (w:World):Prop where
 split:l=l1++l2
 ra:RA P N ops l2 pend env H Q
 kn:KN env
 keys:∀t u,(t,u)∈env->t<N
 env1:∀k∈l1,∀t,V7 ops k=some t->env.get t=v k
 env2:∀t,(∀k∈l1,V7 ops k≠some t)->env.get t=env0.get t
 sim:I6 (XR X early) h H w
 nodefer:a.defers=ds0
 size:a.tmps.size=N
 slot1:∀k t,L.getD k false=true->early k=none->V7 ops k=some t->B3 (cx (XR X early) h H w) (v k) (a.tmps.getD t undef)
 slot2:∀t,(∀k,L.getD k false=true->V7 ops k≠some t)->B3 (cx (XR X early) h H w) (env0.get t) (a.tmps.getD t undef)
 sub:∀i,L.getD i false=true->early i=none->i∈l1
 lsz:L.size=ops.size
 closed:xI ops L
 pendq:∀i∈l1,L.getD i false=false->∃o,ops[i]?=some o/\Iy ops i=false/\((U0 v o false/\v i=.tup [])\/
  (U0 v o true/\∃rd ei,(i,rd)∈pend/\(∀id∈rd,id<H.length)/\KN ei/\(∀t u,(t,u)∈ei->t<N)/\Opd ops env0 v i o ei/\Z9 P N o ei H rd (v i)))
 ext:HT h0 H0 w0 h H w
 early1:∀i B,early i=some B->i∈l2/\L.getD i false=true/\w0.heap.size<=B/\B<w.heap.size/\∃(o:Oper)(t:TypeId)(z:List Af)(arr:Array Value),ops[i]?=some o/\o.op=.alloc t/\Za P t=some z/\
  w.heap[B]?=some (.cells arr t (0,0))/\B3 (cx (XR X early) h H w) (.agg z) (.agg arr)/\∀d,o.dst=some d->a.tmps.getD d undef=.pointer (some ⟨B,0,none⟩)
 early2:∀i j B,early i=some B->early j=some B->i=j
def look(o:Oper)(ei:Env):Env:=ei.filter λp=>(tmpsOf o).contains p.1
theorem zZ(o:Oper)(a:Env):∀t∈tmpsOf o,(look o a).get t=a.get t:=by unfold look;induction a<;>grind[Env.get]
variable {l1 l2:Ψ Nat}{v:Nat->Af}{pend:Ψ (Nat×Ψ Nat)}{env:Env}{H:Ay}{h:Gh}{early:Nat->Ω Nat}{L:Array Bool}{a:Act}{w:World}
def Inv.opd(ok:Xu ops N l)(I:Inv P N ops l Q env0 X h0 H0 w0 ds0 l1 l2 v pend env H h early L a w){r:Ψ z}(m:l2=t::r)(s:ops[t]?=D o):Opd ops env0 v t o env:=by
 intro i u;have n:t∉l1:=by intro b;have:=ok.nodup;rw[I.split,m]at this;exact(RN.1 this).2.2 t b t k! rfl
 refine⟨λk q c g=>?_,λp=>?_⟩;refine I.env1 k ?_ i c;obtain⟨x,f,_⟩:=Yx c;have b:=ok.all k (Wl f);rw[I.split,Ah]at b;rcases b with b|b;exact b;rw[m]at b;rcases As.1 b with e|b;exact(q e).elim;have:=ok.ord (l1++[t]) r (by rw[I.split,m];simp) t k! k b;rw[g]at this;cases this;refine I.env2 i λk b c=>?_;have d:k≠t:=λe=>n (e▸b);rcases ok.haz k t i o c s u d with j|j;rw[p k d c]at j;cases j;have:=ok.ord l1 l2 I.split k b t (by rw[m];simp);rw[j]at this;cases this
def Inv.look(ok:Xu ops N l)(I:Inv P N ops l Q env0 X h0 H0 w0 ds0 l1 l2 v pend env H h early L a w)(y:ops[t]?=D o)(p:L.getD t η=η)
  (J:∀e∈o.after,Region.binds .any e=A->L.getD e.on η=A) (x:∀k,QH (I5 ops.toList []) k t=A->early k=ε)  (kn:KN g) (G:∀q u,(q,u)∈g->q<N) (n:Opd ops env0 v t o g):PY (cx (XR X early) h H w) (look o g) a:=by
 intro q u m;obtain⟨B,K⟩:=BG.1 m;have z:q∈tmpsOf o:=by simpa using K
 refine⟨by rw[I.size];exact G q u B,?_⟩;rw[<-kn q u B];obtain⟨D_,E⟩:=n q z;by_cases A_:∃k,k≠t/\V7 ops k=D q/\QH (I5 ops.toList []) k t=A;obtain⟨k,b,d,c⟩:=A_;rw[D_ k b d c];exact I.slot1 k q (fK I.closed (t+1) t o o! y J c) (x k c) d;have i:∀k,k≠t->V7 ops k=D q->QH (I5 ops.toList []) k t=η:=by
  intro k b d;cases s:QH (I5 ops.toList []) k t with
  |false=>rfl
  |true=>exact(A_ ⟨k,b,d,s⟩).elim
 rw[E i];refine I.slot2 q λk f d=>?_;by_cases b:k=t;subst b;rw[p]at f;cases f;rcases ok.haz k t q o d y z b with r|r;rw[i k b d]at r;cases r;obtain⟨C,j,_⟩:=Yx d;have:=fK I.closed (k+1) k C o! j (λe F s=>I.closed k C j f e F s) r;rw[p]at this;cases this
theorem Inv.wanted(ok:Xu ops N l)(I:Inv P N ops l Q env0 X h0 H0 w0 ds0 l1 l2 v pend env H h early L a w)(z:ops[t]?=D o)(r:∀k,QH (I5 ops.toList []) k t=A→early k=ε)
  (D_:∀e∈o.after,Region.binds .any e=A->L.getD e.on η=A)  (x:U0 v o s):Region.wanted o (yielded ops a.tmps)=s:=by
 unfold U0 at x;unfold Region.wanted;cases y:o.guard with
 |none=>grind
 |some p=>
  obtain⟨j,n⟩:=p;rw[y]at x;obtain⟨f,G,d,q⟩:=ok.guard t o j n z y;have i:=fK I.closed (t+1) t o o! z D_ f;have hr:=I.slot1 j d i (r j f) q;have B:d<a.tmps.size:=by obtain⟨F,C,A_⟩:=Yx q;have:=Ga.1 ok.dsts F q!;grind[I.size]
  rcases x with⟨b,u,rfl⟩|⟨u,rfl⟩
  case inr=>
   rw[u]at hr;obtain⟨m,g⟩:∃m,a.tmps.getD d undef=.tuple m:=by generalize a.tmps.getD d undef=c at hr;cases hr;grind
   have E:yielded ops a.tmps j=ε:=by unfold yielded;rw[show(ops[j]?).bind (·.dst)=D d from q];simp_all
   grind
  rw[u]at hr;have g:a.tmps.getD d undef=.bool b:=by generalize a.tmps.getD d undef=c at hr;cases hr;rfl
  have E:yielded ops a.tmps j=D b:=by unfold yielded;rw[show(ops[j]?).bind (·.dst)=D d from q];simp_all
  grind
def Inv.noEarly(ok:Xu ops N l)(I:Inv P N ops l Q env0 X h0 H0 w0 ds0 l1 l2 v pend env H h early L a w)(d:t∈l1\/∃r,l2=t::r):∀k,QH (I5 ops.toList []) k t=A->k≠t->early k=ε:=by
 intro k c f;cases g:early k with
 |none=>rfl
 |some B=>have b:=(I.early1 k B g).1;rcases d with d|⟨r,rfl⟩;have:=ok.ord l1 l2 I.split t d k b;rw[c]at this;cases this;rcases As.1 b with e|b;exact(f e).elim;have:=ok.ord (l1++[t]) r (by rw[I.split];simp) t k! k b;rw[c]at this;cases this
theorem Hp{i:z}(a:i<L.size)(j:z):(L.setIfInBounds i A).getD j η=if j=i then A else L.getD j η:=by rw[RR,RR];grind
theorem Td(b:∀t,j=D t->t<a.tmps.size)(t:z):(a.put j c).tmps.getD t undef=if j=D t then c else a.tmps.getD t undef:=by
 cases j with
 |none=>simp[Act.put]
 |some j=>simp only[Act.put];rw[RR,RR];grind
theorem nj(f:xI ops L)(h:N<L.size)(l:ops[N]?=D o)(m:∀e∈o.after,Region.binds .any e=A->L.getD e.on η=A):xI ops (L.setIfInBounds N A):=by intro j k c a e g d;rw[Hp h]at a⊢;by_cases b:j=N;grind;rw[D! b]at a;rw[f j k c a e g d];simp
end
section
variable {P:Program}{N:Nat}{ops:Array Oper}{l:Ψ Nat}{Q:Env->Ay->Prop}{env0:Env}{X:Nat->Prop}{h0:Gh}{H0:Ay}{w0:World}{ds0:Ψ Deferred}
variable {l1 l2:Ψ Nat}{v:Nat->Af}{pend:Ψ (Nat×Ψ Nat)}{env:Env}{H:Ay}{h:Gh}{early:Nat->Ω Nat}{L:Array Bool}{a:Act}{w:World}
theorem qR(ok:Xu ops N l)(a:ops[t]?=D o):∀i,o.dst=D i->i<N:=by have:=Ga.1 ok.dsts o q!;grind
theorem GX(a:ops[N]?=D o):V7 ops N=o.dst:=by grind[V7]
def Inv.done(ok:Xu ops N l)(I:Inv P N ops l Q env0 X h0 H0 w0 ds0 l1 l2 v pend env H h early L a w){i:Nat}(p:ops[i]?=δ o)(r:i∈l1)(ad:L.getD i η=η)
  (hp:∀e∈o.after,Region.binds .any e=ζ->L.getD e.on η=ζ)  {A:Gh}  (sim:I6 (XR X early) A H G) (x:HT h H w A H G) (hv:B3 (cx (XR X early) A H G) (v i) c):
  Inv P N ops l Q env0 X h0 H0 w0 ds0 l1 l2 v pend env H A early (L.setIfInBounds i ζ) (a.put o.dst c) G:=by
 have n:i<L.size:=by rw[I.lsz];exact Wl p
 have F:∀t,o.dst=δ t->t<a.tmps.size:=λt ht=>by rw[I.size];exact qR ok p t ht
 have O:=x.later (XR X early);have s:i∉l2:=by intro hm;have:=ok.nodup;rw[I.split]at this;exact(RN.1 this).2.2 i r i hm rfl
 refine{split:=I.split,ra:=I.ra,kn:=I.kn,keys:=I.keys,env1:=I.env1,env2:=I.env2,sim:=sim,nodefer:=?_,size:=(fM _ _ _).trans I.size,slot1:=λk t m M f=>?_,slot2:=λt y=>?_,sub:=λj C J=>?_,lsz:=by rw[po];exact I.lsz,closed:=nj I.closed n p hp,pendq:=λk K g=>?_,ext:=I.ext.trans x,early1:=λk B m=>?_,early2:=I.early2};rw[show(a.put o.dst c).defers=a.defers by cases o.dst<;>rfl];exact I.nodefer;rw[Td F];rw[Hp n]at m;by_cases b:k=i;subst b;rw[GX p]at f;rw[C! f];exact hv;rw[D! b]at m;rw[D! (λe=>b (ok.uniq k i t f (by rw[GX p];exact e)))];exact(I.slot1 k t m M f).later O;rw[Td F];have R:o.dst≠δ t:=by have:=y i (by rw[Hp n,C! rfl]);rwa[GX p]at this
 rw[D! R];refine(I.slot2 t λk m=>y k ?_).later O;rw[Hp n];split;rfl;exact m;rw[Hp n]at C;by_cases u:j=i;subst u;exact r;rw[D! u]at C;exact I.sub j C J;rw[Hp n]at g;by_cases b:k=i;subst b;simp at g;rw[D! b]at g;exact I.pendq k K g;obtain⟨S,V,W,T,o',t,z,D,U,Y,Z,e8,e9,E⟩:=I.early1 k B m;have b:k≠i:=λe=>s (e▸S);refine⟨S,by rw[Hp n,D! b];exact V,W,DX T x.size,o',t,z,D,U,Y,Z,?_,e9.later O,λd q=>?_⟩;exact(x.keep B T (I.sim.out B (.inr ⟨k,m⟩)).2).trans e8;rw[Td F,D! (λe=>b (ok.uniq k i d (by rw[GX U];exact q) (by rw[GX p];exact e)))];exact E d q
def Inv.next(ok:Xu ops N l)(I:Inv P N ops l Q env0 X h0 H0 w0 ds0 l1 l2 v pend env H h early L a w){i:Nat}{r:Ψ Nat}(hl:l2=i::r)(V:ops[i]?=D o){pend':Ψ (Nat×Ψ Nat)}
  (G:Iy ops i=η) (bm:RA P N ops r pend' (env.putO o.dst d) H Q) (bl:∀p∈pend,p∈pend')
  (hq:(U0 v o η/\d=.tup [])\/(U0 v o A/\∃rd,(i,rd)∈pend'/\(∀id∈rd,id<θ H)/\Z9 P N o env H rd d)):
  ∃T,Inv P N ops l Q env0 X h0 H0 w0 ds0 (l1++[i]) r T pend' (env.putO o.dst d) H h early L a w:=by
 have a1:=I.opd ok hl V;have ax:=ok.nodup;rw[I.split,hl]at ax;have Z:i∉l1:=λhm=>(RN.1 ax).2.2 i hm i k! rfl;have ap:early i=ε:=by
  cases he:early i with
  |none=>rfl
  |some B=>obtain⟨_,_,_,_,o',t,z,bG,e5,e6,_⟩:=I.early1 i B he;unfold Iy at G;rw[e5]at G;simp only[e6]at G;cases G
 have bz:L.getD i η=η:=by
  cases R:L.getD i η with
  |false=>rfl
  |true=>exact(Z (I.sub i R ap)).elim
 let T:Nat->Af:=λk=>if k=i then d else v k;have F:∀k,k≠i->T k=v k:=λk g=>by simp[T,g]
 have a2:T i=d:=by simp[T]
 have U:∀t,(env.putO o.dst d).get t=if o.dst=D t then d else env.get t:=by
  intro t;cases o.dst with
  |none=>simp[Env.putO]
  |some u=>simp only[Env.putO,Gg,Av];by_cases h:u=t;subst h;simp;rw[D! h,D! (h ·.symm)]
 have al:QH (I5 ops.toList []) i i=A->False:=by
  intro R;obtain⟨e,he,bN,K⟩:=(YY ops.toList []).2 i i o (by simpa using V) (by simpa using R);have ao:∀(n j k:Nat),j<n->QH (I5 ops.toList []) k j=A->k<j:=by
   intro n;induction n with
   |zero=>intro j k h;omega
   |succ n ih=>
    intro j k hj R;cases ad:ops[j]? with
    |none=>
     have bt:ops.size<=j:=yj.1 ad;have ar:∀l O,(I5 l O).length=θ O+θ l:=by
      intro l;induction l with
      |nil=>intro O;rfl
      |cons o l ih=>intro O;simp only[I5,ih];simp;omega
     have:(I5 ops.toList []).getD j 0=0:=by rw[R0,Cz (by rw[ar];simpa using bt)];rfl
     unfold QH at R;rw[this]at R;simp at R
    |some oj=>obtain⟨e,he,a4,A_⟩:=(YY ops.toList []).2 j k oj (by simpa using ad) (by simpa using R);have b0:=ok.back j oj ad e (by simpa using he) a4;rcases A_ with A_|⟨A_,h3⟩;omega;have:=ih e.on k o! h3;omega
  have:=ao (i+1) i i o! R;omega
 have a3:∀{k:Nat}{y:Oper}{ei},k∈l1->ops[k]?=D y->Opd ops env0 v k y ei->Opd ops env0 T k y ei:=by intro k y ei a6 S bb t ht;obtain⟨c1,c2⟩:=bb t ht;refine⟨λq hq M C=>?_,c2⟩;rw[c1 q hq M C,F];rintro rfl;have:=ok.ord l1 l2 I.split k a6 q (by rw[hl];simp);rw[C]at this;cases this
 have f:∀{o':Oper}{b},(∀j c,o'.guard=D (j,c)->j≠i)->U0 v o' b->U0 T o' b:=by
  intro o' b a' hw;unfold U0 at hw⊢;cases Y:o'.guard with
  |none=>rw[Y]at hw;exact hw
  |some p=>obtain⟨j,c⟩:=p;rw[Y]at hw;simp only at hw⊢;rw[F j (a' j c Y)];exact hw
 refine⟨T,{split:=by rw[I.split,hl];simp,ra:=bm,kn:=I.kn.putO _ _,keys:=λt x m=>?_,env1:=λk g t M=>?_,env2:=λt a0=>?_,sim:=I.sim,nodefer:=I.nodefer,size:=I.size,slot1:=λk t g a8 M=>?_,slot2:=I.slot2,sub:=λj hj a5=>F4 _ (I.sub j hj a5),lsz:=I.lsz,closed:=I.closed,pendq:=λk g a9=>?_,ext:=I.ext,early1:=λk B g=>?_,early2:=I.early2}⟩;cases J:o.dst with
 |none=>rw[J]at m;exact I.keys t x m
 |some u=>rw[J]at m;simp only[Env.putO,Env.put]at m;rcases As.1 m with e|m;injection e with e1 _;subst e1;exact qR ok V t J;exact I.keys t x (BG.1 m).1
 rw[U];rcases Ah.1 g with g|g;have D_:k≠i:=λe=>Z (e▸g);rw[F k D_,D! (λe=>D_ (ok.uniq k i t M (by rw[GX V];exact e)))];exact I.env1 k g t M;have:k=i:=by simpa using g
 subst this;rw[GX V]at M;rw[C! M,a2];rw[U];have K:o.dst≠D t:=by have:=a0 i k!;rwa[GX V]at this
 rw[D! K];exact I.env2 t λk g=>a0 k (F4 _ g);have D_:k≠i:=by rintro rfl;rw[bz]at g;cases g
 rw[F k D_];exact I.slot1 k t g a8 M;rcases Ah.1 g with E|E;have D_:k≠i:=λe=>Z (e▸E);obtain⟨y,S,a7,W⟩:=I.pendq k E a9;have s:∀j c,y.guard=D (j,c)->j≠i:=by rintro j c Y rfl;have:=(ok.guard k y j c S Y).1;have A_:=ok.ord l1 l2 I.split k E j (by rw[hl];simp);rw[this]at A_;cases A_
 refine⟨y,S,a7,?_⟩;rw[F k D_];rcases W with⟨K,A_⟩|⟨K,rd,ei,A_,h3,h4,h5,h6,h7⟩;exact .inl ⟨f s K,A_⟩;exact .inr ⟨f s K,rd,ei,bl _ A_,h3,h4,h5,a3 E S h6,h7⟩;have:k=i:=by simpa using E
 subst this;have s:∀j c,o.guard=D (j,c)->j≠k:=by rintro j c Y rfl;exact al (ok.guard j o j c V Y).1
 refine⟨o,V,G,?_⟩;rw[a2];rcases hq with⟨K,A_⟩|⟨K,rd,A_,h3,h4⟩;exact .inl ⟨f s K,A_⟩;refine .inr ⟨f s K,rd,env,A_,h3,I.kn,I.keys,λt ht=>?_,h4⟩;obtain⟨c1,c2⟩:=a1 t ht;exact⟨λq hq M C=>by rw[c1 q hq M C,F q hq],c2⟩;obtain⟨e1,e2⟩:=I.early1 k B g;rw[hl]at e1;rcases As.1 e1 with e|e1;rw[e,ap]at g;cases g;exact⟨e1,e2⟩
def Inv.guardW(ok:Xu ops N l)(I:Inv P N ops l Q env0 X h0 H0 w0 ds0 l1 l2 v pend env H h early L a w){r:Ψ Nat}(G:l2=t::r)(D_:ops[t]?=D o){B:Prop}(c:Yd ops o.guard env U B):
  (U0 v o A/\U)\/(U0 v o η/\B):=by
 unfold Yd at c;unfold U0;cases A_:o.guard with
 |none=>rw[A_]at c;exact .inl ⟨rfl,c⟩
 |some p=>
  obtain⟨j,g⟩:=p;rw[A_]at c;simp only at c⊢;obtain⟨f,S,d,K⟩:=ok.guard t o j g D_ A_;have F:j∈l1:=by
   have m:=ok.all j S;rw[I.split,Ah]at m;rcases m with m|m;exact m;rw[G]at m;rcases As.1 m with e|m;subst e;have J:=ok.back;exfalso;have C:=I.opd ok G D_;obtain⟨e,M,R,V⟩:=(YY ops.toList []).2 j j o (by simpa using D_) (by simpa using f);have x:∀(n q k:Nat),q<n->q<=j->QH (I5 ops.toList []) k q=A->k<q:=by
    intro n;induction n with
    |zero=>intro q k h;omega
    |succ n i=>
     intro q k W T u;have y:q<ops.size:=by have:=Wl D_;omega
     obtain⟨e,M,E,C⟩:=(YY ops.toList []).2 q k ops[q] (by simp[y]) (by simpa using u);have J:=ok.back q ops[q] (by simp[y]) e (by simpa using M) E;rcases C with C|⟨C,O⟩;omega;have:=i e.on k o! o! O;omega
   have:=x (j+1) j j o! (Ao _) f;omega;have:=ok.ord (l1++[t]) r (by rw[I.split,G];simp) t k! j m;rw[f]at this;cases this
  have z:XM ops env j=v j:=by unfold XM;rw[show(ops[j]?).bind (·.dst)=D d from K];exact I.env1 j F d K
  rw[z]at c;split at c;rename_i b u;by_cases s:b=g;exact .inl ⟨.inl ⟨b,u,by simp[s]⟩,c.1 s⟩;exact .inr ⟨.inl ⟨b,u,by simp[s]⟩,c.2 (by cases b<;>cases g<;>simp_all)⟩;rename_i u;exact .inr ⟨.inr ⟨u,P!⟩,c⟩;exact c.elim
end
section
variable {P:Program}{N:Nat}{ops:Array Oper}{l:Ψ Nat}{Q:Env->Ay->Prop}{env0:Env}{X:Nat->Prop}{h0:Gh}{H0:Ay}{w0:World}{ds0:Ψ Deferred}
theorem XN(a:ops[N]?=D o):Iy ops N=A↔∃t,o.op=.alloc t:=by grind[Iy]
theorem fo(h:Wv P ops=A)(i:ops[N]?=D o)(a:o.op=.alloc b):(∃z,Za P b=D z)/\o.guard=ε:=by have:=Ga.1 h o (by rw[Array.mem_toList_iff];exact wA i);rw[a]at this;simp at this;grind[Option.isSome_iff_exists]
def Inv.adopt(ok:Xu ops N l)(ha:Wv P ops=A)(hX:∀B,X B→B<w0.heap.size){l1:Ψ Nat}{v:Nat→Af}{a7:Ψ (Nat×Ψ Nat)}{env:Env}{H:Ay}{h:Gh}{early:Nat→Ω Nat}{L:Array Bool}{a:Act}{w:World}
  {i:Nat}{r:Ψ Nat} (I:Inv P N ops l Q env0 X h0 H0 w0 ds0 l1 (i::r) v a7 env H h early L a w) {B:Nat} (hB:early i=D B):
  ∃v' ad H' h' c,Inv P N ops l Q env0 X h0 H0 w0 ds0 (l1++[i]) r v' a7 ad H' h' c L a w:=by
 obtain⟨e1,e2,e3,e4,o,t,z,U,R,ap,hz,bN,b9,bt⟩:=I.early1 i B hB;have cm:Iy ops i=A:=(XN R).2 ⟨t,ap⟩;have hg:=(fo ha R ap).2;have a2:=I.ra;simp only[RA,R,hg,Yd,cm,Bool.true_eq_false,false_and,false_or]at a2;obtain⟨M,z',a5,cc,_,a2⟩:=a2;rw[ap]at a5;injection a5 with et;subst et;rw[hz]at cc;injection cc with ez;subst ez;have b8:=ok.nodup;rw[I.split]at b8;have b3:i∉l1:=λhm=>(RN.1 b8).2.2 i hm i k! rfl;let u:Af:=.ptr (θ H) 0 0;let v':Nat->Af:=λk=>if k=i then u else v k;have ax:∀k,k≠i->v' k=v k:=λk O=>by simp[v',O]
 have ca:v' i=u:=by simp[v']
 let c:Nat->Ω Nat:=λk=>if k=i then ε else early k;have W:∀k C,c k=D C->k≠i/\early k=D C:=by intro k C O;simp only[c]at O;split at O;cases O;exact⟨v!,O⟩
 have a3:∀t,(env.putO o.dst u).get t=if o.dst=D t then u else env.get t:=by
  intro t;cases o.dst with
  |none=>simp[Env.putO]
  |some d=>simp only[Env.putO,Gg,Av];by_cases h:d=t;subst h;simp;rw[D! h,D! (h ·.symm)]
 have cf:∀{k:Nat}{K:Oper}{ei},k∈l1->ops[k]?=D K->Opd ops env0 v k K ei->Opd ops env0 v' k K ei:=by intro k K ei a' a1 ap t ht;obtain⟨c1,c2⟩:=ap t ht;refine⟨λq hq hd a6=>?_,c2⟩;rw[c1 q hq hd a6,ax];rintro rfl;have:=ok.ord l1 (q::r) I.split k a' q k!;rw[a6]at this;cases this
 have T:∀{o':Oper}{b},(∀j D_,o'.guard=D (j,D_)->j≠i)->U0 v o' b->U0 v' o' b:=by
  intro o' b bm hw;unfold U0 at hw⊢;cases hg:o'.guard with
  |none=>rw[hg]at hw;exact hw
  |some p=>obtain⟨j,D_⟩:=p;rw[hg]at hw;simp only at hw⊢;rw[ax j (bm j D_ hg)];exact hw
 have ar:∀C,owned (h.at_ (θ H) (D B) 0 U.size) (H++[.live 0 z]) C->owned h H C\/C=B:=by rintro C ⟨id,e,he,bm,S⟩;rcases JZ he with⟨s,he⟩|⟨rfl,rfl⟩;exact .inl ⟨id,e,he,bm,by simpa[Gh.at_,Bq s]using S⟩;simp[Gh.at_]at S;exact .inr S.symm
 have hl:(cx (XR X early) h H w).Later (cx (XR X c) (h.at_ (θ H) (D B) 0 U.size) (H++[.live 0 z]) w):=by refine⟨Ao _,λ_ _ _ _=>rfl,λC _ hO=>?_,by simp[cx],λid A_=>by simp only[cx]at A_;simp[cx,Gh.at_,Bq A_],λid A_ _=>by simp only[cx]at A_;simp[cx,Gh.at_,Bq A_]⟩;rcases hO with(hO|⟨k,O⟩)|hO;exact .inl (.inl hO);exact .inl (.inr ⟨k,(W k C O).2⟩);rcases ar C hO with hO|rfl;exact .inr hO;exact .inl (.inr ⟨i,hB⟩)
 have b7:¬owned h H B:=(I.sim.out B (.inr ⟨i,hB⟩)).2;have b':I6 (XR X c) (h.at_ (θ H) (D B) 0 U.size) (H++[.live 0 z]) w:=by
  refine⟨λC V=>?_,λid g cs he=>?_,λid L' he=>?_,λid cA e e' C h1 h2 b5 b6 h3 h4=>?_,I.sim.bldKeep λid e he hB=>?_⟩;have cb:XR X early C:=by rcases V with V|⟨k,O⟩;exact .inl V;exact .inr ⟨k,(W k C O).2⟩
  refine⟨(I.sim.out C cb).1,λR=>?_⟩;rcases ar C R with R|rfl;exact(I.sim.out C cb).2 R;rcases V with V|⟨k,O⟩;have:=hX C V;omega;obtain⟨k1,k2⟩:=W k C O;exact k1 (I.early2 k i C k2 hB);rcases JZ he with⟨s,ao⟩|⟨rfl,e⟩;obtain⟨hg,b1⟩:=I.sim.live id g cs ao;refine⟨by simpa[cx,Gh.at_,Bq s]using hg,?_⟩;rcases b1 with⟨hn,rfl⟩|⟨B1,Z,T',ci,f,S,hb,b0,bl,a9,E⟩;exact .inl ⟨by simpa[cx,Gh.at_,Bq s]using hn,rfl⟩;refine .inr ⟨B1,Z,T',ci,f,by simpa[cx,Gh.at_,Bq s]using S,hb,by simpa[cx,Gh.at_,Bq s]using b0,bl,a9,λj v hj=>?_⟩;obtain⟨p1,p2,p3⟩:=E j v hj;exact⟨p1,p2,p3.later hl⟩;injection e with e1 e2;subst e1 e2;obtain⟨f,bl,a9,E⟩:=Qx (b9.later hl);exact⟨by simp[cx,Gh.at_],.inr ⟨B,U,t,(0,0),f,by simp[cx,Gh.at_],bN,by simp[cx,Gh.at_],bl,a9,E⟩⟩;rcases JZ he with⟨s,ao⟩|⟨rfl,e⟩;obtain⟨hg,B1,r1,S,hb,p1,p2,p3,p4,p5,p6,p7⟩:=I.sim.lp id L' ao;exact⟨by simpa[cx,Gh.at_,Bq s]using hg,B1,r1,by simpa[cx,Gh.at_,Bq s]using S,hb,p1,p2,p3,p4,p5,p6,λt v m=>⟨(p7 t v m).1,(p7 t v m).2.later hl⟩⟩;cases e;rcases JZ h1 with⟨cd,bz⟩|⟨rfl,_⟩<;>rcases JZ h2 with⟨ce,bG⟩|⟨rfl,_⟩;exact I.sim.inj _ _ _ _ C bz bG b5 b6 (by simpa[Gh.at_,Bq cd]using h3) (by simpa[Gh.at_,Bq ce]using h4);simp[Gh.at_]at h4;subst h4;exact(b7 ⟨id,e,bz,b5,by simpa[Gh.at_,Bq cd]using h3⟩).elim;simp[Gh.at_]at h3;subst h3;exact(b7 ⟨cA,e',bG,b6,by simpa[Gh.at_,Bq ce]using h4⟩).elim;rfl;rcases JZ he with⟨s,ao⟩|⟨rfl,e⟩;exact⟨ao,by simp[Gh.at_,Bq s],by simp[Gh.at_,Bq s],by simp[Gh.at_,Bq s],λ_ _ _ _ _=>rfl⟩;subst e;cases hB
 have b2:HT h0 H0 w0 (h.at_ (θ H) (D B) 0 U.size) (H++[.live 0 z]) w:=by have x:=I.ext;refine⟨x.os,x.tape,x.output,x.size,x.keep,by have:=x.n;simp;omega,λid A_=>?_,λid A_ e=>?_,λC R=>?_,x.loops⟩;have s:id<θ H:=DX A_ x.n;simpa[Gh.at_,Bq s]using x.gen id A_;have s:id<θ H:=DX A_ x.n;have:=x.same id A_ (by simpa[Gh.at_,Bq s]using e);simpa[Gh.at_,Bq s]using this;rcases ar C R with R|rfl;exact x.fresh C R;exact .inr e3
 refine⟨v',env.putO o.dst u,H++[.live 0 z],h.at_ (θ H) (D B) 0 U.size,c,?_⟩;refine{split:=by rw[I.split];simp,ra:=a2,kn:=I.kn.putO _ _,keys:=λM y m=>?_,env1:=λk G M F=>?_,env2:=λM a0=>?_,sim:=b',nodefer:=I.nodefer,size:=I.size,slot1:=λk M G cv F=>?_,slot2:=λM a0=>(I.slot2 M a0).later hl,sub:=λj hj cn=>?_,lsz:=I.lsz,closed:=I.closed,pendq:=λk a' bb=>?_,ext:=b2,early1:=λk C O=>?_,early2:=λk j C h1 h2=>I.early2 k j C (W k C h1).2 (W j C h2).2};cases al:o.dst with
 |none=>rw[al]at m;exact I.keys M y m
 |some d=>rw[al]at m;simp only[Env.putO,Env.put]at m;rcases As.1 m with e|m;injection e with e1 _;subst e1;exact qR ok R M al;exact I.keys M y (BG.1 m).1
 rw[a3];rcases Ah.1 G with G|G;have J:k≠i:=λe=>b3 (e▸G);rw[ax k J,D! (λe=>J (ok.uniq k i M F (by rw[GX R];exact e)))];exact I.env1 k G M F;have:k=i:=by simpa using G
 subst this;rw[GX R]at F;rw[C! F,ca];rw[a3];have h1:o.dst≠D M:=by have:=a0 i k!;rwa[GX R]at this
 rw[D! h1];exact I.env2 M λk O=>a0 k (F4 _ O);by_cases J:k=i;subst J;rw[GX R]at F;rw[ca,bt M F];exact .ptr (by simp[cx]) (by simp[cx,Gh.at_]) rfl λ_=>⟨B,by simp[cx,Gh.at_],rfl⟩
 rw[ax k J];exact(I.slot1 k M G (by simpa[c,J]using cv) F).later hl;by_cases b4:j=i;subst b4;simp;exact F4 _ (I.sub j hj (by simpa[c,b4]using cn));rcases Ah.1 a' with Y|Y;have J:k≠i:=λe=>b3 (e▸Y);obtain⟨K,a1,ct,a8⟩:=I.pendq k Y bb;have a4:∀j D_,K.guard=D (j,D_)->j≠i:=by rintro j D_ hg rfl;have:=(ok.guard k K j D_ a1 hg).1;have h2:=ok.ord l1 (j::r) I.split k Y j k!;rw[this]at h2;cases h2
 refine⟨K,a1,ct,?_⟩;rw[ax k J];rcases a8 with⟨h1,h2⟩|⟨h1,rd,ei,h2,h3,h4,h5,h6,h7⟩;exact .inl ⟨T a4 h1,h2⟩;refine .inr ⟨T a4 h1,rd,ei,h2,λid A_=>by have:=h3 id A_;simp;omega,h4,h5,cf Y a1 h6,λad cg he hh=>h7 ad cg he λid A_=>?_⟩;rw[hh id A_,Cb (h3 id A_)];have:k=i:=by simpa using Y
 subst this;rw[e2]at bb;cases bb;obtain⟨k1,k2⟩:=W k C O;obtain⟨f1,f2,f3,f4,o',M,z',Z,f5,f6,f7,f8,f9,ch⟩:=I.early1 k C k2;rcases As.1 f1 with e|f1;exact(k1 e).elim;exact⟨f1,f2,f3,f4,o',M,z',Z,f5,f6,f7,f8,f9.later hl,ch⟩
def Mid(P:u)(N:z)(ops:Array Oper)(l:Ψ z)(Q:Env->Ay->Prop)(env0:Env)(X:z->Prop)(h0:Gh)(H0:Ay)(w0:World)(ds0:Ψ Deferred)(L:Array Bool)(a:Act)(w:World):Prop:=
 ∃l1 l2 v pend env H h early,Inv P N ops l Q env0 X h0 H0 w0 ds0 l1 l2 v pend env H h early L a w
def VQ(ok:Xu ops N l)(T:Wv P ops=A)(S:∀B,X B→B<w0.heap.size){L:Array Bool}{a}{w}{i:Nat}{o:Oper}(C:ops[i]?=D o)(g:Iy ops i=η)(s:∀e∈o.after,Region.binds .any e=A→L.getD e.on η=A):
  ∀l2 l1 v b env H h early,Inv P N ops l Q env0 X h0 H0 w0 ds0 l1 l2 v b env H h early L a w->∃l1 l2 v b env H h early,Inv P N ops l Q env0 X h0 H0 w0 ds0 l1 l2 v b env H h early L a w/\(i∈l1\/∃r,l2=i::r/\U0 v o A/\∃F,(∀j∈r,QH (I5 ops.toList []) i j=A\/Iy ops j=A)/\(∀p∈b,QH (I5 ops.toList []) p.1 i=A\/∀id∈p.2,id∉F)/\∃K,Eff P N o env H F K/\(∀v y,K v y->θ H<=θ y)/\∀v y,K v y->RA P N ops r b (env.putO o.dst v) y Q)
 |[],l1,v,b,env,H,h,early,I=>by have k:=ok.all i (Wl C);rw[I.split,DR]at k;exact⟨l1,[],v,b,env,H,h,early,I,.inl k⟩
 |q::r,l1,v,b,env,H,h,early,I=>by
  by_cases G:i∈l1;exact⟨l1,q::r,v,b,env,H,h,early,I,.inl G⟩
  ·cases E:early q with
   |some B=>obtain⟨O,ar,y,h',m,D_⟩:=I.adopt ok T S E;exact VQ ok T S C g s r _ O _ _ y h' m D_
   |none=>
    have M:=I.ra;have ao:q<ops.size:=ok.lt q (by rw[I.split];simp);have c:ops[q]?=D (ops[q]):=by simp[ao]
    generalize ax:ops[q]=oq at c;have x:(∀j∈r,QH (I5 ops.toList []) q j=A\/Iy ops j=A)->i=q:=by intro f;have k:=ok.all i (Wl C);rw[I.split,Ah]at k;rcases k with k|k;exact(G k).elim;rcases As.1 k with e|k;exact e;rcases f i k with R|R;have hd:=fK I.closed (i+1) i o o! C s R;have al:=I.sub q hd E;have J:=ok.nodup;rw[I.split]at J;exact((RN.1 J).2.2 q al q k! rfl).elim;rw[g]at R;cases R
    simp only[RA,c]at M;rcases I.guardW ok rfl c M with⟨U,(⟨n,u,rd,hQ,ap,d⟩|⟨n,F,f,V,K,W,Y,Z⟩|⟨t,z,ad,hz,f,d⟩)⟩|⟨U,n,d⟩
    ·obtain⟨O,D_⟩:=I.next ok rfl c (pend':=(q,rd)::b) n d (λp s=>CU _ s) (.inr ⟨U,rd,k!,ap,hQ⟩)
     exact VQ ok T S C g s r _ O _ _ H h early D_
    have A_:=x f;subst A_;rw[C]at c;injection c with e;subst e;exact⟨l1,i::r,v,b,env,H,h,early,I,.inr ⟨r,rfl,U,F,f,V,K,W,Y,Z⟩⟩;have A_:=x f;subst A_;have:=(XN c).2 ⟨t,ad⟩;rw[g]at this;cases this
    ·obtain⟨O,D_⟩:=I.next ok rfl c (pend':=(q,[])::b) n d (λp s=>CU _ s) (.inl ⟨U,rfl⟩)
     exact VQ ok T S C g s r _ O _ _ H h early D_
def Ws{K b:Act->World->Prop}{c:Exit->Act->World->Prop}(h:Oper.wpIn (FR j) 0 P o a w K c)(d:∀a w,K a w->b a w):Oper.wpIn (FR j) 0 P o a w b c:=Oper.wpIn_mono d h
def Inv.make(ok:Xu ops N l)(ha:Wv P ops=A){l1 l2:Ψ Nat}{v:Nat→Af}{K:Ψ (Nat×Ψ Nat)}{env:Env}{H:Ay}{h:Gh}{early:Nat→Ω Nat}{L:Array Bool}{a:Act}{w:World}{Q0:Exit→Act→World→Prop}{ro:Ω Nat}
  (I:Inv P N ops l Q env0 X h0 H0 w0 ds0 l1 l2 v K env H h early L a w) {i:Nat}{o:Oper}{t:TypeId} (u:ops[i]?=D o) (y:o.op=.alloc t) (a6:L.getD i η=η)
  (hp:∀e∈o.after,Region.binds .any e=A->L.getD e.on η=A):
  Oper.wpIn (FR ro) 0 P o a w (λa' C=>∃b,Inv P N ops l Q env0 X h0 H0 w0 ds0 l1 l2 v K env H h b (L.setIfInBounds i A) a' C) Q0:=by
 obtain⟨⟨z,hz⟩,hg⟩:=fo ha u y;have bb:Iy ops i=A:=(XN u).2 ⟨t,y⟩;obtain⟨b3,zv,hi,bG,rz⟩:=fT (cx (XR X early) h H w) hz;have a4:(execOp a.eval o).run P w=.ok (.value (.pointer (D ⟨w.heap.size,0,ε⟩))) {w with heap:=w.heap.push (.cells zv.cells t)}:=by unfold execOp;rw[y];simp[Instr.alloc,zeroValue,typeInfo,hi,bG,newVar,newRow]
 refine⟨λ_ _=>P!,?_⟩;rw[Oper.semAt_eq _ _ _ (λc hc=>by rw[y]at hc;cases hc),a4,Oper.uponIn_value];let b:Nat->Ω Nat:=λk=>if k=i then D w.heap.size else early k;generalize s:({w with heap:=w.heap.push (.cells zv.cells t)}:World)=C;have b2:C.heap.size=w.heap.size+1:=by rw[<-s];simp
 have q:∀k,k<w.heap.size->C.heap[k]?=w.heap[k]? :=λk r=>by rw[<-s];simp[UG,Bq r]
 have bz:C.heap[w.heap.size]?=D (.cells zv.cells t):=by rw[<-s];simp
 have U:C.os=w.os:=by rw[<-s]
 have V:C.tape=w.tape:=by rw[<-s]
 have A_:C.output=w.output:=by rw[<-s]
 have ap:i∉l1:=by intro hm;obtain⟨o',b1,ar,_⟩:=I.pendq i hm a6;rw[bb]at ar;cases ar
 have bm:i∈l2:=by have:=ok.all i (Wl u);rw[I.split,Ah]at this;exact this.resolve_left ap
 have bN:early i=ε:=by
  cases G:early i with
  |none=>rfl
  |some B=>have:=(I.early1 i B G).2.1;rw[a6]at this;cases this
 have a8:=I.sim.grow U V A_ o! q;have b0:=(HT.grow (h:=h) (H:=H) U V A_ o! q).later (XR X early);have J:∀B,owned h H B->B<w.heap.size:=by rintro B ⟨id,e,G,S,x⟩;exact I.sim.io_at G S x
 have a7:∀B,XR X b B->XR X early B\/B=w.heap.size:=by rintro B (O|⟨k,r⟩);exact .inl (.inl O);simp only[b]at r;split at r;injection r with e;exact .inr e.symm;exact .inl (.inr ⟨k,r⟩)
 have W:(cx (XR X early) h H w).Later (cx (XR X b) h H C):=by refine⟨by simp only[cx];omega,λB O _=>mz (q B O),λB O Z=>?_,Ao _,λ_ _=>Ao _,λ_ _ _=>⟨rfl,rfl⟩⟩;rcases Z with Z|Z;rcases a7 B Z with D_|rfl;exact .inl D_;simp only[cx]at O;omega;exact .inr Z
 have a5:I6 (XR X b) h H C:=by refine⟨λB O=>?_,λid g cs G=>?_,λid L' G=>?_,I.sim.inj,I.sim.bldKeep λid e G _=>⟨G,rfl,rfl,rfl,λB o _ R _=>q B (QL R)⟩⟩;rcases a7 B O with D_|rfl;exact a8.out B D_;exact⟨o!,λu=>by have:=J _ u;omega⟩;obtain⟨hg,ao⟩:=I.sim.live id g cs G;refine⟨hg,?_⟩;rcases ao with⟨hn,rfl⟩|⟨B,M,T,fz,f,x,R,ad,bt,bl,E⟩;exact .inl ⟨hn,rfl⟩;refine .inr ⟨B,M,T,fz,f,x,(q B (QL R)).trans R,ad,bt,bl,λj v hj=>?_⟩;obtain⟨p1,p2,p3⟩:=E j v hj;exact⟨p1,p2,p3.later W⟩;obtain⟨hg,B1,r1,x,R,p1,p2,p3,p4,p5,p6,p7⟩:=I.sim.lp id L' G;exact⟨hg,B1,r1,x,(q B1 (QL R)).trans R,p1,p2,p3,p4,p5,p6,λt v m=>⟨(p7 t v m).1,(p7 t v m).2.later W⟩⟩
 have p:i<L.size:=by rw[I.lsz];exact Wl u
 have hd:∀t,o.dst=D t->t<a.tmps.size:=λt ht=>by rw[I.size];exact qR ok u t ht
 refine⟨b,?_⟩;refine{split:=I.split,ra:=I.ra,kn:=I.kn,keys:=I.keys,env1:=I.env1,env2:=I.env2,sim:=a5,nodefer:=?_,size:=(fM _ _ _).trans I.size,slot1:=λk t r a2 al=>?_,slot2:=λt J=>?_,sub:=λj hj ax=>?_,lsz:=by rw[po];exact I.lsz,closed:=nj I.closed p u hp,pendq:=λk a1 a3=>?_,ext:=I.ext.trans (HT.grow U V A_ o! q),early1:=λk B r=>?_,early2:=λj k B D_ Y=>?_};rw[show(a.put o.dst _).defers=a.defers by cases o.dst<;>rfl];exact I.nodefer;have n:k≠i:=by rintro rfl;simp[b]at a2
 rw[Hp p,D! n]at r;rw[Td hd,D! (λe=>n (ok.uniq k i t al (by rw[GX u];exact e)))];exact(I.slot1 k t r (by simpa[b,n]using a2) al).later W;rw[Td hd];have S:o.dst≠D t:=by have:=J i (by rw[Hp p,C! rfl]);rwa[GX u]at this
 rw[D! S];refine(I.slot2 t λk r=>J k ?_).later W;rw[Hp p];split;rfl;exact r;have a0:j≠i:=by rintro rfl;simp[b]at ax
 rw[Hp p,D! a0]at hj;exact I.sub j hj (by simpa[b,a0]using ax);have n:k≠i:=λe=>ap (e▸a1);rw[Hp p,D! n]at a3;exact I.pendq k a1 a3;by_cases n:k=i;subst n;simp only[b,if_true]at r;injection r with e;subst e;refine⟨bm,by rw[Hp p,C! rfl],I.ext.size,o!,o,t,z,zv.cells,u,y,hz,bz,rz.later W,λd F=>?_⟩;rw[Td hd,C! F];simp only[b,D! n]at r;obtain⟨e1,e2,e3,e4,o',t',z',M,e5,e6,e7,e8,e9,a9⟩:=I.early1 k B r;refine⟨e1,by rw[Hp p,D! n];exact e2,e3,o!,o',t',z',M,e5,e6,e7,(q B e4).trans e8,e9.later W,λd F=>?_⟩;rw[Td hd,D! (λe=>n (ok.uniq k i d (by rw[GX e5];exact F) (by rw[GX u];exact e)))];exact a9 d F;simp only[b]at D_ Y;split at D_<;>split at Y;simp_all;injection D_ with e;have:=(I.early1 k B Y).2.2.2.1;omega;injection Y with e;have:=(I.early1 j B D_).2.2.2.1;omega;exact I.early2 j k B D_ Y
def Mid.step(ok:Xu ops N l)(ha:Wv P ops=A)(hX:∀B,X B→B<w0.heap.size){L:Array Bool}{a:Act}{w:World}{Q0:Exit→Act→World→Prop}{ro:Ω Nat}(M:Mid P N ops l Q env0 X h0 H0 w0 ds0 L a w){i:Nat}{o:Oper}(n:ops[i]?=D o)(E:L.getD i η=η)
  (Y:∀e∈o.after,Region.binds .any e=A->L.getD e.on η=A):wpOpIn (FR ro) 0 P ops Q0 i (Mid P N ops l Q env0 X h0 H0 w0 ds0 (L.setIfInBounds i A)) a w:=by
 cases a3:Iy ops i with
 |true=>
  obtain⟨t,a9⟩:=(XN n).1 a3;have hg:=(fo ha n a9).2;obtain⟨l1,l2,v,s,env,H,h,early,I⟩:=M;unfold wpOpIn;rw[n];simp only;have J:Region.wanted o (yielded ops a.tmps)=A:=by unfold Region.wanted;rw[hg]
  rw[J];simp only[if_true];refine(Ws (I.make ok ha n a9 E Y) ?_);rintro a' w' ⟨al,I'⟩;exact⟨l1,l2,v,s,env,H,h,al,I'⟩
 |false=>
 obtain⟨l1,l2,v,s,env,H,h,early,I⟩:=M;obtain⟨l1,l2,v,s,env,H,h,early,I,A_⟩:=VQ ok ha hX n a3 Y l2 l1 v s env H h early I;have G:∀k,QH (I5 ops.toList []) k i=A->early k=ε:=by
  intro k D_;by_cases f:k=i;subst f;cases he:early k with
  |none=>rfl
  |some B=>have:=(I.early1 k B he).2.1;rw[E]at this;cases this
  refine I.noEarly ok ?_ k D_ f;rcases A_ with h1|⟨r,h1,_⟩;exact .inl h1;exact .inr ⟨r,h1⟩
 unfold wpOpIn;rw[n];simp only;rcases A_ with ax|⟨r,rfl,J,F,b7,bz,K,a1,bG,bN⟩
 ·obtain⟨o',a7,_,b6⟩:=I.pendq i ax E;rw[n]at a7;injection a7 with e;subst e;rcases b6 with⟨J,ao⟩|⟨J,rd,ei,_,_,kn,T,W,hQ⟩
  ·rw[I.wanted ok n G Y J];simp only[Qd,if_false];exact⟨λ_ _=>P!,l1,l2,v,s,env,H,h,early,I.done ok n ax E Y I.sim (HT.refl _ _ _) (by rw[ao];exact .tup rfl λ_ _ _ h=>by cases h)⟩
  ·rw[I.wanted ok n G Y J];simp only[if_true];refine(Ws (hQ (look o ei) H (zZ o ei) (λ_ _=>rfl) ro (XR X early) h a w ⟨I.sim,I.look ok n E Y G kn T W,I.size⟩ Q0) ?_);rintro a' w' ⟨c,u,h',H',rfl,⟨rfl,rfl⟩,hv,sim,x⟩;exact⟨l1,l2,v,s,env,_,h',early,I.done ok n ax E Y sim x hv⟩
 rw[I.wanted ok n G Y J];simp only[if_true];have W:=I.opd ok rfl n;refine(Ws (a1.1 (look o env) (zZ o env) ro (XR X early) h a w ⟨I.sim,I.look ok n E Y G I.kn I.keys W,I.size⟩ Q0) ?_);rintro a' w' ⟨c,u,h',H',rfl,T,hv,sim,x⟩;have a6:=ok.nodup;rw[I.split]at a6;have b1:i∉l1:=λhm=>(RN.1 a6).2.2 i hm i k! rfl;have hi:i<L.size:=by rw[I.lsz];exact Wl n
 have hl:=x.later (XR X early);let v':Nat->Af:=λk=>if k=i then u else v k;have Z:∀k,k≠i->v' k=v k:=λk T=>by simp[v',T]
 have ao:v' i=u:=by simp[v']
 have hd:∀t,o.dst=D t->t<a.tmps.size:=λt ht=>by rw[I.size];exact qR ok n t ht
 have ap:∀t,(env.putO o.dst u).get t=if o.dst=D t then u else env.get t:=by
  intro t;cases o.dst with
  |none=>simp[Env.putO]
  |some d=>simp only[Env.putO,Gg,Av];by_cases h:d=t;subst h;simp;rw[D! h,D! (h ·.symm)]
 refine⟨l1++[i],r,v',s,env.putO o.dst u,H',h',early,?_⟩;refine{split:=by rw[I.split];simp,ra:=bN u H' T,kn:=I.kn.putO _ _,keys:=λt y m=>?_,env1:=λk g t C=>?_,env2:=λt V=>?_,sim:=sim,nodefer:=?_,size:=(fM _ _ _).trans I.size,slot1:=λk t g b5 C=>?_,slot2:=λt V=>?_,sub:=λj hj b2=>?_,lsz:=by rw[po];exact I.lsz,closed:=nj I.closed hi n Y,pendq:=λk b3 U=>?_,ext:=I.ext.trans x,early1:=λk B g=>?_,early2:=I.early2};cases R:o.dst with
 |none=>rw[R]at m;exact I.keys t y m
 |some d=>rw[R]at m;simp only[Env.putO,Env.put]at m;rcases As.1 m with e|m;injection e with e1 _;subst e1;exact qR ok n t R;exact I.keys t y (BG.1 m).1
 rw[ap];rcases Ah.1 g with g|g;have f:k≠i:=λe=>b1 (e▸g);rw[Z k f,D! (λe=>f (ok.uniq k i t C (by rw[GX n];exact e)))];exact I.env1 k g t C;have:k=i:=by simpa using g
 subst this;rw[GX n]at C;rw[C! C,ao];rw[ap];have h1:o.dst≠D t:=by have:=V i k!;rwa[GX n]at this
 rw[D! h1];exact I.env2 t λk T=>V k (F4 _ T);rw[show(a.put o.dst c).defers=a.defers by cases o.dst<;>rfl];exact I.nodefer;rw[Td hd];rw[Hp hi]at g;by_cases f:k=i;subst f;rw[GX n]at C;rw[C! C,ao];exact hv;rw[D! f]at g;rw[D! (λe=>f (ok.uniq k i t C (by rw[GX n];exact e))),Z k f];exact(I.slot1 k t g b5 C).later hl;rw[Td hd];have G:o.dst≠D t:=by have:=V i (by rw[Hp hi,C! rfl]);rwa[GX n]at this
 rw[D! G];refine(I.slot2 t λk T=>V k ?_).later hl;rw[Hp hi];split;rfl;exact T;rw[Hp hi]at hj;by_cases a4:j=i;subst a4;simp;rw[D! a4]at hj;exact F4 _ (I.sub j hj b2);rw[Hp hi]at U;by_cases f:k=i;subst f;simp at U;rw[D! f]at U;have a5:k∈l1:=by rcases Ah.1 b3 with h|h;exact h;exact(f (by simpa using h)).elim
 obtain⟨ad,a8,b4,A_⟩:=I.pendq k a5 U;have ar:QH (I5 ops.toList []) i k=η:=ok.ord l1 (i::r) I.split k a5 i k!;have O:∀{b},U0 v ad b->U0 v' ad b:=by
  intro b J;unfold U0 at J⊢;cases hg:ad.guard with
  |none=>rw[hg]at J;exact J
  |some p=>
   obtain⟨j,bb⟩:=p;rw[hg]at J;simp only at J⊢;have:j≠i:=by rintro rfl;have:=(ok.guard k ad j bb a8 hg).1;rw[ar]at this;cases this
   rw[Z j this];exact J
 refine⟨ad,a8,b4,?_⟩;rw[Z k f];rcases A_ with⟨q1,q2⟩|⟨q1,rd,ei,q2,q3,q4,q5,q6,q7⟩;exact .inl ⟨O q1,q2⟩;refine .inr ⟨O q1,rd,ei,q2,λid S=>DX (q3 id S) (bG u H' T),q4,q5,λt ht=>?_,λa0 bl he hh=>q7 a0 bl he λid S=>?_⟩;obtain⟨c1,c2⟩:=q6 t ht;refine⟨λq hq b0 D_=>?_,c2⟩;rw[c1 q hq b0 D_,Z];rintro rfl;rw[ar]at D_;cases D_;rw[hh id S];apply a1.2 u H' T id (q3 id S);rcases bz (k,rd) q2 with h1|h1;have:=fK I.closed (i+1) i o o! n Y h1;simp only at this;rw[U]at this;cases this;exact h1 id S;obtain⟨e1,e2,e3,e4,o',t,z,bm,e5,e6,e7,e8,e9,bt⟩:=I.early1 k B g;have f:k≠i:=by rintro rfl;rw[E]at e2;cases e2
 refine⟨(As.1 e1).resolve_left f,by rw[Hp hi,D! f];exact e2,e3,DX e4 x.size,o',t,z,bm,e5,e6,e7,?_,e9.later hl,λd a2=>?_⟩;exact(x.keep B e4 (I.sim.out B (.inr ⟨k,g⟩)).2).trans e8;rw[Td hd,D! (λe=>f (ok.uniq k i d (by rw[GX e5];exact a2) (by rw[GX n];exact e)))];exact bt d a2
theorem Inv.end_(ok:Xu ops N l)(s:Wv P ops=A)(p:∀B,X B→B<w0.heap.size){L:Array Bool}{a}{w}(e:∀i,i<ops.size→L.getD i η=A):
  ∀l2 l1 v c env H h early,Inv P N ops l Q env0 X h0 H0 w0 ds0 l1 l2 v c env H h early L a w->
  ∃o b g,Q b g/\St X o N b g a w/\HT h0 H0 w0 o g w/\a.defers=ds0
 |q::r,l1,v,c,env,H,h,early,I=>by
  cases j:early q with
  |some B=>obtain⟨G,b,g,o,d,y⟩:=I.adopt ok s p j;exact Inv.end_ ok s p e r _ G _ _ g o d y
  |none=>have J:=I.sub q (e q (ok.lt q (by rw[I.split];simp))) j;have E:=ok.nodup;grind[I.split]
 |[],l1,v,c,env,H,h,early,I=>by
  have D_:∀k,early k=ε:=by
   intro k;cases C:early k with
   |none=>rfl
   |some B=>have:=(I.early1 k B C).1;cases this
  have n:XR X early=X:=by funext B;apply propext;constructor;rintro(z|⟨k,x⟩);exact z;grind;exact .inl
  have f:=I.sim;rw[n]at f;refine⟨h,env,H,I.ra,⟨f,λt u m=>⟨by rw[I.size];exact I.keys t u m,?_⟩,I.size⟩,I.ext,I.nodefer⟩;rw[<-n,<-I.kn t u m];by_cases F:∃k∈l1,V7 ops k=D t;have⟨k,x,A_⟩:=F;rw[I.env1 k x t A_];grind[Yx,I.slot1,Wl];grind[I.env2,I.slot2,I.sub]
def Mid.end_(ok:Xu ops N l)(x:Wv P ops=A)(u:∀B,X B→B<w0.heap.size){w}(M:Mid P N ops l Q env0 X h0 H0 w0 ds0 L a w)(hr:Region.ready .any ops L=[]):
  ∃o b g,Q b g/\St X o N b g a w/\HT h0 H0 w0 o g w/\a.defers=ds0:=by
 obtain⟨l1,l2,v,f,env,H,h,early,I⟩:=M;have c:∀(n i:Nat),i<n->i<ops.size->L.getD i η=A:=by
  intro n;induction n with
  |zero=>intro i h;omega
  |succ n z=>
   intro i q d;cases p:L.getD i η with
   |true=>rfl
   |false=>
    have m:i<L.size:=by rw[I.lsz];exact d
    have j:L.getD i A=η:=by rw[RR,Oe m]at p⊢;simpa using p
    have t:ops[i]?=D (ops[i]):=by simp[d]
    have s:i∈Region.ready .any ops L:=by rw[mem_ready];refine⟨j,_,t,λe y k=>?_⟩;have r:=ok.back i _ t e y k;exact z e.on o! o!
    rw[hr]at s;cases s
 exact Inv.end_ ok x u (λi q=>c (i+1) i o! q) l2 l1 v f env H h early I
theorem wU{p q:z->Bool}(h:∀j,q j=A->p j=A):∀l:Ψ z,(l.filter q).length<=(l.filter p).length
 |[]=>k!
 |y::r=>by have a:=wU h r;grind
theorem filter_lt{p:z->Bool}{i:z}{q:z->Bool}(b:∀j,q j=(p j&& ! τ (j=i))):∀(l:Ψ z),i∈l->p i=A->(l.filter q).length<(l.filter p).length
 |x::r,h,hp=>by
  have d:=wU (p:=p) (q:=q) (λj a=>by rw[b]at a;simp at a;exact a.1) r;by_cases e:x=i;grind;have c:i∈r:=q!
  have f:=filter_lt b r c hp;grind
theorem Mid.any(ok:Xu ops N l)(k:Wv P ops=A)(g:∀B,X B→B<w0.heap.size){f:Exit→Act→World→Prop}{ro}(e:∀L a w,Mid P N ops l Q env0 X h0 H0 w0 ds0 L a w→Region.ready .any ops L=[]→f .normal a w):
  ∀(b:z)L a w,((List.range ops.size).filter λi=>!L.getD i η).length<=b->Mid P N ops l Q env0 X h0 H0 w0 ds0 L a w->wpAnyIn (FR ro) 0 P .any ops f b L a w
 |0,L,a,w,hf,M=>by
  have hr:Region.ready .any ops L=[]:=by
   cases u:Region.ready .any ops L with
   |nil=>rfl
   |cons i r=>
    have d:i∈Region.ready .any ops L:=q!
    rw[mem_ready]at d;have:i∈(List.range ops.size).filter λi=>!L.getD i η:=q!
    grind
  exact⟨hr,e L a w M hr⟩
 |b+1,L,a,w,hf,M=>by
  refine⟨λhr=>e L a w M hr,λi d=>?_⟩;rw[mem_ready]at d;have⟨x,o,m,t⟩:=d;have c:L.getD i η=η:=q!
  refine wpOpIn_mono (λs v n=>Mid.any ok k g e b _ s v ?_ n) (Mid.step ok k g M m c t);have:=filter_lt (p:=λi=>!L.getD i η) (i:=i) (q:=λj=>!(L.setIfInBounds i A).getD j η) (λj=>by rw[Hp q!];by_cases h:j=i<;>simp[h]) (List.range ops.size) (Ie.2 (Wl m)) (by simp[c]);omega
def kX{K:Exit→Env→Ay→Prop}(C:P.follows .mixedOrders=A)(l:Ψ Nat)(q:ACS ops N l=A)(r:Wv P ops=A)(p:(g.map (·.1)).Nodup)
  (h:RA P N ops l [] g H (K .normal)):KC P N (.region t ops A) g H K:=by
 intro ro X R a w s _;have ok:=ABO q;have b:∀i,(Array.replicate ops.size η).getD i η=η:=by intro i;rw[RR];by_cases d:i<ops.size;simp[d];simp[d]
 have E:({w with drawn:=w.drawn+1}:World)=w.drew:=rfl;apply wpIn_region_any C;rw[E];refine Mid.any (Q:=K .normal) (env0:=g) (X:=X) (h0:=R) (H0:=H) (w0:=w) (ds0:=a.defers) ok r (λB c=>(s.sim.out B c).1) (λL I O M hr=>?_) ops.size _ a w.drew ?_ ?_;obtain⟨A_,f,y,D_,F,G,z⟩:=M.end_ ok r (λB c=>(s.sim.out B c).1) hr;exact⟨A_,f,y,D_,F,G,.same z⟩;exact C5 (EP _ _) k!;have x:=HT.drew (h:=R) (H:=H) (w:=w);have n:XR X (λ_=>ε)=X:=by funext B;apply propext;constructor;rintro(c|⟨k,e⟩);exact c;cases e;exact .inl
 refine⟨[],l,λ_=>.any,[],g,H,R,λ_=>ε,?_⟩;refine{split:=rfl,ra:=h,kn:=dz p,keys:=(λS u m=>by have:=(s.env S u m).1;rw[s.size]at this;exact this),env1:=(λk e=>by cases e),env2:=λS _=>rfl,sim:=(by rw[n];exact s.sim.drew),nodefer:=rfl,size:=s.size,slot1:=(λk S e _=>by rw[b]at e;cases e),slot2:=λS _=>(by rw[n];exact(kW s.env S).later (x.later X)),sub:=(λi d=>by rw[b]at d;cases d),lsz:=k!,closed:=(λj o J v=>by rw[b]at v;cases v),pendq:=(λi d=>by cases d),ext:=x,early1:=(λi B c=>by cases c),early2:=(λi j B c=>by cases c)}
end
def qf:Af->Ψ z
 |.ptr id _ _=>[id]
 |.sl id _ _ _ _=>[id]
 |_=>[]
def ABK(env:Env)(op:Op):Ψ z:=op.operands.toList.flatMap λx=>qf (BR env x)
theorem gv{a:Env}(h:∀t∈tmpsOf o,a.get t=g.get t):∀x∈o.op.operands,BR a x=BR g x:=by
 intro x b;cases x with
 |tmp t=>apply h t;unfold tmpsOf;rw[Pg];exact⟨.tmp t,q!,rfl⟩
 |_=>rfl
def uy{a}{l:Ψ Operand}(h:∀x∈l,BR a x=BR g x):l.map (BR a)=l.map (BR g):=Lg h
theorem w6{e}{l:Op}(h:∀x∈l.operands,BR e x=BR g x):Cp P e H l=Cp P g H l:=by
 cases l with
 |move x=>grind[Cp,Op.operands]
 |assign x=>grind[Cp,Op.operands]
 |pick c a b=>grind[Cp,Op.operands]
 |load t a=>grind[Cp,Op.operands]
 |nilCheck x=>grind[Cp,Op.operands]
 |binOp l t x y E=>grind[Cp,Op.operands]
 |unOp l t x=>grind[Cp,Op.operands]
 |convert s d x=>grind[Cp,Op.operands]
 |fieldAddr s x f=>grind[Cp,Op.operands]
 |field s x f=>grind[Cp,Op.operands]
 |indexAddr t x i=>grind[Cp,Op.operands]
 |index t x i=>grind[Cp,Op.operands]
 |extract x i=>grind[Cp,Op.operands]
 |slice t x u o v=>
  have C:u.map (BR e)=u.map (BR g):=by cases u with|none=>rfl|some y=>simp[h y (by simp[Op.operands])]
  have B:o.map (BR e)=o.map (BR g):=by cases o with|none=>rfl|some y=>simp[h y (by simp[Op.operands])]
  have D_:v.map (BR e)=v.map (BR g):=by cases v with|none=>rfl|some y=>simp[h y (by simp[Op.operands])]
  grind[Cp,Op.operands]
 |makeFunc f a b=>simp only[Cp];rw[uy λx j=>h x (by simp only[Op.operands];exact Array.mem_append_left _ (by simpa using j)),uy λx j=>h x (by simp only[Op.operands];exact Array.mem_append_right _ (by simpa using j))]
 |build t F=>
  simp only[Cp];have:(F.toList.map λp=>(p.1,BR e p.2))=F.toList.map λp=>(p.1,BR g p.2):=Lg λp w=>by rw[h p.2 (by simp only[Op.operands,List.mem_toArray,BY];exact⟨p,w,rfl⟩)]
  rw[this]
 |call c=>
  obtain⟨n,args,k⟩:=c;simp only[Op.operands,Call.operands]at h;cases n with
  |value f=>simp[Cp]
  |invoke r m=>simp[Cp]
  |builtin b=>
   obtain⟨args⟩:=args;obtain⟨k⟩:=k;match args with
   |[]=>simp[Cp]
   |[x]=>
    have j:=h x k!;cases b<;>simp[Cp];match k with
    |[]=>rfl
    |[t]=>simp[j]
    |_::_::_=>rfl
   |[x,y]=>have j:=h x k!;have q:=h y k!;cases b<;>simp[Cp,j,q]
   |[x,y,z]=>have j:=h x k!;have q:=h y k!;have A_:=h z k!;cases b<;>simp[Cp,j,q,A_]
   |_::_::_::_::_=>cases b<;>rfl
 |_=>rfl
section
variable {P:Program}{H H':Ay}
theorem aW(h:H'[N]?=H[N]?):UD H' N t=UD H N t:=by grind[UD]
theorem zu(h:∀id∈qf d,H'[id]?=H[id]?):Qt H' d N=Qt H d N:=by cases d<;>simp only[Qt];rw[h _ (by simp[qf])]
theorem vO(h:∀id∈qf d,H'[id]?=H[id]?):shift H' N d=shift H N d:=by cases d<;>simp only[shift];grind[aW,qf]
def ADI(h:∀id∈qf d,H'[id]?=H[id]?):ql P H' b d=ql P H b d:=rfl
theorem ABI{k:Op}(h:∀id∈ABK g k,H'[id]?=H[id]?):Cp P g H' k=Cp P g H k:=by
 have j:∀x∈k.operands,∀id∈qf (BR g x),H'[id]?=H[id]? :=λx j id n=>h id (by unfold ABK;rw[En];exact⟨x,by simpa using j,n⟩);cases k with
 |load t a=>grind[Op.operands,Cp,jL,zu]
 |nilCheck x=>grind[Op.operands,Cp,aW,qf]
 |convert s d x=>
  have u:=j x (by simp[Op.operands]);have hr:rowsOf H' (BR g x)=rowsOf H (BR g x):=by generalize BR g x=v at u;cases v<;>simp only[rowsOf];grind[qf]
  simp only[Cp,Xy];grind[BR]
 |fieldAddr s x f=>grind[Op.operands,Cp,Wf,vO]
 |indexAddr t x i=>have u:=j x (by simp[Op.operands]);simp only[Cp,Wm];split<;>grind[vO,aW,qf]
 |slice t x p o q=>have u:=j x (by simp[Op.operands]);simp only[Cp];generalize BR g x=v at u;cases v<;>simp only[jC];rw[aW (u _ (by simp[qf]))]
 |call c=>
  obtain⟨l,args,e⟩:=c;simp only[Op.operands,Call.operands]at j;cases l with
  |value f=>simp[Cp]
  |invoke r m=>simp[Cp]
  |builtin b=>
   obtain⟨args⟩:=args;obtain⟨e⟩:=e;match args with
   |[]=>simp[Cp]
   |[x]=>
    have u:=j x k!;cases b<;>simp only[Cp];match e with
    |[]=>rfl
    |[t]=>simp only;exact ADI u
    |_::_::_=>rfl
   |[x,y]=>cases b<;>simp[Cp]
   |[x,y,z]=>cases b<;>simp[Cp]
   |_::_::_::_::_=>cases b<;>rfl
 |_=>simp only[Cp]
def Xz{v:Af}(e:Cp P g H o.op=D v):Z9 P N o g H (ABK g o.op) v:=by intro a b c d;refine D5 (v:=v) ?_ ⟨rfl,rfl⟩;rw[w6 (gv c),ABI d];exact e
end
end Go.Ab
