/- Texts of wip, joined and shortened by wip/tools/pack.py; nothing is assumed. -/
import Derived.Calls
import Derived.Below
import Derived.RangeFuncRecord
import Derived.OrdersIn
import Derived.Lib.FrozenHead
import Derived.Orders
import Derived.Laws.Cells
import Derived.Laws.Entries
import Derived.Laws.StructEq
import Derived.ChangeKeysEq
import Derived.Laws.BytesString
import Derived.Laws.Tables
import Derived.Great.FillDense
import Derived.Great.BuildSlice
namespace Go
theorem n!{A B:Prop}(h:¬A:=by decide):A->B:=λa=>absurd a h
theorem o!{P:Prop}(h:P:=by omega):P:=h
theorem d!{P:Prop}(h:P:=by dsimp only;omega):P:=h
theorem g!{P:Prop}(h:P:=by decide):P:=h
theorem k!{P:Prop}(h:P:=by grind):P:=h
theorem q!{P:Prop}(h:P:=by simp):P:=h
theorem w!{P:Prop}(h:P:=by simp;omega):P:=h
theorem v!{P:Prop}(h:P:=by assumption):P:=h
theorem u!{P:Prop}(h:P:=by dsimp only;decide):P:=h
theorem t!{P:Prop}(h:P:=by simp_all):P:=h
end Go
noncomputable section
set_option linter.all false
open Option renaming some->Z
open List renaming length->U
open Bool renaming false->Y
open Bool renaming true->V
open Option renaming none->W
open Option renaming some->δ,none->ε
open Bool renaming true->ζ,false->η
open List renaming length->θ,replicate->ς
open BitVec renaming ofInt->κ
open Decidable renaming decide->τ
namespace Go
abbrev Ω.{u}(a:Type u):=Option a
abbrev Ψ.{u}(a:Type u):=List a
def A!:=@cond_false
def B!:=@cond_true
def C!:=@if_pos
theorem n?{α:Type _}{a b:List α}:(a++b).length=a.length+b.length:=List.length_append
theorem m?{α:Type _}{l:List α}{i:Nat}(h:i<l.length):l[i]? =some l[i]:=List.getElem?_eq_getElem h
theorem p?{α β:Type _}{a:α}{f:α->Option β}:(some a).bind f=f a:=rfl
theorem t?{α:Type _}(a b c:List α):a++b++c=a++(b++c):=List.append_assoc a b c
theorem u?{α:Type _}{l:List α}{i:Nat}(h:l.length<=i):l[i]? =none:=List.getElem?_eq_none h
theorem r?{α:Type _}{i:Nat}{l:List α}:(l.take i).length=min i l.length:=List.length_take
theorem s?(n:Nat):(n:Int).toNat=n:=Int.toNat_natCast n
theorem a!{α:Type _}{a b:α}:a∈[b]<->a=b:=List.mem_singleton
def D!:=@if_neg
def E!:=@congrArg
def F!:=@decide_eq_false
def G!:=@decide_eq_true
def H!:=@bne_self_eq_false
def I!:=@beq_eq_false_iff_ne
def J!:=@beq_iff_eq
def K!:=@decide_eq_true_eq
def L!:=@beq_self_eq_true
def M!:=@of_decide_eq_true
theorem N!{a b:Prop}(h:a)(k: ¬a):b:=absurd h k
theorem O!:True:=trivial
def tQ:=@Array.eq_empty_of_size_eq_zero
def oI:=@Array.extract_size
def Qt:=@Array.getD_eq_getD_getElem?
def Ye:=@Array.getElem?_append_left
def tV:=@Array.getElem?_append_right
def N5:=@Array.getElem?_eq_getElem
def tW:=@Array.getElem?_eq_none
def yv:=@Array.getElem?_eq_none_iff
def cO:=@Array.getElem?_eq_some_iff
def cP:=@Array.getElem?_map
def cJ:=@Array.getElem?_modify
def To:=@Array.getElem?_push
def vz:=@Array.getElem?_setIfInBounds_ne
def Pz:=@Array.getElem?_toList
def D2:=@Array.length_toList
def wA:=@Array.mem_of_getElem?
def pV:=@Array.size_setIfInBounds
def pW:=@BitVec.eq_of_getLsbD_eq
def cK:=@BitVec.ofInt_natCast
def cL:=@BitVec.toNat_ofNat
def lG:=@BitVec.xor_assoc
def cM:=@BitVec.xor_self
def lH:=@BitVec.zero_xor
def wB:=@Bool.and_eq_false_iff
def BV:=@Bool.and_eq_true
def YH:=@Bool.and_self
def RQ:=@Bool.and_true
def pX:=@Bool.false_and
def RR:=@Bool.false_eq_true
def WH:=@Bool.not_eq_true'
def B9:=@Bool.not_true
def P0:=@Bool.or_eq_true
def YI:=@Bool.true_and
def Tp:=@Decidable.byContradiction
def YJ:=@Iff.rfl
def Ef:=@Int.eq_ofNat_of_zero_le
def lI:=@Int.fdiv_eq_ediv_of_nonneg
def Ae:=@Int.le_refl
def YK:=@Int.le_trans
def lJ:=@Int.lt_or_le
def pY:=@Int.mul_ediv_add_emod
def pZ:=@Int.tmod_lt_of_pos
def pd:=@Int.tmod_nonneg
def CA:=@s?
def Ih:=@Int.toNat_of_nonneg
def lK:=@Int.toNat_zero
def pe:=@List.Pairwise.imp_of_mem
def pj:=@List.Perm.eq_of_pairwise
def lL:=@List.Perm.refl
def pk:=@List.all_cons
def GN:=@List.all_eq_true
def pn:=@List.all_nil
def po:=@List.any_eq_true
def A6:=@t?
def pp:=@List.append_eq_append_iff
def Eg:=@List.append_inj
def Do:=@List.append_nil
def ET:=@List.cons_append
def YL:=@List.drop_append
def lM:=@List.drop_append_of_le_length
def J5:=@List.drop_drop
def Tq:=@List.drop_eq_getElem_cons
def lO:=@List.drop_eq_nil_of_le
def RS:=@List.drop_left
def pq:=@List.drop_left'
def WI:=@List.drop_of_length_le
def pr:=@List.drop_sublist
def WJ:=@List.drop_zero
def Eh:=@List.eq_nil_of_length_eq_zero
def JR:=@List.ext_getElem?
def wC:=@List.extract_eq_take_drop
def wD:=@List.filterMap_append
def GO:=@List.filter_append
def Mb:=@List.filter_cons
def wE:=@List.filter_cons_of_neg
def wF:=@List.filter_cons_of_pos
def lP:=@List.filter_nil
def WK:=@List.filter_sublist
def YM:=@List.flatMap_append
def JS:=@List.flatMap_cons
def pu:=@List.flatMap_nil
def pw:=@List.flatten_cons
def YN:=@List.foldl_append
def YO:=@List.foldl_cons
def N6:=@List.getD_eq_getElem?_getD
def CW:=@List.getElem?_append_left
def Cl:=@List.getElem?_append_right
def lQ:=@List.getElem?_cons_succ
def cN:=@List.getElem?_cons_zero
def J6:=@List.getElem?_drop
def As:=@m?
def Cq:=@u?
def EU:=@List.getElem?_eq_some_iff
def px:=@List.getElem?_inj
def CR:=@List.getElem?_map
def C2:=@List.getElem?_of_mem
def RT:=@List.getElem?_range
def Tr:=@List.getElem?_set
def Db:=@List.getElem?_set_ne
def Hq:=@List.getElem?_set_self
def YY:=@List.getElem?_take
def IJ:=@List.getElem?_take_of_lt
def fG:=@List.getElem?_toArray
def tR:=@List.getElem?_zip_eq_some
def GW:=@List.getElem_mem
def mw:=@List.getElem_take
def Ac:=@n?
def BY:=@List.length_cons
def DB:=@List.length_drop
def tS:=@List.length_eq_zero_iff
def EM:=@List.length_filter_le
def BW:=@List.length_map
def Bj:=@List.length_nil
def Hh:=@List.length_replicate
def Oy:=@List.length_set
def WA:=@List.length_singleton
def BQ:=@r?
def fH:=@List.length_take_le
def LD:=@List.map_append
def M9:=@List.map_congr_left
def CQ:=@List.map_cons
def my:=@List.map_drop
def fJ:=@List.map_id
def Oz:=@List.map_map
def Hi:=@List.map_nil
def Qn:=@List.map_toArray
def Am:=@List.mem_append
def G2:=@List.mem_append_left
def NA:=@List.mem_append_right
def Aw:=@List.mem_cons
def Ch:=@List.mem_cons_of_mem
def KW:=@List.mem_cons_self
def BS:=@List.mem_filter
def O0:=@List.mem_filterMap
def GX:=@List.mem_flatMap
def WB:=@List.mem_iff_getElem
def Et:=@List.mem_iff_getElem?
def Bn:=@List.mem_map
def WC:=@List.mem_map_of_mem
def BN:=@List.mem_of_getElem?
def TO:=@List.mem_of_mem_drop
def GY:=@List.mem_of_mem_take
def Qo:=@List.mem_or_eq_of_mem_set
def IK:=@List.mem_range
def A9:=@a!
def tT:=@List.mem_zipIdx_iff_getElem?
def CG:=@List.nil_append
def Qp:=@List.nodup_append
def G3:=@List.nodup_cons
def IL:=@List.nodup_iff_pairwise_ne
def Qq:=@List.nodup_nil
def Ed:=@List.pairwise_iff_getElem
def TQ:=@List.pairwise_map
def mz:=@List.perm_ext_iff_of_nodup
def nA:=@List.replicate_succ
def TR:=@List.set_append_right
def YZ:=@List.set_set
def tU:=@List.singleton_append
def fK:=@List.size_toArray
def Cr:=@List.take_add_one
def fL:=@List.take_append
def DY:=@List.take_append_drop
def WD:=@List.take_append_of_le_length
def Ya:=@List.take_left
def G4:=@List.take_left'
def Hj:=@List.take_length
def BO:=@List.take_of_length_le
def nB:=@List.take_sublist
def KX:=@List.take_take
def fM:=@List.zip_append
def WE:=@Nat.add_assoc
def Yb:=@Nat.add_comm
def fN:=@Nat.add_le_add_left
def EB:=@Nat.add_mul
def nC:=@Nat.add_sub_cancel
def TS:=@Nat.add_sub_cancel_left
def O1:=@Nat.add_zero
def Hk:=@Nat.beq_refl
def DD:=@Nat.eq_of_beq_eq_true
def WF:=@Nat.eq_zero_or_pos
def O2:=@Nat.le_of_ble_eq_true
def Al:=@Nat.le_refl
def CK:=@Nat.le_trans
def DE:=@Nat.lt_of_lt_of_le
def Ay:=@Nat.lt_or_ge
def nD:=@Nat.lt_succ_self
def Qr:=@Nat.lt_trichotomy
def Qs:=@Nat.min_eq_left
def TT:=@Nat.mod_eq_of_lt
def Yc:=@Nat.mod_lt
def nE:=@Nat.mul_le_mul
def NB:=@Nat.mul_le_mul_right
def Bo:=@Nat.ne_of_lt
def fO:=@Nat.pow_le_pow_right
def G5:=@Nat.sub_self
def WG:=@Nat.sub_zero
def DZ:=@Nat.zero_add
def BR:=@Nat.zero_le
def Yd:=@Nat.zero_mul
def O3:=@Ne.symm
def Dn:=@Option.bind_eq_some_iff
def AD:=@p?
def nF:=@Option.getD_some
def fP:=@Option.isSome_iff_exists
def TU:=@Option.map_eq_some_iff
def nG:=@Option.map_none
def Bs:=@Option.map_some
def Ba:=@Option.some.inj
def Ao:=@Option.some.injEq
def nH:=@Option.toList_some
def Da:=@Prod.ext
def Ee:=@Prod.mk.injEq
def nI:=@Sum.elim_inr
def fQ:=@UInt8.toNat_ofNat'
end Go
namespace Go.Ab
inductive Ad where
 |bool (b:Bool)
 |int (k:IntKind) (n:Int)
 |str (s:List UInt8)
 |nilp
 |ptr (id g off:Nat)
 |vptr (cs:List Ad)
 |nils
 |vs (sz:Nat) (rows:List Ad)
 |sl (id g sz off len:Nat)
 |fn (f:Fn) (first caps:List Ad)
 |yf (id:Nat)
 |mp (id:Nat)
 |itp (id m:Nat)
 |nilf
 |agg (cs:List Ad)
 |tup (vs:List Ad)
 |any
 deriving Inhabited
def Ad.cells:Ad->Ψ Ad
 |.agg cs=>cs
 |v=>[v]
structure Cx where
 w:World
 n:Nat
 io:Nat->Option Nat
 gen:Nat->Nat
 cap:Nat->Nat
 O:Nat->Prop
inductive Bw(x:Cx):Ad->Value->Prop where
 |bool (b:Bool):Bw x (.bool b) (.bool b)
 |int (k:IntKind) (n:Int):Bw x (.int k n) (.int k n)
 |str {s:List UInt8} (t:ByteArray) (h:t.data.toList=s):Bw x (.str s) (.string t)
 |nilp:Bw x .nilp (.pointer W)
 |ptr {id g off:Nat}{c:Value} (hid:id<x.n) (hg:g≤x.gen id) (h1:c.oneCell'=V)
   (hc:x.gen id=g->∃B,x.io id=Z B/\c=.pointer (Z ⟨B,off,W⟩)):Bw x (.ptr id g off) c
 |vptr {cs:List Ad}{B off:Nat} (f:Nat→Value) (hO:¬x.O B) (hB:B<x.w.heap.size)
   (hc:∀(j:Nat)(v:Ad),cs[j]?=Z v->x.w.cell? ⟨B,off+j,W⟩=Z (f j)/\(f j).oneCell'=V)
   (hv:∀(j:Nat)(v:Ad),cs[j]?=Z v->Bw x v (f j)):Bw x (.vptr cs) (.pointer (Z ⟨B,off,W⟩))
 |nils:Bw x .nils (.slice W 0 0)
 |vs {sz:Nat}{rows:List Ad}{a:Option Addr}{cap:Nat} (f:Nat→Nat→Value) (hcap:U rows≤cap) (hsz:0<sz)
   (hrow:∀(j:Nat)(e:Ad),rows[j]?=Z e->U e.cells=sz)
   (ha:rows≠ []->∃B off,a=Z ⟨B,off,W⟩/\¬x.O B/\B<x.w.heap.size/\
    ∀(j:Nat)(e:Ad)(i:Nat)(v:Ad),rows[j]?=Z e->e.cells[i]?=Z v->x.w.cell? ⟨B,off+(j*sz+i),W⟩=Z (f j i)/\(f j i).oneCell'=V)
   (hv:∀(j:Nat)(e:Ad)(i:Nat)(v:Ad),rows[j]?=Z e->e.cells[i]?=Z v->Bw x v (f j i)):Bw x (.vs sz rows) (.slice a (U rows) cap)
 |sl {id g sz off len:Nat}{c:Value} (hid:id<x.n) (hg:g≤x.gen id) (h1:∃a cap,c=.slice a len cap)
   (hc:x.gen id=g->(x.io id=W/\len=0/\off=0/\c=.slice W 0 0)\/
    ∃B cap,x.io id=Z B/\len<=cap/\off+cap*sz<=x.cap id/\c=.slice (Z ⟨B,off,W⟩) len cap):Bw x (.sl id g sz off len) c
 |fn {f:Fn}{first caps:List Ad}{first' caps':Array Value} (h1:first'.size=U first) (h2:caps'.size=U caps)
   (hv1:∀(j:Nat)(v:Ad)(c:Value),first[j]?=Z v->first'[j]?=Z c->Bw x v c) (hv2:∀(j:Nat)(v:Ad)(c:Value),caps[j]?=Z v->caps'[j]?=Z c->Bw x v c):
   Bw x (.fn f first caps) (.func f first' caps')
 |yf {id:Nat}{c:Value} (hid:id<x.n) (h1:c.oneCell'=V) (hc:x.gen id=0->∃B,x.io id=Z B/\c=.func (.yield B) #[] #[]):Bw x (.yf id) c
 |mp {id:Nat}{c:Value} (hid:id<x.n) (h1:c.oneCell'=V) (hc:x.gen id=0->∃B,x.io id=Z B/\c=.map (Z B)):Bw x (.mp id) c
 |itp {id m:Nat}{c:Value} (hid:id<x.n) (hm:m<x.n) (h1:c.oneCell'=V) (hc:x.gen id=0->∃B,x.io id=Z B/\c=.pointer (Z ⟨B,0,W⟩)/\(x.gen m=0->x.io m=Z (x.cap id))):Bw x (.itp id m) c
 |nilf:Bw x .nilf .nilFunc
 |agg {cs:List Ad}{cs':Array Value} (h:cs'.size=U cs) (h1:∀(j:Nat)(c:Value),cs'[j]?=Z c→c.oneCell'=V)
   (hv:∀(j:Nat)(v:Ad)(c:Value),cs[j]?=Z v->cs'[j]?=Z c->Bw x v c):Bw x (.agg cs) (.agg cs')
 |tup {vs:List Ad}{vs':Array Value} (h:vs'.size=U vs)
   (hv:∀(j:Nat)(v:Ad)(c:Value),vs[j]?=Z v->vs'[j]?=Z c->Bw x v c):Bw x (.tup vs) (.tuple vs')
 |any (c:Value):Bw x .any c
structure Cx.Later(x y:Cx):Prop where
 size:x.w.heap.size<=y.w.heap.size
 keep:∀B,B<x.w.heap.size->¬x.O B->∀off,y.w.cell? ⟨B,off,W⟩=x.w.cell? ⟨B,off,W⟩
 own:∀B,B<x.w.heap.size->y.O B->x.O B
 n:x.n<=y.n
 gen:∀id,id<x.n->x.gen id<=y.gen id
 same:∀id,id<x.n->y.gen id=x.gen id->y.io id=x.io id/\y.cap id=x.cap id
variable {N t:Nat}{a J:TypeId}{w A:World}{b B:Value}{P:Program}{c:Nat→Prop}{d:Ψ Ad}{e p G:Ad}{f:Cx}{i:Array Value}{j:Act}{k L:Operand}{l:Ω (Ψ Deferred)}{o:Oper}{n:Code}{X:Nat->Prop}{q:TypeInfo}{r:Ψ Nat}{s:Bool}{v:Ω Nat}{x:Ψ Value}{y:Nat×Nat}{z:Nat->Nat}{D:IntKind}{E:FuncId}{F:BinOp}{I:Func}{M:Obj}
theorem mY(h:A.heap[N]?=w.heap[N]?)(a:Nat):A.cell? ⟨N,a,W⟩=w.cell? ⟨N,a,W⟩:=by grind[World.cell?]
theorem Bw.later{x y:Cx}(h:x.Later y)(r:Bw x e b):Bw y e b:=by
 induction r with
 |bool v=>exact .bool v
 |int k n=>exact .int k n
 |str t J=>exact .str t J
 |nilp=>exact .nilp
 |ptr a w d m=>refine .ptr (DE a h.n) (CK w (h.gen _ a)) d λc=>?_;have d:=h.gen _ a;have l:=h.same _ a o!;grind
 |vptr f q g m K p=>refine .vptr f (λo=>q (h.own _ g o)) (DE g h.size) (λj e H=>?_) p;rw[h.keep _ g q];grind
 |nils=>exact .nils
 |vs f s C u G K p=>refine .vs f s C u (λA=>?_) p;obtain⟨B,F,c,q,g,m⟩:=G A;refine⟨B,F,c,(λo=>q (h.own _ g o)),DE g h.size,λj c i e H N=>?_⟩;rw[h.keep _ g q];grind
 |sl a w d m=>refine .sl (DE a h.n) (CK w (h.gen _ a)) d λc=>?_;have d:=h.gen _ a;have l:=h.same _ a o!;grind
 |fn d l _ _ D E=>exact .fn d l D E
 |yf a d m=>refine .yf (DE a h.n) d λc=>?_;have d:=h.gen _ a;have l:=h.same _ a o!;grind
 |mp a d m=>refine .mp (DE a h.n) d λc=>?_;have d:=h.gen _ a;have l:=h.same _ a o!;grind
 |itp a z d m=>refine .itp (DE a h.n) (DE z h.n) d λc=>?_;have d:=h.gen _ a;have l:=h.same _ a o!;obtain⟨B,g,I,O⟩:=m o!;refine⟨B,l.1.trans g,I,λc=>?_⟩;have L:=h.gen _ z;have M:=h.same _ z o!;grind
 |nilf=>exact .nilf
 |agg h d _ p=>exact .agg h d p
 |tup h _ p=>exact .tup h p
 |any b=>exact .any b
abbrev Env:=Ψ (Nat×Ad)
structure mU where
 n:Nat
 env:Env
 params:Array Tmp
 assign:Code
 body:Code
 state:LoopState
 pending:Option Code
inductive Fx where
 |dead
 |live (g:Nat) (cells:List Ad)
 |lp (L:mU)
 |mp (k:IntKind) (es:List (Int×Ad))
 |it (n:Nat) (seen:List Nat)
 deriving Inhabited
def Fx.isB:Fx->Bool
 |.mp _ _=>V
 |.it _ _=>V
 |_=>Y
abbrev Au:=Ψ Fx
structure Gh where
 io:Nat->Option Nat
 gen:Nat->Nat
 cap:Nat->Nat
def owned(h:Gh)(H:Au)(B:Nat):Prop:=∃id e,H[id]?=Z e/\e≠Fx.dead/\h.io id=Z B
def cx(X:Nat->Prop)(h:Gh)(H:Au)(w:World):Cx:=⟨w,U H,h.io,h.gen,h.cap,λB=>X B\/owned h H B⟩
def ABj(x:Cx)(id g:Nat)(cs:Ψ Ad):Prop:=
 x.gen id=g/\((x.io id=W/\cs=[])\/∃(B:Nat)(arr:Array Value)(T:TypeId)(fz:Nat×Nat)(f:Nat->Value),x.io id=Z B/\x.w.heap[B]?=Z (.cells arr T fz)/\arr.size=x.cap id/\
  U cs<=arr.size/\(∀i,i<arr.size->(τ (fz.1<=i)&&τ (i<fz.2))=Y)/\
  ∀(j:Nat)(v:Ad),cs[j]?=Z v->arr[j]?=Z (f j)/\(f j).oneCell'=V/\Bw x v (f j))
def xR(x:Cx)(id:Nat)(L:mU):Prop:=
 x.gen id=0/\∃(B:Nat)(r:Loop),x.io id=Z B/\x.w.heap[B]?=Z (.loop r)/\r.state=L.state/\r.pending=L.pending/\r.params=L.params/\r.assign=L.assign/\r.body=L.body/\r.tmps.size=L.n/\
  ∀t v,(t,v)∈L.env->t<L.n/\Bw x v (r.tmps.getD t undef)
def BAt(h:Gh)(w:World)(id:Nat):Fx->Prop
 |.mp k es=>∃(B:Nat)(arr:Array MapEntry),h.io id=Z B∧h.gen id=0∧w.heap[B]?=Z (.map arr arr.size)∧arr.size=U es∧
   ∀(j:Nat)(p:Int×Ad),es[j]?=Z p->∃e:MapEntry,arr[j]?=Z e/\e.born=j/\e.key=.int k p.1/\∀x,Bw x p.2 e.val
 |.it n seen=>∃B,h.io id=Z B/\h.gen id=0/\w.heap[B]?=Z (.mapIter (Z (h.cap id)) n seen.toArray n)
 |_=>True
structure JP(X:Nat->Prop)(h:Gh)(H:Au)(w:World):Prop where
 out:∀B,X B->B<w.heap.size/\¬owned h H B
 live:∀(id g:Nat)(cs:List Ad),H[id]?=Z (Fx.live g cs)->ABj (cx X h H w) id g cs
 lp:∀(id:Nat)(L:mU),H[id]?=Z (Fx.lp L)->xR (cx X h H w) id L
 inj:∀(id id':Nat)(e e':Fx)(B:Nat),H[id]?=Z e->H[id']?=Z e'->e≠.dead->e'≠.dead->h.io id=Z B->h.io id'=Z B->id=id'
 bld:∀(id:Nat)(e:Fx),H[id]?=Z e->e.isB=V->BAt h w id e
variable {H R:Au}{h O:Gh}{g:Env}{m:Fx}{K:Ad->Au->Prop}{u:Ad→Au→Prop}
def JP.bldKeep(s:JP c h H w)
  (key: ∀(id:Nat) (e:Fx),R[id]? =some e->e.isB=true->H[id]? =some e/\O.io id=h.io id/\O.gen id=h.gen id/\O.cap id=h.cap id/\ ∀B (o:Obj),h.io id=some B->w.heap[B]? =some o->(∀z,o≠ .deferred z)->A.heap[B]? =w.heap[B]?):
  ∀(id:Nat) (e:Fx),R[id]? =some e->e.isB=true->BAt O A id e:=by
 intro id e v q;obtain⟨m,g,a,f,r⟩:=key id e v q;have b:=s.bld id e m q;cases e with
 |mp k x=>obtain⟨B,j,X,l,d,u⟩:=b;exact⟨B,j,g.trans X,a.trans l,(r B _ X d (λz=>q!)).trans d,u⟩
 |it n seen=>obtain⟨B,X,l,d⟩:=b;exact⟨B,g.trans X,a.trans l,by rw[f];exact(r B _ X d (λz=>q!)).trans d⟩
 |_=>trivial
def Oo(x:Cx)(env:Env)(a:Act):Prop:=∀t v,(t,v)∈env->t<a.tmps.size/\Bw x v (a.tmps.getD t undef)
structure St(X:Nat->Prop)(h:Gh)(N:Nat)(env:Env)(H:Au)(a:Act)(w:World):Prop where
 sim:JP X h H w
 env:Oo (cx X h H w) env a
 size:a.tmps.size=N
structure HN(h:Gh)(H:Au)(w:World)(h':Gh)(H':Au)(w':World):Prop where
 os:w'.os=w.os
 tape:w'.tape=w.tape
 output:w'.output=w.output
 size:w.heap.size<=w'.heap.size
 keep:∀B,B<w.heap.size->¬owned h H B->w'.heap[B]?=w.heap[B]?
 n:U H<=U H'
 gen:∀id,id<U H->h.gen id<=h'.gen id
 same:∀id,id<U H->h'.gen id=h.gen id->h'.io id=h.io id/\h'.cap id=h.cap id
 fresh:∀B,owned h' H' B->owned h H B\/w.heap.size<=B
 loops:∀(B:Nat)(r:Loop),w.heap[B]?=Z (.loop r)->∃r':Loop,w'.heap[B]?=Z (.loop r')
def HN.refl(h:Gh)(H:Au)(w:World):HN h H w h H w:=⟨rfl,rfl,rfl,Al _,λ_ _ _=>rfl,Al _,λ_ _=>Al _,λ_ _ _=>⟨rfl,rfl⟩,λ_ h=>.inl h,λ_ r h=>⟨r,h⟩⟩
theorem HN.trans{c j k}{f g i}{l m o}(a:HN c f l j g m)(b:HN j g m k i o):HN c f l k i o where
 os:=b.os.trans a.os
 tape:=b.tape.trans a.tape
 output:=b.output.trans a.output
 size:=CK a.size b.size
 keep B hB hn:=(b.keep B (DE hB a.size) λd=>by rcases a.fresh B d with h|h;grind;omega).trans (a.keep B hB hn)
 n:=CK a.n b.n
 gen id hid:=CK (a.gen id hid) (b.gen id (DE hid a.n))
 same id hid e:=by have q:=a.gen id hid;have s:=b.gen id (DE hid a.n);have u:=a.same id hid o!;have v:=b.same id (DE hid a.n) o!;grind
 fresh B d:=by rcases b.fresh B d with h|h;exact a.fresh B h;exact .inr (CK a.size h)
 loops B r h:=by obtain⟨p,c⟩:=a.loops B r h;exact b.loops B p c
def HN.later{h c}{H b}{w d}(e:HN h H w c b d)(X:Nat->Prop):(cx X h H w).Later (cx X c b d)where
 size:=e.size
 keep B hB hO off:=mY (e.keep B hB λa=>hO (.inr a)) off
 own B hB a:=by rcases a with a|a;exact .inl a;rcases e.fresh B a with h|h;exact .inr h;simp only[cx]at hB;omega
 n:=e.n
 gen:=e.gen
 same:=e.same
def Oo.later{x y:Cx}(l:x.Later y)(h:Oo x g j):Oo y g j:=λt v m=>⟨(h t v m).1,(h t v m).2.later l⟩
def Ei(P:Program)(F:FuncId)(args:Ψ Ad)(H:Au)(Q:Ad->Au->Prop):Prop:=
 ∀(X:Nat->Prop)(h:Gh)(w:World)(cargs:Array Value),JP X h H w->cargs.size=U args->
  (∀(j:Nat)(v:Ad)(c:Value),args[j]?=Z v->cargs[j]?=Z c->Bw (cx X h H w) v c)->
  Calls P F cargs w λe w'=>∃c v h' H',e=.returned c/\Q v H'/\JP X h' H' w'/\Bw (cx X h' H' w') v c/\HN h H w h' H' w'
def FR(r:Ω Nat):Fence:={Fence.wide with round:=r}
def V8(a:Act)(w:World)(a':Act)(w':World):Prop:=
 ∃ds,a'.defers=ds++a.defers/\ds.Nodup/\∀d∈ds,∃D,d={target:=.collected D,args:= #[]}/\w.heap.size<=D/\w'.heap[D]?=Z (.deferred (Z []))
def Z4(r:Ω Nat)(w:World):Prop:=∀l,r=Z l->∃x:Loop,w.heap[l]?=Z (.loop x)
def V8.same{b:Act}{w c}(h:b.defers=j.defers):V8 j w b c:=⟨[],by simp[h],.nil,λ_ h=>by cases h⟩
def JP.deferred(s:JP X h H w)(j:w.heap[N]?=Z (.deferred l)):¬owned h H N:=by
 rintro⟨id,e,D,o,b⟩;cases e with
 |dead=>exact o rfl
 |live g p=>rcases(s.live id g p D).2 with⟨hn,_⟩|⟨B,m,T,t,f,a,i,_⟩;rw[show(cx X h H w).io id=h.io id from rfl,b]at hn;cases hn;rw[show(cx X h H w).io id=h.io id from rfl,b]at a;injection a with e;subst e;rw[show(cx X h H w).w.heap=w.heap from rfl,j]at i;cases i
 |lp L=>obtain⟨_,B,r,a,i,_⟩:=s.lp id L D;rw[show(cx X h H w).io id=h.io id from rfl,b]at a;injection a with e;subst e;rw[show(cx X h H w).w.heap=w.heap from rfl,j]at i;cases i
 |mp k q=>obtain⟨B,m,c,_,d,_⟩:=s.bld id _ D rfl;rw[b]at c;injection c with e;subst e;rw[j]at d;cases d
 |it n seen=>obtain⟨B,c,_,d⟩:=s.bld id _ D rfl;rw[b]at c;injection c with e;subst e;rw[j]at d;cases d
theorem sh(h:w.heap[N]?=Z M):N<w.heap.size:=k!
def HN.defs(x:HN h H w O R A)(s:JP X h H w)(a:w.heap[N]?=Z (.deferred l)):A.heap[N]?=Z (.deferred l):=(x.keep N (sh a) (s.deferred a)).trans a
theorem V8.trans{X:Nat->Prop}{h j b}{H f n}{a a1 a2}{w e m}(o:V8 a w a1 e)(s:JP X j f e)(z:HN h H w j f e)(x:HN j f e b n m)(p:V8 a1 e a2 m):V8 a w a2 m:=by obtain⟨g,B,t,v⟩:=o;obtain⟨i,C,u,y⟩:=p;refine⟨i++g,k!,Qp.2 ⟨u,t,λd r A q E=>?_⟩,λd c=>?_⟩;grind;rcases Am.1 c with c|c;obtain⟨D,k,b,l⟩:=y d c;exact⟨D,k,CK z.size b,l⟩;obtain⟨D,k,b,l⟩:=v d c;exact⟨D,k,b,x.defs s l⟩
def Z4.later{h c}{H b}{w a}(k:Z4 v w)(x:HN h H w c b a):Z4 v a:=λl e=>by obtain⟨y,d⟩:=k l e;exact x.loops l y d
def J1(P:Program)(N:Nat)(c:Code)(env:Env)(H:Au)(Q:Exit->Env->Au->Prop):Prop:=
 ∀(r:Ω Nat)(X:Nat->Prop)(h:Gh)(a:Act)(w:World),St X h N env H a w->Z4 r w->
  c.wpIn (FR r) 0 P (λe a' w'=>∃h' env' H',Q e env' H'/\St X h' N env' H' a' w'/\HN h H w h' H' w'/\V8 a w a' w') a w
def Ei.mono{P}{F}{H}{Q:Ad->Au->Prop}(h:Ei P F d H K)(i:∀v b,K v b->Q v b):Ei P F d H Q:=λX g w a s j hr=>(h X g w a s j hr).mono λ_ _ ⟨c,v,f,b,e,q,r⟩=>⟨c,v,f,b,e,i _ _ q,r⟩
def J1.mono{P}{N}{H}{Q f:Exit->Env->Au->Prop}(h:J1 P N n g H Q)(j:∀e b d,Q e b d->f e b d):J1 P N n g H f:=λr X c a w s k=>wpIn_mono (h r X c a w s k) λ_ _ _ ⟨i,b,d,q,r⟩=>⟨i,b,d,j _ _ _ q,r⟩
def fC(K:Env->Au->Prop)(Q:Exit->Env->Au->Prop):Exit->Env->Au->Prop
 |.normal,env,H=>K env H
 |e,env,H=>Q e env H
def qA(id:Nat)(Q:Exit->Env->Au->Prop):Exit->Env->Au->Prop
 |.exit id',env,H=>if id'=id then Q .normal env H else Q (.exit id') env H
 |e,env,H=>Q e env H
section rules
variable {P:Program}{N:Nat}{env:Env}{H:Au}{Q:Exit->Env->Au->Prop}
def J1.skip(h:Q .normal env H):J1 P N .skip env H Q:=λ_ _ _ _ _ s _=>wpIn_skip ⟨_,_,_,h,s,HN.refl _ _ _,.same rfl⟩
def J1.ret(h:Q .ret env H):J1 P N .ret env H Q:=λ_ _ _ _ _ s _=>wpIn_ret ⟨_,_,_,h,s,HN.refl _ _ _,.same rfl⟩
def J1.exit(h:Q (.exit t) env H):J1 P N (.exit t) env H Q:=λ_ _ _ _ _ s _=>wpIn_exit ⟨_,_,_,h,s,HN.refl _ _ _,.same rfl⟩
def J1.seq{x y}(h:J1 P N x env H (fC (λb d=>J1 P N y b d Q) Q)):J1 P N (.seq x y) env H Q:=by
 intro r X g a w s k;refine wpIn_seq (wpIn_mono (h r X g a w s k) ?_);rintro e n u ⟨j,b,d,q,f,c,i⟩;cases e with
 |normal=>apply wpIn_mono (q r X j n u f (k.later c));rintro e a2 v ⟨p,env2,m,q2,t,l,o⟩;exact⟨p,env2,m,q2,t,c.trans l,i.trans f.sim c l o⟩
 |_=>exact⟨j,b,d,q,f,c,i⟩
theorem J1.block{id}(h:J1 P N n env H (qA id Q)):J1 P N (.block id n) env H Q:=by intro r X g a w s k;refine wpIn_block (wpIn_mono (h r X g a w s k) ?_);rintro e f j ⟨i,b,d,q,r⟩;cases e<;>grind[qA,Exit.inBlock]
def Fb(N n0:Nat)(env:Env)(H:Au)(env2:Env)(H2:Au):Prop:=
 n0<=U H2/\∀(X:Nat->Prop)(h:Gh)(a:Act)(w:World),St X h N env H a w->
  ∃h2,St X h2 N env2 H2 a w/\(∀id,id<n0->h2.gen id=h.gen id/\h2.io id=h.io id/\h2.cap id=h.cap id)/\∀B,owned h2 H2 B->owned h H B
def Fb.ext{d:Gh}{f:Au}(hn:U f=N)(o:N≤U R)
  (k:∀id,id<N->d.gen id=h.gen id/\d.io id=h.io id/\d.cap id=h.cap id) (m:∀B,owned d R B->owned h H B) (x:HN O f A h H w):HN O f A d R w where
 os:=x.os
 tape:=x.tape
 output:=x.output
 size:=x.size
 keep:=x.keep
 n:=o!
 gen id hid:=by rw[(k id o!).1];exact x.gen id hid
 same id hid e:=by obtain⟨a,b,c⟩:=k id o!;rw[a]at e;rw[b,c];exact x.same id hid e
 fresh B hB:=x.fresh B (m B hB)
 loops:=x.loops
theorem Fb.refl(N:Nat)(env:Env)(H:Au):Fb N (U H) env H env H:=⟨Al _,λ_ h _ _ s=>⟨h,s,λ_ _=>⟨rfl,rfl,rfl⟩,λ_ h=>h⟩⟩
def J1.weak(f:Fb N (U H) env H g R)(h:J1 P N n g R Q):J1 P N n env H Q:=by intro r X c a w s k;obtain⟨m,t,d,o⟩:=f.2 X c a w s;apply wpIn_mono (h r X m a w t k);rintro e v x ⟨l,b,i,q,p,u,j⟩;exact⟨l,b,i,q,p,(Fb.ext rfl f.1 d o (HN.refl c H w)).trans u,j⟩
end rules
def Env.get:Env->Nat->Ad
 |[],_=>.any
 |(k,v)::r,t=>if k=t then v else Env.get r t
def Env.put(env:Env)(t:Nat)(v:Ad):Env:=(t,v)::env.filter λp=>decide (p.1≠t)
def Env.putO(env:Env):Ω Nat->Ad->Env
 |some t,v=>env.put t v
 |none,_=>env
theorem N9{env}{t}:Env.get env t=.any\/(t,Env.get env t)∈env:=by induction env<;>grind[Env.get]
def rP:Value->Ad
 |.bool b=>.bool b
 |.int k n=>.int k n
 |.string s=>.str s.data.toList
 |.pointer W=>.nilp
 |.slice W 0 0=>.nils
 |.nilFunc=>.nilf
 |_=>.any
def AC2:Value->Ad
 |.agg cs=>if cs.toList.all (·.oneCell')then .agg (cs.toList.map rP)else .any
 |v=>rP v
theorem qK(x:Cx)(v:Value):Bw x (rP v) v:=by unfold rP;split;exact .bool _;exact .int _ _;exact .str _ rfl;exact .nilp;exact .nils;exact .nilf;exact .any _
theorem zI(x:Cx)(v:Value):Bw x (AC2 v) v:=by unfold AC2;split;rename_i b;split;rename_i h;refine .agg q! (λj c a=>?_) λj v c a d=>?_;grind;grind[qK];exact .any _;exact qK x _
def BP(env:Env):Operand->Ad
 |.tmp t=>env.get t
 |.const v=>AC2 v
 |.global _=>.any
 |.func f=>.fn (.func f) [] []
def Dp(h:Oo f g j)(o:Operand):Bw f (BP g o) (j.eval o):=by
 cases o with
 |tmp t=>rcases N9 (env:=g) (t:=t)with e|m;simp only[BP,e];exact .any _;exact(h _ _ m).2
 |const v=>exact zI f v
 |global x=>exact .any _
 |func a=>exact .fn rfl rfl (λ_ _ _ h=>by simp at h) (λ_ _ _ h=>by simp at h)
theorem Oo.put(h:Oo f g j){d:Nat}{v}(i:d<j.tmps.size)(a:Bw f v b):Oo f (g.put d v) (j.put (Z d) b):=by
 intro t u m;simp only[Act.put];rcases Aw.1 m with e|m;simp_all;rw[BS]at m;obtain⟨m,k⟩:=m;have k:t≠d:=k!
 obtain⟨c,x⟩:=h t u m;have:(j.tmps.setIfInBounds d b).getD t undef=j.tmps.getD t undef:=by rw[Qt,Qt,vz (k ·.symm)]
 grind
def Oo.putO(h:Oo f g j){d:Ω Nat}{v}(b:∀t,d=Z t->t<j.tmps.size)(e:Bw f v B):Oo f (g.putO d v) (j.put d B):=by
 cases d with
 |none=>exact h
 |some d=>exact h.put (b d rfl) e
def eZ(a:Act)(d:Ω Nat)(c:Value):(a.put d c).tmps.size=a.tmps.size:=by cases d<;>simp[Act.put]
def Jq(P:Program)(N:Nat)(o:Oper)(env:Env)(H:Au)(K:Ad->Au->Prop):Prop:=
 ∀(r:Ω Nat)(X:Nat->Prop)(h:Gh)(a:Act)(w:World),St X h N env H a w->∀Q:Exit->Act->World->Prop,
  Oper.wpIn (FR r) 0 P o a w (λa' w'=>∃c v h' H',a'=a.put o.dst c/\K v H'/\Bw (cx X h' H' w') v c/\JP X h' H' w'/\HN h H w h' H' w') Q
def Jq.mono{P}{N}{H}{d:Ad->Au->Prop}(h:Jq P N o g H K)(i:∀v b,K v b->d v b):Jq P N o g H d:=λr X j a w s Q=>Oper.wpIn_mono (λ_ _ ⟨c,v,f,b,e,k,r⟩=>⟨c,v,f,b,e,i _ _ k,r⟩) (h r X j a w s Q)
def Op.plain:Op->Bool
 |.defer _=>Y
 |_=>V
def C3(n:Op.plain o.op=V)(h:∀(X:Nat→Prop)(h:Gh)(a:Act)(w:World),St X h N g H a w→ ∀Q:Exit→Act→World→Prop,
  Oper.wp P o a w (λp b=>∃c v i e,p=a.put o.dst c/\u v e/\Bw (cx X i e b) v c/\JP X i e b/\HN h H w i e b) Q):Jq P N o g H u:=by
 intro r X K a w s Q;have d:=h X K a w s Q;refine⟨λ_ _=>O!,?_⟩;rw[Oper.semAt_eq _ _ _ (λc j=>by rw[j]at n;cases n)];unfold Oper.wp at d;generalize (execOp a.eval o).run P w=res at d;have j:∀{f:FuncId}{args:Array Value}{b:World}{R:Ending->World->Prop},Calls P f args b R->CallsIn (FR r) (0-1) P f args b R:=by
  intro f args b R t;have m:CallsIn Fence.wide (0-1) P f args b R:=callsIn_wide.2 t;cases r with
  |none=>exact m
  |some l=>exact m
 cases res with
 |ok v b=>
  cases v with
  |enter f args=>exact⟨(λh=>by cases h),j d⟩
  |row row args=>refine⟨(λh=>by cases h),λc q _=>?_⟩;obtain⟨v,k,z,y⟩:=d c q;exact⟨v,k,z,stepsIn_wide.2 y⟩
  |round l f tmps assign body=>exact d.elim
  |_=>exact d
 |halt x b=>cases x<;>exact d
def W6(ops:Array Oper)(env:Env)(j:Nat):Ad:=
 match (ops[j]?).bind (·.dst)with
 |some d=>env.get d
 |none=>.any
def YV(ops:Array Oper)(g:Ω (Nat×Bool))(env:Env)(A B:Prop):Prop:=
 match g with
 |none=>A
 |some (j,want)=>
  match W6 ops env j with
  |.bool b=>(b=want->A)/\(b=(!want)->B)
  |.tup []=>B
  |_=>False
def PC(n:Nat)(ops:Ψ Oper):Bool:=ops.all λo=>match o.dst with|some d=>decide (d<n)|none=>V
theorem zU{w}(r:Oo f g j){A B:Prop}(h:YV w o.guard g A B):
  (Region.wanted o (yielded w j.tmps)=V/\A)\/(Region.wanted o (yielded w j.tmps)=Y/\B):=by
 unfold YV at h;unfold Region.wanted;cases u:o.guard with
 |none=>grind
 |some p=>
  obtain⟨x,want⟩:=p;rw[u]at h;simp only at h⊢;cases a:W6 w g x with
  |bool b=>
   rw[a]at h;simp only at h;have q:yielded w j.tmps x=Z b:=by
    unfold W6 at a;unfold yielded;cases l:(w[x]?).bind (·.dst)with
    |none=>grind
    |some d=>
     rw[l]at a;simp only at a;simp only[AD];rcases N9 (env:=g) (t:=d)with e|m;grind;rw[a]at m;obtain⟨n,hr⟩:=r _ _ m;have:j.tmps[d]?=Z (.bool b):=by
      have i:j.tmps.getD d undef=.bool b:=by generalize j.tmps.getD d undef=c at hr;cases hr;rfl
      rw[Qt]at i;grind[Array.getElem?_eq_getElem]
     rw[this]
   rw[q];by_cases s:b=want;grind;refine .inr ⟨by simp[s],h.2 ?_⟩;cases b<;>cases want<;>simp_all
  |tup v=>
   cases v with
   |cons _ _=>grind
   |nil=>
    rw[a]at h;simp only at h;refine .inr ⟨?_,h⟩;have q:yielded w j.tmps x=W:=by
     unfold W6 at a;unfold yielded;cases l:(w[x]?).bind (·.dst)with
     |none=>rfl
     |some d=>
      rw[l]at a;simp only at a;simp only[AD];rcases N9 (env:=g) (t:=d)with e|m;grind;rw[a]at m;obtain⟨n,hr⟩:=r _ _ m;have i:∃k,j.tmps.getD d undef=.tuple k:=by generalize j.tmps.getD d undef=c at hr;cases hr;exact⟨_,rfl⟩
      obtain⟨k,i⟩:=i;have:j.tmps[d]?=Z (.tuple k):=t!
      rw[this]
    rw[q];rfl
  |_=>grind
section
variable {P:Program}{N:Nat}{env:Env}{H:Au}{Q:Exit->Env->Au->Prop}
def J1.cond{y}{b:Bool}(d:BP env k=.bool b)(h:b=V->J1 P N n env H Q)(f:b=Y->J1 P N y env H Q):J1 P N (.cond k n y) env H Q:=by
 intro r X g a w s c;have hr:=Dp s.env k;rw[d]at hr;have e:a.eval k=.bool b:=by generalize a.eval k=v at hr;cases hr;rfl
 apply wpIn_cond e;cases b;exact f rfl r X g a w s c;exact h rfl r X g a w s c
end
mutual
def Ad.idsAll(p:Nat->Bool):Ad->Bool
 |.ptr id _ _=>p id
 |.sl id _ _ _ _=>p id
 |.yf id=>p id
 |.mp id=>p id
 |.itp id m=>p id&&p m
 |.vptr cs=>Ad.idsAllL p cs
 |.vs _ rows=>Ad.idsAllL p rows
 |.fn _ a b=>Ad.idsAllL p a&&Ad.idsAllL p b
 |.agg cs=>Ad.idsAllL p cs
 |.tup cs=>Ad.idsAllL p cs
 |.bool _|.int _ _|.str _|.nilp|.nils|.nilf|.any=>V
def Ad.idsAllL(p:Nat->Bool):Ψ Ad->Bool
 |[]=>V
 |v::r=>Ad.idsAll p v&&Ad.idsAllL p r
end
mutual
def Ad.ren(ρ:Nat->Nat):Ad->Ad
 |.ptr id g off=>.ptr (ρ id) g off
 |.sl id g sz off len=>.sl (ρ id) g sz off len
 |.yf id=>.yf (ρ id)
 |.mp id=>.mp (ρ id)
 |.itp id m=>.itp (ρ id) (ρ m)
 |.vptr cs=>.vptr (Ad.renL ρ cs)
 |.vs sz rows=>.vs sz (Ad.renL ρ rows)
 |.fn f a b=>.fn f (Ad.renL ρ a) (Ad.renL ρ b)
 |.agg cs=>.agg (Ad.renL ρ cs)
 |.tup cs=>.tup (Ad.renL ρ cs)
 |.bool b=>.bool b
 |.int k n=>.int k n
 |.str s=>.str s
 |.nilp=>.nilp
 |.nils=>.nils
 |.nilf=>.nilf
 |.any=>.any
def Ad.renL(ρ:Nat->Nat):Ψ Ad->Ψ Ad
 |[]=>[]
 |v::r=>Ad.ren ρ v::Ad.renL ρ r
end
theorem Of(a:Nat->Nat)(l:Ψ Ad):Ad.renL a l=l.map (Ad.ren a):=by induction l<;>grind[Ad.renL]
theorem Dy(p:Nat->Bool)(l:Ψ Ad):Ad.idsAllL p l=V↔∀v∈l,v.idsAll p=V:=by induction l<;>grind[Ad.idsAllL]
theorem M7{p:Nat->Bool}(h:Ad.idsAllL p d=V)(a:d[N]?=Z e):e.idsAll p=V:=by grind[Dy]
theorem xE(a:Nat->Nat)(v:Ad):(v.ren a).cells=v.cells.map (Ad.ren a):=by cases v<;>simp[Ad.ren,Ad.cells,Of]
def VL{p:Nat->Bool}(h:e.idsAll p=V):∀u∈e.cells,u.idsAll p=V:=by
 cases e<;>simp only[Ad.cells,A9]<;>first
  |(intro u a;subst a;exact h)
  |(simp only[Ad.idsAll]at h;exact(Dy _ _).1 h)
theorem Bw.ren{x y:Cx}{p:Nat→Bool}{ρ:Nat→Nat}(F:∀id,p id=ζ→id<x.n→ρ id<y.n∧y.gen (ρ id)=x.gen id∧y.io (ρ id)=x.io id∧y.cap (ρ id)=x.cap id)
  (Y:y.w=x.w) (hO:∀B,y.O B->x.O B) {v:Ad}  (r:Bw x v b):v.idsAll p=ζ->Bw y (v.ren ρ) b:=by
 induction r with
 |bool c=>exact λ_=>.bool c
 |int k n=>exact λ_=>.int k n
 |str t L=>exact λ_=>.str t L
 |nilp=>exact λ_=>.nilp
 | @ptr id g H b A T E z=>intro q;obtain⟨a,c,d,e⟩:=F id q A;refine .ptr a (by rw[c];exact T) E λC=>?_;rw[c]at C;rw[d];exact z C
 | @vptr cs B H f K S z X M=>intro q;simp only[Ad.idsAll]at q;simp only[Ad.ren,Of];refine .vptr f (λo=>K (hO B o)) (by rw[Y];exact S) (λj v l=>?_) λj v l=>?_;grind;grind[Option.some.injEq,M7]
 |nils=>exact λ_=>.nils
 | @vs sz D a cap f P W al ha X M=>
  intro q;simp only[Ad.idsAll]at q;simp only[Ad.ren,Of];have I:∀{j:Nat}{e:Ad},(D.map (Ad.ren ρ))[j]?=δ e->∃u,D[j]?=δ u/\e=u.ren ρ:=by grind[Option.some.injEq]
  have G:∀{u:Ad}{i:Nat}{v:Ad},(u.ren ρ).cells[i]?=δ v->∃t,u.cells[i]?=δ t/\v=t.ren ρ:=by grind[xE,Option.some.injEq]
  have J:(D.map (Ad.ren ρ)).length=θ D:=q!
  rw[<-J];refine .vs f (by rw[J];exact P) W (λj e l=>?_) (λV=>?_) λj e i v l U=>?_;grind[xE,List.length_map];obtain⟨B,H,e,K,S,z⟩:=ha (by simpa using V);refine⟨B,H,e,λo=>K (hO B o),by rw[Y];exact S,λj e i v l U=>?_⟩;obtain⟨u,s,rfl⟩:=I l;obtain⟨t,L,rfl⟩:=G U;rw[Y];exact z j u i t s L;obtain⟨u,s,rfl⟩:=I l;obtain⟨t,L,rfl⟩:=G U;exact M j u i t s L (VL (M7 q s) _ (BN L))
 | @sl id g sz H len b A T E z=>intro q;obtain⟨a,c,d,e⟩:=F id q A;refine .sl a (by rw[c];exact T) E λC=>?_;rw[c]at C;rw[d,e];exact z C
 | @fn f first N Q R E h2 ap ar Z ad=>
  intro q;simp only[Ad.idsAll,BV]at q;simp only[Ad.ren,Of];refine .fn (by simpa using E) (by simpa using h2) (λj v b l z=>?_) λj v b l z=>?_;rw[CR]at l;cases s:first[j]? with
  |none=>rw[s]at l;cases l
  |some u=>rw[s]at l;simp only[Bs,Ao]at l;subst l;exact Z j u b s z (M7 q.1 s)
  rw[CR]at l;cases s:N[j]? with
  |none=>rw[s]at l;cases l
  |some u=>rw[s]at l;simp only[Bs,Ao]at l;subst l;exact ad j u b s z (M7 q.2 s)
 | @yf id b A E z=>intro q;obtain⟨a,c,d,e⟩:=F id q A;refine .yf a E λC=>?_;rw[c]at C;rw[d];exact z C
 | @mp id b A E z=>intro q;obtain⟨a,c,d,e⟩:=F id q A;refine .mp a E λC=>?_;rw[c]at C;rw[d];exact z C
 | @itp id m b A hm E z=>intro q;simp only[Ad.idsAll,BV]at q;obtain⟨a,c,d,e⟩:=F id q.1 A;obtain⟨a2,b2,d2,e2⟩:=F m q.2 hm;refine .itp a a2 E λC=>?_;rw[c]at C;rw[d,b2,d2,e];exact z C
 |nilf=>exact λ_=>.nilf
 | @agg cs ao h E X M=>
  intro q;simp only[Ad.idsAll]at q;simp only[Ad.ren,Of];refine .agg (by simpa using h) E λj v b l z=>?_;rw[CR]at l;cases s:cs[j]? with
  |none=>rw[s]at l;cases l
  |some u=>rw[s]at l;simp only[Bs,Ao]at l;subst l;exact M j u b s z (M7 q s)
 | @tup vs ax h X M=>
  intro q;simp only[Ad.idsAll]at q;simp only[Ad.ren,Of];refine .tup (by simpa using h) λj v b l z=>?_;rw[CR]at l;cases s:vs[j]? with
  |none=>rw[s]at l;cases l
  |some u=>rw[s]at l;simp only[Bs,Ao]at l;subst l;exact M j u b s z (M7 q s)
 |any b=>exact λ_=>.any b
mutual
theorem ABR{p:Nat->Bool}{d:Nat->Nat}(c:∀id,p id=V->d id=id):∀v:Ad,v.idsAll p=V->v.ren d=v
 |.ptr id g off,h=>by simp only[Ad.ren,c id h]
 |.sl id g sz off len,h=>by simp only[Ad.ren,c id h]
 |.yf id,h=>by simp only[Ad.ren,c id h]
 |.mp id,h=>by simp only[Ad.ren,c id h]
 |.itp id m,h=>by simp only[Ad.idsAll,BV]at h;simp only[Ad.ren,c id h.1,c m h.2]
 |.vptr cs,h=>by simp only[Ad.ren,YE c cs h]
 |.vs sz rows,h=>by simp only[Ad.ren,YE c rows h]
 |.fn f a b,h=>by simp only[Ad.idsAll,BV]at h;simp only[Ad.ren,YE c a h.1,YE c b h.2]
 |.agg cs,h=>by simp only[Ad.ren,YE c cs h]
 |.tup cs,h=>by simp only[Ad.ren,YE c cs h]
 |.bool _,_=>rfl
 |.int _ _,_=>rfl
 |.str _,_=>rfl
 |.nilp,_=>rfl
 |.nils,_=>rfl
 |.nilf,_=>rfl
 |.any,_=>rfl
theorem YE{p:Nat->Bool}{b:Nat->Nat}(a:∀id,p id=V->b id=id):∀l:Ψ Ad,Ad.idsAllL p l=V->Ad.renL b l=l
 |[],_=>rfl
 |v::r,h=>by simp only[Ad.idsAllL,BV]at h;simp only[Ad.renL,ABR a v h.1,YE a r h.2]
end
def tI(P:Program)(t:TypeId):Ω (Bool×Nat):=
 match P.info? t,P.underlying t with
 |some i,Z d=>Z ((match d with|.struct _|.array _ _=>V|_=>Y),i.size)
 |_,_=>W
def YS(h:tI P a=Z (s,N))(w:World):(isAgg a).run P w=.ok s w:=by unfold tI at h;split at h;rename_i i d c t;unfold isAgg;simp only[Sem.run_bind,run_underlying t,Result.andThen_ok];split<;>simp_all;cases h
def La{P}(h:tI P a=Z (s,N))(w:World):(sizeOf a).run P w=.ok N w:=by unfold tI at h;split at h;rename_i i d t c;simp at h;simp[sizeOf,typeInfo,t,h.2];cases h
def QK(H:Au):Ad->Nat->Ω (Ψ Ad)
 |.ptr id g off,n=>
  match H[id]? with
  |some (.live g' cs)=>if g=g'/\off+n<=U cs then Z ((cs.drop off).take n)else W
  |_=>W
 |.vptr cs,n=>if n<=U cs then Z (cs.take n)else W
 |_,_=>W
def mq(x:Cx)(vs:Ψ Ad)(cs:Ψ Value):Prop:=U cs=U vs/\∀(j:Nat)(v:Ad)(c:Value),vs[j]?=Z v->cs[j]?=Z c->Bw x v c
theorem Ox(B a j:Nat):(⟨B,a,W⟩:Addr).add j=⟨B,a+j,W⟩:=by grind[Addr.add]
theorem P2{w:World}(h:w.heap[N]?=Z (.cells i a y))(b:Nat):w.cell? ⟨N,b,W⟩=i[b]? :=by grind[World.cell?]
theorem vF(s:JP c h H w)(r:Bw (cx c h H w) e b)(hr:QK H e N=δ d):
  ∃(B a:Nat)(k:Ψ Value),b=.pointer (δ ⟨B,a,ε⟩)/\θ k=N/\(∀j u,k[j]?=δ u->w.cell? ((⟨B,a,ε⟩:Addr).add j)=δ u/\u.oneCell'=ζ)/\mq (cx c h H w) d k:=by
 cases r with
 | @ptr id g a b O Z V x=>
  simp only[QK]at hr;split at hr;rename_i U k L;split at hr;rename_i m;obtain⟨rfl,F⟩:=m;simp only[Ao]at hr;subst hr;obtain⟨t,q⟩:=s.live id g k L;obtain⟨B,o,rfl⟩:=x t;rcases q with⟨hn,_⟩|⟨D,I,T,S,f,l,K,E,A,M,i⟩;rw[hn]at o;cases o;have:D=B:=by rw[show(cx c h H w).io id=δ B from o]at l;injection l with X;exact X.symm
  subst this;refine⟨D,a,(List.range N).map (λj=>f (a+j)),rfl,q!,?_,?_,?_⟩;intro j u p;have G:j<N:=by grind[Nat.lt_or_ge,u?]
  have Q:u=f (a+j):=by grind[List.getElem?_range]
  subst Q;have y:k[a+j]?=δ (k[a+j]' o!):=As o!;obtain⟨J,P,_⟩:=i _ _ y;rw[Ox,P2 (w:=w) K];exact⟨J,P⟩;grind[List.length_map,List.length_range,r?,List.length_drop];grind[Nat.lt_or_ge,u?,List.getElem?_range,Option.some.injEq];cases hr;cases hr
 | @vptr k B a f Y W x R=>
  simp only[QK]at hr;split at hr;rename_i A;simp only[Ao]at hr;subst hr;refine⟨B,a,(List.range N).map f,rfl,q!,?_,?_,?_⟩;intro j u p;have G:j<N:=by grind[Nat.lt_or_ge,u?]
  rw[CR,RT G]at p;simp only[Bs,Ao]at p;subst p;rw[Ox];exact x j _ (As o!);grind[List.length_map,List.length_range,r?];intro j u n p z;have G:j<N:=by rcases Ay j N with C|v;exact C;simp_all[Cq]
  rw[YY,C! G]at p;rw[CR,RT G]at z;simp only[Bs,Ao]at z;subst z;exact R j u p;cases hr
 |_=>simp only[QK]at hr;cases hr
def iu(P:Program)(t:TypeId)(H:Au)(v:Ad):Ω Ad:=
 match tI P t with
 |some (V,n)=>(QK H v n).map Ad.agg
 |some (Y,_)=>(QK H v 1).bind List.head?
 |none=>W
theorem zf(s:JP c h H w)(r:Bw (cx c h H w) e b)(t:iu P a H e=Z p):
  ∃B v l,b=.pointer (Z ⟨B,v,W⟩)/\(loadVar a ⟨B,v,W⟩).run P w=.ok l w/\Bw (cx c h H w) p l:=by
 unfold iu at t;split at t;rename_i n g;cases hr:QK H e n with
 |none=>grind
 |some o=>rw[hr]at t;simp at t;subst t;obtain⟨B,v,f,rfl,d,k,X⟩:=vF s r hr;refine⟨B,v,.agg f.toArray,rfl,?_,?_⟩;unfold loadVar;simp only[Sem.run_bind,YS g,Result.andThen_ok,if_true,La g];subst d;rw[run_loadCells_list w ⟨B,v,W⟩ f λj e i=>(k j e i).1];rfl;refine .agg (by simpa using X.1) (λj b i=>?_) λj e b i u=>?_;grind;exact X.2 j e b i k!
 rename_i n g;cases hr:QK H e 1 with
 |none=>grind
 |some o=>
  rw[hr]at t;simp at t;obtain⟨B,v,f,rfl,d,k,X⟩:=vF s r hr;match f,d with
  |[c0],_=>
   match o,X.1 with
   |[u0],_=>simp at t;subst t;refine⟨B,v,c0,rfl,?_,X.2 0 _ _ rfl rfl⟩;unfold loadVar;have m:=(k 0 c0 rfl).1;simp only[Addr.add,if_true]at m;simp[YS g,m]
 cases t
def nr(P:Program)(env:Env)(H:Au):ResultVar->Ω Ad
 |.tmp t=>Z (env.get t)
 |.cell a t=>iu P t H (env.get a)
def TK(P:Program)(env:Env)(H:Au):Ψ ResultVar->Ω (Ψ Ad)
 |[]=>Z []
 |r::rs=>
  match nr P env H r,TK P env H rs with
  |some v,Z vs=>Z (v::vs)
  |_,_=>W
def iv(P:Program)(fn:Func)(env:Env)(H:Au):Ω Ad:=
 match TK P env H fn.results.toList with
 |some [v]=>Z v
 |some vs=>Z (.tup vs)
 |none=>W
def kL(h:Oo f g j)(t:Nat):Bw f (g.get t) (j.tmps.getD t undef):=Dp h (.tmp t)
def vH(tmps:Array Value):ResultVar->Sem Value
 |.tmp t=>pure (tmps.getD t undef)
 |.cell a t=>do loadVar t (<-asAddr (tmps.getD a undef))
def ABT(b:Func)(tmps:Array Value):results b tmps=(do
  let a<-b.results.mapM (vH tmps);pure (if h:a.size=1 then a[0]else .tuple a)):=rfl
theorem sF{P}{N}{X:Nat→Prop}{h}{env}{H}{a}{w}(s:St X h N env H a w):∀(g:Ψ ResultVar)(i:Ψ Ad),TK P env H g=Z i→
  ∃f,Sem.run P (g.mapM (vH a.tmps)) w=.ok f w/\mq (cx X h H w) i f
 |[],i,hv=>by simp only[TK,Ao]at hv;subst hv;exact⟨[],rfl,rfl,λ_ _ _ h=>by cases h⟩
 |r::g,i,hv=>by
  simp only[TK]at hv;split at hv;rename_i v l k n;simp at hv;subst hv;obtain⟨f,o,b⟩:=sF s g l n;have e:∃c,Sem.run P (vH a.tmps r) w=.ok c w/\Bw (cx X h H w) v c:=by
   cases r with
   |tmp t=>simp only[nr,Ao]at k;subst k;exact⟨_,rfl,kL s.env t⟩
   |cell x t=>obtain⟨B,y,m,p,q,hr⟩:=zf s.sim (kL s.env x) k;refine⟨m,?_,hr⟩;simp only[vH,p];simp[asAddr,q]
  obtain⟨c,z,hr⟩:=e;refine⟨c::f,?_,by simpa using b.1,?_⟩;simp_all;intro j u d C A;cases j with
  |zero=>grind
  |succ j=>exact b.2 j u d k! k!
  cases hv
theorem ADW(s:St c h N g H j w)(d:iv P I g H=Z e):
  ∃a,(results I j.tmps).run P w=.ok a w/\Bw (cx c h H w) e a:=by
 unfold iv at d;cases X:TK P g H I.results.toList with
 |none=>grind
 |some l=>
  rw[X]at d;obtain⟨f,m,b⟩:=sF s _ l X;have n:Sem.run P (I.results.mapM (vH j.tmps)) w=.ok f.toArray w:=by grind[Array.mapM_eq_mapM_toList,Sem.run_map,Result.andThen_ok]
  rw[ABT];simp only[Sem.run_bind,n];simp only[Result.andThen_ok,Sem.run_pure,Result.ok.injEq,and_true,exists_eq_left'];match l,b with
  |[],b=>simp at d;subst d;have:f=[]:=Eh (by simpa using b.1);subst this;exact .tup rfl λv e a i _=>by cases i
  |[v0],b=>
   simp at d;subst d;match f,b.1 with
   |[c0],_=>exact b.2 0 _ _ rfl rfl
  |v0::v1::r,b=>
   simp at d;subst d;have k:f.toArray.size≠1:=by rw[fK,b.1];simp
   rw[dif_neg k];exact .tup (by simpa using b.1) λv e a i o=>b.2 v e a i k!
def Oq(n0:Nat)(v:Ad)(H:Au)(v2:Ad)(H2:Au):Prop:=
 n0<=U H2/\∀(X:Nat->Prop)(h:Gh)(w:World)(c:Value),JP X h H w->Bw (cx X h H w) v c->
  ∃h2,JP X h2 H2 w/\Bw (cx X h2 H2 w) v2 c/\(∀id,id<n0->h2.gen id=h.gen id/\h2.io id=h.io id/\h2.cap id=h.cap id)/\∀B,owned h2 H2 B->owned h H B
def Oq.refl(v:Ad)(H:Au)(hn:N<=U H):Oq N v H v H:=⟨hn,λ_ h _ _ s r=>⟨h,s,r,λ_ _=>⟨rfl,rfl,rfl⟩,λ_ h=>h⟩⟩
def AKZ(P:Program)(fn:Func)(n0:Nat)(Q:Ad->Au->Prop):Exit->Env->Au->Prop
 |.normal,env,H|.ret,env,H=>∃v v2 H2,iv P fn env H=Z v/\Oq n0 v H v2 H2/\Q v2 H2
 |_,_,_=>False
def env0:Nat->Ψ Ad->Env
 |_,[]=>[]
 |i,v::r=>(i,v)::env0 (i+1) r
theorem zN{t:Nat}{v:Ad}:∀{i:Nat}{l:Ψ Ad},(t,v)∈env0 i l->i<=t/\l[t-i]?=Z v
 |i,u::r,h=>by simp only[env0,Aw]at h;rcases h with⟨rfl,rfl⟩|h;simp;obtain⟨a,b⟩:=zN h;grind
theorem mO{y:Ω (Ψ Deferred)}(b:w.heap[N]?=Z (.deferred l))(B a:Nat):(w.putObj N (.deferred y)).cell? ⟨B,a,W⟩=w.cell? ⟨B,a,W⟩:=by grind[World.cell?,World.putObj_heap_same,World.putObj_heap_other]
def JP.shut(s:JP c h H w){x y:Ω (Ψ Deferred)}(J:w.heap[N]?=Z (.deferred x)):
  (cx c h H w).Later (cx c h H (w.putObj N (.deferred y)))/\JP c h H (w.putObj N (.deferred y)):=by
 have C:(cx c h H w).Later (cx c h H (w.putObj N (.deferred y))):=⟨by simp[cx],λB _ _ G=>mO J B G,λ_ _ h=>h,Al _,λ_ _=>Al _,λ_ _ _=>⟨rfl,rfl⟩⟩
 have d:∀{B:Nat}{o:Obj},w.heap[B]?=Z o->(∀z,o≠.deferred z)->(w.putObj N (.deferred y)).heap[B]?=Z o:=by intro B o a F;by_cases i:B=N;subst i;rw[J]at a;injection a with e;exact(F x e.symm).elim;rw[World.putObj_heap_other i,a]
 refine⟨C,λB a=>⟨by simpa using(s.out B a).1,(s.out B a).2⟩,λid g K l=>?_,λid L l=>?_,s.inj,s.bldKeep λid e l _=>⟨l,rfl,rfl,rfl,λB o _ a F=>(d a F).trans a.symm⟩⟩;obtain⟨A,n⟩:=s.live id g K l;refine⟨A,?_⟩;rcases n with⟨hn,rfl⟩|⟨B,p,T,M,f,D,q,k,E,u,b⟩;exact .inl ⟨hn,rfl⟩;refine .inr ⟨B,p,T,M,f,D,d q (λz=>q!),k,E,u,λj v U=>?_⟩;obtain⟨V,W,Y⟩:=b j v U;exact⟨V,W,Y.later C⟩;obtain⟨A,B,r,D,q,X,O,P,Q,R,S,I⟩:=s.lp id L l;exact⟨A,B,r,D,d q (λz=>q!),X,O,P,Q,R,S,λt v m=>⟨(I t v m).1,(I t v m).2.later C⟩⟩
theorem HN.shut(x:HN h H w O R A){y z:Ω (Ψ Deferred)}(d:w.heap.size<=N)(e:A.heap[N]?=Z (.deferred z)):HN h H w O R (A.putObj N (.deferred y))where
 os:=x.os
 tape:=x.tape
 output:=x.output
 size:=by simpa using x.size
 keep B hB hn:=by rw[World.putObj_heap_other o!];exact x.keep B hB hn
 n:=x.n
 gen:=x.gen
 same:=x.same
 fresh:=x.fresh
 loops B r hB:=by obtain⟨f,O⟩:=x.loops B r hB;grind[World.putObj_heap_other]
def pG{P}{A}{N}{X:Nat→Prop}{g h}{H b p:Au}{z:World}{v t:Ad}{f}{a}{Q:Ad→Au→Prop}(o:iv P A f b=Z v)(j:Oq (U H) v b t p)(B:Q t p):
  ∀(i:Ψ Deferred)(w:World),i.Nodup->(∀d∈i,∃D,d={target:=.collected D,args:= #[]}/\z.heap.size<=D/\w.heap[D]?=Z (.deferred (Z [])))->
   St X h N f b a w->HN g H z h b w->
   LeavesInM Fence.wide 0 P A a.tmps (λe u=>∃c v h b,e=.returned c/\Q v b/\JP X h b u/\Bw (cx X h b u) v c/\HN g H z h b u) i .returning w
 |[],w,_,_,s,x=>by obtain⟨c,m,l⟩:=ADW s o;obtain⟨J,n,r,I,K⟩:=j.2 X h w c s.sim l;exact⟨c,m,c,t,J,p,rfl,B,n,r,Fb.ext rfl j.1 I K x⟩
 |d::i,w,hnd,hds,s,x=>by obtain⟨D,rfl,G,q⟩:=hds d q!;simp only[G3]at hnd;refine⟨q!,.inl ⟨D,_,rfl,run_takeDeferred q,?_⟩⟩;have C:=s.sim.shut (y:=W) q;refine pG o j B i _ hnd.2 (λF k=>?_) ⟨C.2,s.env.later C.1,s.size⟩ (x.shut G q);obtain⟨E,rfl,o,j⟩:=hds F (Ch _ k);refine⟨E,rfl,o,?_⟩;rw[World.putObj_heap_other,j];rintro rfl;exact hnd.1 k
theorem Ke(F:P.funcs[E]?=Z I)(C:I.body=Z n)(hn:U d≤I.ntmps)
  (b:J1 P I.ntmps n (env0 0 d) H (AKZ P I (U H) u)):Ei P E d H u:=by
 intro X g w a s M hr;have D:Oo (cx X g H w) (env0 0 d) {tmps:=a++Array.replicate (I.ntmps-a.size) undef,defers:=[]}:=by
  intro t v m;obtain⟨_,N⟩:=zN m;have G:t<U d:=k!
  have L:a[t]?=Z (a[t]' o!):=N5 o!;have:(a++Array.replicate (I.ntmps-a.size) undef).getD t undef=a[t]' o!:=by simp_all[Ye]
  grind
 refine(callsIn_wide (n:=0)).1 (callsIn_of_wp_marks F C trivial (wpIn_mono (b W X g {tmps:=a++Array.replicate (I.ntmps-a.size) undef,defers:=[]} w ⟨s,D,w!⟩ (λl e=>by cases e)) ?_));rintro e z i ⟨Q,j,c,q,J,K,A,B,y,x⟩;have k:∀v h f,iv P I j c=Z v->Oq (U H) v c h f->u h f->LeavesInM Fence.wide 0 P I z.tmps (λe i=>∃n v Q c,e=.returned n/\u v c/\JP X Q c i/\Bw (cx X Q c i) v n/\HN g H w Q c i) z.defers .returning i:=by intro v h f o p r;rw[B,Do];exact pG o p r A i y x J K
 cases e with
 |normal=>obtain⟨v,h,f,o,p,r⟩:=q;exact k v h f o p r
 |ret=>obtain⟨v,h,f,o,p,r⟩:=q;exact k v h f o p r
 |_=>exact q.elim
def Enters(P:Program)(F:FuncId):Bool:=
 match P.funcs[F]? with
 |some fn=>fn.body.isSome&& !(fn.name== "runtime.NumGoroutine")
 |none=>false
def iS(h:Enters P E=V)(args:Array Value)(w:World):(callFunc E args).run P w=.ok (.enter E args) w:=by unfold Enters at h;split at h;rename_i a c;unfold callFunc;cases b:a.body<;>simp_all;cases h
def Fx.ren(ρ:Nat->Nat):Fx->Fx
 |.dead=>.dead
 |.live g cs=>.live g (Ad.renL ρ cs)
 |.lp L=>.lp {L with env:=L.env.map λp=>(p.1,p.2.ren ρ)}
 |.mp k es=>.mp k es
 |.it n s=>.it n s
def Fx.idsAll(p:Nat->Bool):Fx->Bool
 |.dead=>V
 |.live _ cs=>Ad.idsAllL p cs
 |.lp L=>L.env.all λq=>q.2.idsAll p
 |.mp _ _=>V
 |.it _ _=>V
def Z2(H:Au)(bs:Ψ Nat):Au:=bs.map λb=>(H.getD b .dead).ren (bs.idxOf ·)
def TY(H:Au)(bs:Ψ Nat)(j:Nat):Nat:=if j<U bs then bs.getD j 0 else U H+(j-U bs)
def bx(ρ:Nat->Nat):Au->Ψ Nat->Au->Au
 |H,b::bs,e::es=>bx ρ (H.set b (e.ren ρ)) bs es
 |H,_,_=>H
def VM(H:Au)(bs:Ψ Nat)(Hc:Au):Au:=bx (TY H bs) H bs Hc++(Hc.drop (U bs)).map (Fx.ren (TY H bs))
def TA(c:Nat->Nat):∀(bs:Ψ Nat)(H a:Au),(bx c H bs a).length=U H
 |[],H,a=>by cases a<;>rfl
 |b::bs,H,[]=>rfl
 |b::bs,H,e::es=>by simp only[bx];rw[TA c bs];simp
def iT(c:Nat->Nat){id:Nat}:∀(bs:Ψ Nat)(H a:Au),id∉bs->(bx c H bs a)[id]?=H[id]?
 |[],H,a,_=>by cases a<;>rfl
 |b::bs,H,[],_=>rfl
 |b::bs,H,e::es,h=>by simp only[Aw,not_or]at h;simp only[bx];rw[iT c bs _ _ h.2,Db (h.1 ·.symm)]
def xI(a:Nat->Nat):∀(bs:Ψ Nat)(H c:Au)(j b:Nat),bs.Nodup->bs[j]?=Z b->b<U H->U bs<=U c->(bx a H bs c)[b]?=(c[j]?).map (Fx.ren a)
 |[],_,_,_,_,_,hj,_,_=>by simp at hj
 |b0::bs,H,[],_,_,_,_,_,hl=>by simp at hl
 |b0::bs,H,e::es,j,b,hnd,hj,hb,hl=>by
  simp only[G3]at hnd;simp only[bx];cases j with
  |zero=>simp at hj;subst hj;rw[iT a bs _ _ hnd.1];simp[hb]
  |succ j=>simp at hj;rw[xI a bs _ es j b hnd.2 hj (by simpa using hb) (by simpa using hl)];simp
def pD(h:N∈r):r.idxOf N<U r:=List.idxOf_lt_length_of_mem h
theorem iH(h:N∈r):r[r.idxOf N]?=Z N:=k!
theorem qZ(a:r.Nodup)(h:r[N]?=Z t):r.idxOf t=N:=k!
section
variable {X:Nat->Prop}{h:Gh}{H:Au}{w:World}{bs:Ψ Nat}
mutual
theorem rX:∀v:Ad,v.idsAll (λ_=>V)=V
 |.itp _ _=>rfl
 |.ptr _ _ _=>rfl
 |.sl _ _ _ _ _=>rfl
 |.yf _=>rfl
 |.mp _=>rfl
 |.vptr c=>Pd c
 |.vs _ d=>Pd d
 |.fn _ a b=>by simp only[Ad.idsAll,Pd a,Pd b,YH]
 |.agg c=>Pd c
 |.tup c=>Pd c
 |.bool _|.int _ _|.str _|.nilp|.nils|.nilf|.any=>rfl
theorem Pd:∀l:Ψ Ad,Ad.idsAllL (λ_=>V) l=V
 |[]=>rfl
 |v::r=>by simp only[Ad.idsAllL,rX v,Pd r,YH]
end
def Xs(X:Nat->Prop)(h:Gh)(H:Au)(bs:Ψ Nat)(B:Nat):Prop:=X B\/∃id e,id∉bs/\H[id]?=Z e/\e≠Fx.dead/\h.io id=Z B
def XG(h:Gh)(bs:Ψ Nat):Gh:=⟨λj=>(bs[j]?).bind h.io,λj=>((bs[j]?).map h.gen).getD 0,λj=>((bs[j]?).map h.cap).getD 0⟩
def AAA:m.ren z=.dead↔m=.dead:=by cases m<;>simp[Fx.ren]
theorem mC(d:(Z2 H bs)[N]?=Z m)(c:m≠.dead):∃b a,bs[N]?=Z b/\H[b]?=Z a/\a≠.dead/\m=a.ren (bs.idxOf ·):=by grind[Z2,Fx.ren]
theorem AFn(e:(Z2 H bs)[N]?=Z (Fx.live t d)):∃b a,bs[N]?=Z b/\H[b]?=Z (Fx.live t a)/\d=Ad.renL (bs.idxOf ·) a:=by obtain⟨b,j,h,f,_,i⟩:=mC e q!;cases j<;>grind[Fx.ren]
theorem eY(d:owned (XG h bs) (Z2 H bs) N):∃b e,b∈bs/\H[b]?=Z e/\e≠Fx.dead/\h.io b=Z N:=by obtain⟨j,e,f,c,a⟩:=d;grind[mC,XG]
theorem yb(x:Nat)(c:τ (x∈bs)=V)(_:x<(cx X h H w).n):
  bs.idxOf x<(cx (Xs X h H bs) (XG h bs) (Z2 H bs) w).n/\(cx (Xs X h H bs) (XG h bs) (Z2 H bs) w).gen (bs.idxOf x)=(cx X h H w).gen x/\(cx (Xs X h H bs) (XG h bs) (Z2 H bs) w).io (bs.idxOf x)=(cx X h H w).io x/\(cx (Xs X h H bs) (XG h bs) (Z2 H bs) w).cap (bs.idxOf x)=(cx X h H w).cap x:=by
 have a:x∈bs:=k!
 have b:=iH a;refine⟨by simpa[cx,Z2]using pD a,?_,?_,?_⟩<;>simp[cx,XG,b]
def AFo(B:Nat)(a:(cx (Xs X h H bs) (XG h bs) (Z2 H bs) w).O B):(cx X h H w).O B:=by rcases a with(a|⟨id,e,_,d,c,f⟩)|a;exact .inl a;exact .inr ⟨id,e,d,c,f⟩;obtain⟨b,e,_,d,c,f⟩:=eY a;exact .inr ⟨b,e,d,c,f⟩
theorem Pj{w:World}(h:w.heap[N]?=Z M):N<w.heap.size:=k!
theorem JP.io_at(s:JP X h H w)(c:H[N]?=Z m)(p:m≠.dead)(b:h.io N=Z t):t<w.heap.size:=by
 cases m with
 |dead=>grind
 |live g l=>obtain⟨_,hn|⟨d,i,T,e,f,a,j,_⟩⟩:=s.live N g l c;rw[show(cx X h H w).io N=h.io N from rfl,b]at hn;grind;rw[show(cx X h H w).io N=h.io N from rfl,b]at a;injection a with m;subst m;exact Pj j
 |lp L=>obtain⟨_,d,r,a,j,_⟩:=s.lp N L c;rw[show(cx X h H w).io N=h.io N from rfl,b]at a;injection a with m;subst m;exact Pj j
 |mp k q=>obtain⟨d,i,B,_,o,_⟩:=s.bld N _ c rfl;grind[Pj]
 |it n seen=>obtain⟨d,B,_,o⟩:=s.bld N _ c rfl;grind[Pj]
def de:(m.ren z).isB=m.isB:=by cases m<;>rfl
def BAt.ren{h h':Gh}{w w':World}{id id':Nat}{ρ:Nat->Nat}(b:BAt h w id m)(g:h'.io id'=h.io id)(a:h'.gen id'=h.gen id)(f:h'.cap id'=h.cap id)(l: ∀B (o:Obj),h.io id=some B->w.heap[B]? =some o->w'.heap[B]? =w.heap[B]?):BAt h' w' id' (m.ren ρ):=by
 cases m with
 |mp k p=>obtain⟨B,i,c,j,d,e⟩:=b;exact⟨B,i,g.trans c,a.trans j,(l B _ c d).trans d,e⟩
 |it n seen=>obtain⟨B,c,j,d⟩:=b;exact⟨B,g.trans c,a.trans j,by rw[f];exact(l B _ c d).trans d⟩
 |_=>trivial
theorem JP.sub(s:JP X h H w)(K:bs.Nodup)(hb:∀b∈bs,((H.getD b .dead).idsAll λid=>decide (id∈bs))=ζ):JP (Xs X h H bs) (XG h bs) (Z2 H bs) w where
 out B n:=by have M:¬(∃b e,b∈bs/\H[b]?=δ e/\e≠Fx.dead/\h.io b=δ B)->¬owned (XG h bs) (Z2 H bs) B:=λhn ho=>hn (eY ho);rcases n with n|⟨id,e,Z,d,o,k⟩;exact⟨(s.out B n).1,M λ⟨b,e,_,d,o,k⟩=>(s.out B n).2 ⟨b,e,d,o,k⟩⟩;exact⟨s.io_at d o k,M λ⟨b,e',hm,x,Q,C⟩=>Z (s.inj id b e e' B d x o Q k C▸hm)⟩
 live j g cs hj:=by
  obtain⟨b,A,a,D,rfl⟩:=AFn hj;obtain⟨Y,J⟩:=s.live b g A D;refine⟨by simpa[cx,XG,a]using Y,?_⟩;rcases J with⟨hn,rfl⟩|⟨B,N,T,fz,f,y,c,G,ad,W,l⟩;exact .inl ⟨by simpa[cx,XG,a]using hn,rfl⟩;refine .inr ⟨B,N,T,fz,f,by simpa[cx,XG,a]using y,c,by simpa[cx,XG,a]using G,by rw[Of,BW];exact ad,W,?_⟩;intro i v z;rw[Of,CR]at z;cases hu:A[i]? with
  |none=>rw[hu]at z;cases z
  |some u=>rw[hu]at z;simp only[Bs,Ao]at z;subst z;obtain⟨d,k,x⟩:=l i u hu;refine⟨d,k,Bw.ren (p:=λid=>decide (id∈bs)) (yb ·) rfl AFo x ?_⟩;have:=hb b (BN a);grind[M7,Fx.idsAll]
 lp j L hj:=by
  obtain⟨b,P,a,D,o,I⟩:=mC hj q!;cases P with
  |dead=>exact(o rfl).elim
  |live g cs=>simp[Fx.ren]at I
  |mp=>simp[Fx.ren]at I
  |it=>simp[Fx.ren]at I
  |lp L0=>simp only[Fx.ren,Fx.lp.injEq]at I;subst I;obtain⟨Y,B,r,y,c,d,k,x,C,h5,h6,h7⟩:=s.lp b L0 D;refine⟨by simpa[cx,XG,a]using Y,B,r,by simpa[cx,XG,a]using y,c,d,k,x,C,h5,h6,λt v m=>?_⟩;obtain⟨q,hq,e⟩:=Bn.1 m;simp only[Ee]at e;obtain⟨rfl,rfl⟩:=e;refine⟨(h7 q.1 q.2 hq).1,Bw.ren (p:=λid=>decide (id∈bs)) (yb ·) rfl AFo (h7 q.1 q.2 hq).2 ?_⟩;have:=hb b (BN a);grind[Fx.idsAll,List.all_eq_true]
 inj i i' e e' B d k hn1 hn2 x C:=by obtain⟨b,c0,E,R,U,_⟩:=mC d hn1;obtain⟨b',O,F,S,V,_⟩:=mC k hn2;have e:=s.inj b b' c0 O B R S U V (by simpa[XG,E]using x) (by simpa[XG,F]using C);subst e;rw[<-qZ K E,<-qZ K F]
 bld j e hj n:=by obtain⟨b,P,a,D,o,rfl⟩:=mC hj (by rintro rfl;cases n);rw[de]at n;exact(s.bld b P D n).ren (by simp[XG,a]) (by simp[XG,a]) (by simp[XG,a]) (λ_ _ _ _=>rfl)
def Nk(h:Gh)(H:Au)(bs:Ψ Nat)(hc:Gh):Gh:=
 let pick {α:Type} (f fc:Nat->α) (id:Nat):α:=if id∈bs then fc (bs.idxOf id)else if id<U H then f id else fc (U bs+(id-U H))
 ⟨pick h.io hc.io,pick h.gen hc.gen,pick h.cap hc.cap⟩
def mg:(VM H bs R).length=U H+(U R-U bs):=by simp[VM,TA]
def ZK(h:bs.Nodup)(k:U bs≤U R)(a:(VM H bs R)[N]?=Z m):
  (N∉bs/\N<U H/\H[N]?=Z m)\/∃j f,N=TY H bs j/\R[j]?=Z f/\m=f.ren (TY H bs):=by
 unfold VM at a;rcases Ay N (U H) with b|b;rw[CW (by rw[TA];exact b)]at a;by_cases g:N∈bs;have i:=iH g;rw[xI _ bs H R _ N h i b k]at a;cases d:R[bs.idxOf N]? with
 |none=>rw[d]at a;cases a
 |some f=>rw[d]at a;simp only[Bs,Ao]at a;refine .inr ⟨bs.idxOf N,f,?_,d,a.symm⟩;unfold TY;rw[C! (pD g),N6,i];rfl
 rw[iT _ bs H R g]at a;exact .inl ⟨g,b,a⟩;rw[Cl (by rw[TA];exact b),TA,CR,J6]at a;cases d:R[U bs+(N-U H)]? with
 |none=>rw[d]at a;cases a
 |some f=>rw[d]at a;simp only[Bs,Ao]at a;refine .inr ⟨_,f,?_,d,a.symm⟩;unfold TY;rw[D! o!];omega
theorem cR{hc}(f:bs.Nodup)(a:∀b∈bs,b<U H)(j:Nat)(g:j<U R):
  TY H bs j<(VM H bs R).length/\(Nk h H bs hc).gen (TY H bs j)=hc.gen j/\(Nk h H bs hc).io (TY H bs j)=hc.io j/\(Nk h H bs hc).cap (TY H bs j)=hc.cap j:=by
 rw[mg];unfold TY;split;grind[Nk];have c:U H+(j-U bs)∉bs:=λc=>by have:=a _ c;omega
 have e:U bs+(U H+(j-U bs)-U H)=j:=o!
 simp only[Nk,c,if_false,show¬(U H+(j-U bs)<U H)from by omega,e,and_true];omega
theorem np(c:bs.Nodup)(k:∀b∈bs,b<U H)(r:U bs≤U R)(s:owned (Nk h H bs O) (VM H bs R) N):
  (∃id e,id∉bs/\H[id]?=Z e/\e≠Fx.dead/\h.io id=Z N)\/owned O R N:=by
 obtain⟨id,e,o,l,a⟩:=s;rcases ZK c r o with⟨u,p,t⟩|⟨j,m,rfl,q,d⟩;grind[Nk];have i:j<U R:=k!
 rw[(cR (h:=h) (hc:=O) c k j i).2.2.1]at a;exact .inr ⟨j,m,q,λn=>l (d.trans (AAA.2 n)),a⟩
theorem HN.back(l:bs.Nodup)(k:∀b∈bs,b<U H)(x:HN (XG h bs) (Z2 H bs) w O R A):HN h H w (Nk h H bs O) (VM H bs R) A:=by
 have r:U bs<=U R:=by have:=x.n;simpa[Z2]using this
 refine⟨x.os,x.tape,x.output,x.size,λB p hn=>x.keep B p λa=>?_,?_,?_,?_,?_,x.loops⟩;obtain⟨b,e,_,g,f,i⟩:=eY a;exact hn ⟨b,e,g,f,i⟩;rw[mg];omega;intro id c;by_cases d:id∈bs;have q:=iH d;have:=x.gen (bs.idxOf id) (by simpa[Z2]using pD d);grind[Nk,XG];simp[Nk,d,c];intro id c;by_cases d:id∈bs;have q:=iH d;have:=x.same (bs.idxOf id) (by simpa[Z2]using pD d);grind[Nk,XG];simp[Nk,d,c];intro B a;rcases np l k r a with⟨id,e,_,g,f,i⟩|a;exact .inl ⟨id,e,g,f,i⟩;rcases x.fresh B a with a|a;obtain⟨b,e,_,g,f,i⟩:=eY a;exact .inl ⟨b,e,g,f,i⟩;grind
def Bw.back(g:bs.Nodup)(f:∀d∈bs,d<U H)(l:U bs≤U R)
  (r:Bw (cx (Xs X h H bs) O R w) e b):Bw (cx X (Nk h H bs O) (VM H bs R) w) (e.ren (TY H bs)) b:=by
 refine Bw.ren (x:=cx (Xs X h H bs) O R w) (y:=cx X (Nk h H bs O) (VM H bs R) w) (ρ:=TY H bs) (p:=λ_=>V) (λj _ k=>cR (h:=h) (hc:=O) g f j k) rfl (λB a=>?_) r (rX e);rcases a with a|a;exact .inl (.inl a);rcases np g f l a with a|a;exact .inl (.inr a);exact .inr a
theorem JP.back(s:JP X h H w)(l:bs.Nodup)(z:∀b∈bs,b<θ H)(x:HN (XG h bs) (Z2 H bs) w O R A)
  (sc:JP (Xs X h H bs) O R A):JP X (Nk h H bs O) (VM H bs R) A:=by
 have Y:θ bs<=θ R:=by have:=x.n;simpa[Z2]using this
 have xb:=HN.back (h:=h) l z x;have M:∀{id:Nat}{e:Fx}{B:Nat}{o:Obj},id∉bs->H[id]?=δ e->e≠.dead->h.io id=δ B->w.heap[B]?=δ o->A.heap[B]?=δ o:=by intro id e B o y E ao c d;refine(x.keep B (Pj d) λho=>?_).trans d;obtain⟨b,e',ap,I,h0,S⟩:=eY ho;exact y (s.inj id b e e' B E I ao h0 c S▸ap)
 have lt:∀{j:Nat}{D:Fx},R[j]?=δ D->j<θ R:=by intro j D F;rcases Ay j (θ R) with n|n;exact n;grind[u?]
 refine⟨λB C=>⟨DE (s.out B C).1 x.size,λho=>?_⟩,λid g cs U=>?_,λid L U=>?_,λid ar e e' B G n ad al I S=>?_,λid e U C=>?_⟩;rcases np l z Y ho with⟨id,e,_,G,h0,n⟩|ho;exact(s.out B C).2 ⟨id,e,G,h0,n⟩;exact(sc.out B (.inl C)).2 ho;rcases ZK l Y U with⟨y,k,E⟩|⟨j,D,rfl,F,a⟩;obtain⟨W,K⟩:=s.live id g cs E;refine⟨by simpa[cx,Nk,y,k]using W,?_⟩;rcases K with⟨hn,rfl⟩|⟨B,Q,T,fz,f,c,d,J,Z,V,p⟩;exact .inl ⟨by simpa[cx,Nk,y,k]using hn,rfl⟩;refine .inr ⟨B,Q,T,fz,f,by simpa[cx,Nk,y,k]using c,M y E q! c d,by simpa[cx,Nk,y,k]using J,Z,V,λi v P=>?_⟩;obtain⟨G,n,I⟩:=p i v P;exact⟨G,n,I.later (xb.later X)⟩;cases D with
 |dead=>simp[Fx.ren]at a
 |lp L=>simp[Fx.ren]at a
 |mp=>simp[Fx.ren]at a
 |it=>simp[Fx.ren]at a
 |live g0 N=>
  simp only[Fx.ren,Fx.live.injEq]at a;obtain⟨rfl,rfl⟩:=a;obtain⟨_,r1,r2,r3⟩:=cR (h:=h) (hc:=O) l z j (lt F);obtain⟨W,K⟩:=sc.live j g N F;refine⟨r1.trans W,?_⟩;rcases K with⟨hn,rfl⟩|⟨B,Q,T,fz,f,c,d,J,Z,V,p⟩;exact .inl ⟨r2.trans hn,rfl⟩;refine .inr ⟨B,Q,T,fz,f,r2.trans c,d,J.trans r3.symm,by rw[Of,BW];exact Z,V,λi v P=>?_⟩;rw[Of,CR]at P;cases hu:N[i]? with
  |none=>rw[hu]at P;cases P
  |some u=>rw[hu]at P;simp only[Bs,Ao]at P;subst P;obtain⟨G,n,I⟩:=p i u hu;exact⟨G,n,Bw.back l z Y I⟩
 rcases ZK l Y U with⟨y,k,E⟩|⟨j,D,rfl,F,a⟩;obtain⟨W,B,r,c,d,G,n,I,S,h5,h6,h7⟩:=s.lp id L E;exact⟨by simpa[cx,Nk,y,k]using W,B,r,by simpa[cx,Nk,y,k]using c,M y E q! c d,G,n,I,S,h5,h6,λt v m=>⟨(h7 t v m).1,(h7 t v m).2.later (xb.later X)⟩⟩;cases D with
 |dead=>simp[Fx.ren]at a
 |live g0 N=>simp[Fx.ren]at a
 |mp=>simp[Fx.ren]at a
 |it=>simp[Fx.ren]at a
 |lp L0=>simp only[Fx.ren,Fx.lp.injEq]at a;subst a;obtain⟨_,r1,r2,r3⟩:=cR (h:=h) (hc:=O) l z j (lt F);obtain⟨W,B,r,c,d,G,n,I,S,h5,h6,h7⟩:=sc.lp j L0 F;refine⟨r1.trans W,B,r,r2.trans c,d,G,n,I,S,h5,h6,λt v m=>?_⟩;obtain⟨q,hq,e⟩:=Bn.1 m;simp only[Ee]at e;obtain⟨rfl,rfl⟩:=e;exact⟨(h7 q.1 q.2 hq).1,Bw.back l z Y (h7 q.1 q.2 hq).2⟩
 have key:∀{id:Nat}{e:Fx},(VM H bs R)[id]?=δ e→e≠.dead→(Nk h H bs O).io id=δ B→
   (id∉bs/\H[id]?=δ e/\h.io id=δ B)\/∃j D,id=TY H bs j/\R[j]?=δ D/\D≠.dead/\O.io j=δ B:=by
  intro id e U ao c;rcases ZK l Y U with⟨y,k,E⟩|⟨j,D,rfl,F,a⟩;exact .inl ⟨y,E,by simpa[Nk,y,k]using c⟩;exact .inr ⟨j,D,rfl,F,λh0=>ao (a.trans (AAA.2 h0)),by rw[<-(cR (h:=h) (hc:=O) l z j (lt F)).2.2.1];exact c⟩
 rcases key G ad I with⟨m1,a1,b1⟩|⟨j1,g1,e1,a1,d1,b1⟩<;>rcases key n al S with⟨m2,a2,b2⟩|⟨j2,g2,e2,a2,d2,b2⟩;exact s.inj _ _ _ _ B a1 a2 ad al b1 b2;exact((sc.out B (.inr ⟨_,_,m1,a1,ad,b1⟩)).2 ⟨j2,g2,a2,d2,b2⟩).elim;exact((sc.out B (.inr ⟨_,_,m2,a2,al,b2⟩)).2 ⟨j1,g1,a1,d1,b1⟩).elim;rw[e1,e2,sc.inj _ _ _ _ B a1 a2 d1 d2 b1 b2];rcases ZK l Y U with⟨y,k,E⟩|⟨j,D,rfl,F,rfl⟩;have b:=s.bld id e E C;have a:e.ren (λx=>x)=e:=by cases e<;>simp_all[Fx.ren,Fx.isB]
 have:=b.ren (h':=Nk h H bs O) (w':=A) (id':=id) (ρ:=λx=>x) (by simp[Nk,y,k]) (by simp[Nk,y,k]) (by simp[Nk,y,k]) (λB o c hb=>(M y E (by rintro rfl;cases C) c hb).trans hb.symm);rwa [a]at this;rw[de]at C;obtain⟨_,r1,r2,r3⟩:=cR (h:=h) (hc:=O) l z j (lt F);exact(sc.bld j D F C).ren r2 r1 r3 (λ_ _ _ _=>rfl)
end
def oV(env:Env)(c:Call)(first caps:Ψ Ad):Ψ Ad:=first++c.args.toList.map (BP env)++caps
def fI(P:Program)(s f:Nat):Ω (Nat×TypeId×Nat):=
 match P.underlying s with
 |some (.struct fs)=>
  match fs[f]? with
  |some fd=>
   match tI P fd.type with
   |some (_,n)=>Z (fd.offset,fd.type,n)
   |none=>W
  |none=>W
 |_=>W
def eI(P:Program)(t:TypeId):Ω (Ω Nat×TypeId×Nat):=
 match P.underlying t with
 |some (.array len e)=>(tI P e).map λi=>(Z len,e,i.2)
 |some (.slice e)=>(tI P e).map λi=>(W,e,i.2)
 |_=>W
inductive Kd where
 |bool|int (k:IntKind)|str|bytes|other
 deriving DecidableEq
def kd(P:Program)(t:TypeId):Kd:=
 match P.underlying t with
 |some .bool=>.bool
 |some (.int k)=>.int k
 |some .string=>.str
 |some (.slice e)=>match P.underlying e with|some (.int .u8)=>.bytes|_=>.other
 |_=>.other
def Tl(H:Au)(id g:Nat):Bool:=
 match H[id]? with
 |some (.live g' _)=>g'==g
 |_=>Y
def JP.cur{w}(s:JP X h H w)(a:Tl H N t=V):h.gen N=t:=by unfold Tl at a;split at a;rename_i c b d;have:=(s.live N c b d).1;simp at a;exact this.trans a;cases a
def shift(H:Au)(k:Nat):Ad->Ω Ad
 |.ptr id g off=>if Tl H id g then Z (.ptr id g (off+k))else W
 |.vptr cs=>if k<=U cs then Z (.vptr (cs.drop k))else W
 |_=>W
theorem xK(s:JP c h H w)(r:Bw (cx c h H w) e b)(k:shift H N e=Z p):
  ∃B a,b=.pointer (Z ⟨B,a,W⟩)/\Bw (cx c h H w) p (.pointer (Z ((⟨B,a,W⟩:Addr).add N))):=by
 cases r with
 | @ptr id g a b X o t l=>simp only[shift]at k;split at k;rename_i d;simp at k;subst k;obtain⟨B,i,rfl⟩:=l (s.cur d);refine⟨B,a,rfl,.ptr X o rfl λ_=>⟨B,i,by rw[Ox]⟩⟩;cases k
 | @vptr q B a f n m l x=>simp only[shift]at k;split at k;simp at k;subst k;refine⟨B,a,rfl,?_⟩;rw[Ox];refine .vptr (λj=>f (N+j)) n m (λj e v=>?_) λj e v=>?_;grind;grind;cases k
 |_=>grind[shift]
def WS(P:Program)(H:Au)(s f:Nat)(v:Ad):Ω Ad:=
 match fI P s f with
 |some (off,_,n)=>if n=0 then W else shift H off v
 |none=>W
def vg(sim:JP c h H w)(r:Bw (cx c h H w) e b)(d:WS P H N t e=Z p):
  ∃i,(Instr.fieldAt N b t).run P w=.ok i w/\Bw (cx c h H w) p i:=by
 unfold WS at d;split at d;rename_i k X n a;split at d;cases d;rename_i hn;obtain⟨B,o,rfl,hr⟩:=xK sim r d;unfold fI at a;split at a;rename_i v g;split at a;rename_i l s;split at a;rename_i f m j;obtain⟨rfl,rfl,rfl⟩:=a;refine⟨_,?_,hr⟩;simp[Instr.fieldAt,run_underlying g,s,Instr.sureAddr,fieldPlace,La j,hn];cases a;cases a;cases a;cases d
def WX(P:Program)(H:Au)(t:TypeId)(v:Ad)(i:Ad):Ω Ad:=
 match eI P t,i with
 |some (Z len,_,sz),.int _ i=>if 0<=i/\i<len then shift H (i.toNat*sz) v else W
 |some (W,_,sz),.int _ i=>
  match v with
  |.vs sz' rows=>if 0<=i/\sz=sz' then(rows[i.toNat]?).map λe=>.vptr e.cells else W
  |.sl id g sz' off len=>if 0<=i/\i<len/\sz=sz'/\Tl H id g=V then Z (.ptr id g (off+i.toNat*sz))else W
  |_=>W
 |_,_=>W
theorem vo(sim:JP c h H w)(r:Bw (cx c h H w) e b)(T:Bw (cx c h H w) p B)
  (l:WX P H a e p=δ G):∃O,(Instr.indexAt a b B).run P w=.ok O w/\Bw (cx c h H w) G O:=by
 unfold WX at l;split at l;rename_i len X sz k n u;cases T;split at l;rename_i A;obtain⟨i,o,rfl,hr⟩:=xK sim r l;unfold eI at u;split at u;rename_i F y d;cases m:tI P y with
 |none=>rw[m]at u;cases u
 |some Q=>rw[m]at u;simp only[Bs,Ao,Ee]at u;obtain⟨rfl,rfl,rfl⟩:=u;refine⟨_,?_,hr⟩;simp[Instr.indexAt,asIntOf,run_underlying d,Instr.sureAddr,A,La m]
 rename_i y d;cases m:tI P y<;>grind;cases u;cases l;rename_i X sz k n u;cases T;have d:∃p,P.underlying a=δ (.slice X)/\tI P X=δ p/\p.2=sz:=by
  unfold eI at u;split at u;rename_i F y d;cases m:tI P y with
  |none=>rw[m]at u;cases u
  |some Q=>rw[m]at u;simp at u
  rename_i y d;cases m:tI P y with
  |none=>rw[m]at u;cases u
  |some Q=>rw[m]at u;simp only[Bs,Ao,Ee]at u;obtain⟨_,rfl,rfl⟩:=u;exact⟨Q,d,m,rfl⟩
  cases u
 obtain⟨Q,d,m,rfl⟩:=d;cases r with
 | @vs N q v cap f C Y S W Z=>
  simp only at l;split at l;rename_i A;obtain⟨t,rfl⟩:=A;cases x:q[n.toNat]? with
  |none=>rw[x]at l;cases l
  |some R=>
   rw[x]at l;simp only[Bs,Ao]at l;subst l;have s:n.toNat<θ q:=by rcases Ay n.toNat (θ q) with I|I;exact I;rw[Cq I]at x;cases x
   obtain⟨i,z,rfl,V,U,J⟩:=W (by intro X;rw[X]at s;simp at s);refine⟨.pointer (δ ⟨i,z+n.toNat*Q.2,ε⟩),?_,.vptr (f n.toNat ·) V U (λj e M=>?_) λj e M=>Z _ R _ e x M⟩;have E:n<θ q:=o!
   simp[Instr.indexAt,asIntOf,run_underlying d,t,E,La m,Ox];have:=J _ R j e x M;rw[WE];exact this
  cases l
 | @sl id g N z len b K x h1 J=>simp only at l;split at l;rename_i A;obtain⟨t,s,rfl,D⟩:=A;simp only[Ao]at l;subst l;rcases J (sim.cur D)with⟨_,hl,_,_⟩|⟨i,cap,L,C,_,rfl⟩;omega;refine⟨.pointer (δ ⟨i,z+n.toNat*Q.2,ε⟩),?_,.ptr K x rfl λ_=>⟨i,L,rfl⟩⟩;simp[Instr.indexAt,asIntOf,run_underlying d,t,s,La m,Ox];cases l
 |_=>cases l
 cases l
def vB(P:Program)(t:TypeId)(cs:Ψ Ad)(off:Nat):Ω Ad:=
 match tI P t with
 |some (V,n)=>if off+n<=U cs then Z (.agg ((cs.drop off).take n))else W
 |some (Y,_)=>cs[off]?
 |none=>W
theorem zu{P:Program}{w:World}(l:i.size=U d)(o:∀(j:Nat)(c:Value),i[j]?=Z c→c.oneCell'=V)
  (m:∀(j:Nat)(v:Ad)(c:Value),d[j]?=Z v->i[j]?=Z c->Bw f v c) (b:vB P a d N=Z e):∃c,(part a i N).run P w=.ok c w/\Bw f e c:=by
 unfold vB at b;split at b;rename_i n t;split at b;rename_i x;simp at b;subst b;refine⟨.agg (i.extract N (N+n)),by simp[part,YS t,La t],.agg w! (λj c h=>?_) λj v c h g=>?_⟩;grind[Array.getElem?_extract];grind;cases b;rename_i n t;have k:N<U d:=k!
 have g:i[N]?=Z (i[N]' o!):=N5 o!;exact⟨_,by simp[part,YS t,g],m N e _ b g⟩;cases b
def uK(P:Program)(s f:Nat)(v:Ad):Ω Ad:=
 match fI P s f,v with
 |some (off,t,_),.agg cs=>vB P t cs off
 |_,_=>W
def AC6(r:Bw f e b)(d:uK P N t e=Z p):∃s,(Instr.field N b t).run P w=.ok s w/\Bw f p s:=by
 unfold uK at d;split at d;rename_i o v n i a;cases r with
 | @agg i j g k m=>obtain⟨s,l,hr⟩:=zu (P:=P) (w:=w) g k m d;unfold fI at a;split at a;rename_i q h;split at a;rename_i u x;split at a;simp at a;obtain⟨rfl,rfl,rfl⟩:=a;exact⟨s,by simp[Instr.field,run_underlying h,x,asAgg,l],hr⟩;cases a;cases a;cases a
 cases d
def kg(P:Program)(t:TypeId)(v i:Ad):Ω Ad:=
 match v,i with
 |.agg cs,.int _ i=>
  match eI P t with
  |some (Z len,e,sz)=>if 0<=i/\i<len then vB P e cs (i.toNat*sz)else W
  |_=>W
 |.str s,.int _ i=>if kd P t=.str/\0<=i then(s[i.toNat]?).map λb=>.int .u8 b.toNat else W
 |_,_=>W
theorem uj{P}(h:kd P a=.str):P.underlying a=Z .string:=by unfold kd at h;grind
theorem AI7(h:kd P a=.int D):P.underlying a=Z (.int D):=by unfold kd at h;grind
theorem ADC(r:Bw f e b)(u:Bw f p B)(i:kg P a e p=Z G):∃t,(Instr.index a b B).run P w=.ok t w/\Bw f G t:=by
 unfold kg at i;split at i;rename_i C k n;cases u;split at i;rename_i len x sz d;split at i;rename_i g;cases r with
 | @agg C D m F J=>
  obtain⟨t,v,hr⟩:=zu (P:=P) (w:=w) m F J i;unfold eI at d;split at d;rename_i A E o;cases z:tI P E with
  |none=>grind
  |some q=>rw[z]at d;simp only[Bs,Ao,Ee]at d;obtain⟨rfl,rfl,rfl⟩:=d;exact⟨t,by simp[Instr.index,asIntOf,run_underlying o,g,La z,v],hr⟩
  simp_all;cases d
 cases i;cases i;rename_i s k n;cases u;cases r with
 | @str s h I=>
  split at i;rename_i g;subst I;cases y:h.data.toList[n.toNat]? with
  |none=>grind
  |some c=>
   rw[y]at i;simp only[Bs,Ao]at i;subst i;have j:h[n.toNat]?=Z c:=by
    obtain⟨H,d⟩:=EU.1 y;have l:n.toNat<h.size:=by simpa using H
    rw[getElem?_pos h n.toNat l];exact E! Z d
   exact⟨.int .u8 c.toNat,by simp[Instr.index,asIntOf,run_underlying (uj g.1),g.2,j],.int _ _⟩
  cases i
 cases i
def ADe(P:Program)(g:TypeId->Option (List Kd)):List Field->Nat->Option (List Kd)
 |[],_=>some []
 |f::r,off=>
  if f.offset=off/\(f.name== "_")=false then
   match g f.type with
   |some ks=>if ks.length=P.cellsOf f.type then(ADe P g r (off+ks.length)).map (ks++ ·)else none
   |none=>none
  else none
def xi(P:Program):Nat->TypeId->Ω (Ψ Kd)
 |0,_=>W
 |d+1,t=>
  match P.underlying t with
  |some .bool=>Z [.bool]
  |some (.int k)=>Z [.int k]
  |some .string=>Z [.str]
  |some (.array n e)=>
   match xi P d e with
   |some ks=>if U ks=P.cellsOf e/\(P.info? e).isSome then Z (ς n ks).flatten else W
   |none=>W
  |some (.struct fs)=>if P.stoodInHeld t then W else ADe P (xi P d) fs.toList 0
  |_=>W
def AA1:Kd->Ad->Bool
 |.bool,.bool _=>V
 |.int k,.int k' _=>decide (k=k')
 |.str,.str _=>V
 |_,_=>Y
def typed:Ψ Kd->Ψ Ad->Bool
 |[],[]=>V
 |k::ks,v::vs=>AA1 k v&&typed ks vs
 |_,_=>Y
def sEq:Ad->Ad->Bool
 |.bool a,.bool b=>a==b
 |.int _ a,.int _ b=>a==b
 |.str a,.str b=>a==b
 |_,_=>Y
def vf:Ψ Ad->Ψ Ad->Bool
 |[],[]=>V
 |a::as,b::bs=>sEq a b&&vf as bs
 |_,_=>Y
variable {C:Ψ Kd}
def YF{b:Ψ Kd}:∀{a:Ψ Ad},typed (C++b) a=V->typed C (a.take (U C))=V/\typed b (a.drop (U C))=V:=by
 induction C with
 |nil=>intro a h;exact⟨by simp[typed],by simpa using h⟩
 |cons k f e=>
  intro a h;cases a with
  |nil=>simp[typed]at h
  |cons v a=>simp only[ET,typed,BV]at h;obtain⟨c,d⟩:=e h.2;exact⟨by simp[typed,h.1,c],by simpa using d⟩
def Gy:∀{a:Ψ Kd}{b:Ψ Ad},typed a b=V->U b=U a
 |[],[],_=>rfl
 |_::_,_::_,h=>by simp only[typed,BV]at h;simp[Gy h.2]
 |[],_::_,h=>by simp[typed]at h
 |_::_,[],h=>by simp[typed]at h
def qN:∀(n:Nat)(c bs:Ψ Ad),U c=U bs->vf c bs=(vf (c.take n) (bs.take n)&&vf (c.drop n) (bs.drop n))
 |0,c,bs,_=>by simp[vf]
 |n+1,[],[],_=>by simp[vf]
 |n+1,a::c,b::bs,h=>by simp only[BY,Nat.add_right_cancel_iff]at h;simp only[vf,List.take_succ_cons,List.drop_succ_cons,qN n c bs h,Bool.and_assoc]
 |n+1,[],_::_,h=>by simp at h
 |n+1,_::_,[],h=>by simp at h
def Over(P:Program)(x:Cx)(t:TypeId)(as:Ψ Ad)(a:Value):Prop:=
 ∃(b:Bool)(n:Nat)(cs:Ψ Value),tI P t=Z (b,n)/\U as=n/\mq x as cs/\(if b then a=.agg cs.toArray else cs=[a])
def EqF(P:Program)(d:Nat)(t:TypeId)(ks:Ψ Kd):Prop:=
 ∀(w:World)(x:Cx)(a b:Value)(as bs:Ψ Ad),Over P x t as a->Over P x t bs b->typed ks as=V->typed ks bs=V->(Op.equalIn d t a b).run P w=.ok (vf as bs) w
def lq{P}{off n:Nat}{w:World}(hr:mq f d x)(t:tI P a=Z (s,n))(m:s=Y→n=1)(o:off+n≤U d):
  ∃h,(part a x.toArray off).run P w=.ok h w/\Over P f a ((d.drop off).take n) h:=by
 have e:mq f ((d.drop off).take n) ((x.drop off).take n):=by refine⟨by simp[hr.1],λj v c g i=>?_⟩;rw[YY]at g i;split at g;rename_i k;rw[C! k]at i;rw[J6]at g i;exact hr.2 _ v c g i;cases g
 cases s with
 |true=>refine⟨.agg (x.toArray.extract off (off+n)),by simp[part,YS t,La t],V,n,(x.drop off).take n,t,w!,e,?_⟩;simp only[if_true,Value.agg.injEq];apply Array.toList_inj.1;simp only[Array.toList_extract,wC,TS]
 |false=>
  obtain rfl:=m rfl;have l:off<U x:=by rw[hr.1];omega
  refine⟨x[off],by simp[part,YS t,l],Y,1,(x.drop off).take 1,t,w!,e,?_⟩;rw[D! q!,Tq l];rfl
def nu{d}(h:xi P d a=Z C):∃b,tI P a=Z (b,P.cellsOf a)/\(b=Y->U C=1):=by
 cases d with
 |zero=>simp[xi]at h
 |succ d=>
  unfold xi at h;unfold tI Program.cellsOf;cases f:P.info? a with
  |none=>
   have t:P.underlying a=W:=by simp[Program.underlying,f]
   rw[t]at h;cases h
  |some i=>
   cases t:P.underlying a with
   |none=>rw[t]at h;cases h
   |some c=>rw[t]at h;refine⟨_,rfl,?_⟩;cases c<;>simp_all<;>(subst h;rfl)
def AAD{P:Program}{d:Nat}{g:TypeId→Option (List Kd)}(C: ∀t i,g t=some i→EqF P d t i∧ ∃b,tI P t=some (b,P.cellsOf t)∧(b=false→i.length=1)){x:Cx}{w:World}{l bs:List Ad}{H I:List Value}
  (A:mq x l H) (B:mq x bs I) (j:l.length=bs.length): ∀(m:List Field) (h:Nat) (i:List Kd),ADe P g m h=some i->h<=l.length->typed i (l.drop h)=true->typed i (bs.drop h)=true->(Op.eqFields d H.toArray I.toArray m).run P w= .ok (vf (l.drop h) (bs.drop h)) w
 |[],h,i,hk,_,ta,tb=>by simp only[ADe,Ao]at hk;subst hk;have J:=Gy ta;have K:=Gy tb;rw[Eh J,Eh K];simp[Op.eqFields,vf]
 |f::m,h,i,hk,ho,ta,tb=>by
  simp only[ADe]at hk;split at hk;rename_i L;obtain⟨rfl,k⟩:=L;split at hk;rename_i k1 u;split at hk;rename_i o;cases hr:ADe P g m (f.offset+k1.length)with
  |none=>rw[hr]at hk;cases hk
  |some N=>
   rw[hr]at hk;simp only[Bs,Ao]at hk;subst hk;obtain⟨q,y⟩:=YF ta;obtain⟨r,z⟩:=YF tb;obtain⟨s,b,D,n⟩:=C _ _ u;have E:=Gy q;have O:=Gy r;have v:f.name≠ "_" :=by simpa using k
   obtain⟨a,Q,F⟩:=lq (P:=P) (w:=w) (off:=f.offset) A D (λe=>o▸n e) (by rw[<-o];simp at E;omega);obtain⟨c,R,G⟩:=lq (P:=P) (w:=w) (off:=f.offset) B D (λe=>o▸n e) (by rw[<-o];simp at O;omega);rw[<-o]at F G;have p:=s w x a c _ _ F G q r;have M:=AAD C (w:=w) A B j m (f.offset+k1.length) N hr (by simp at E;omega) (by simpa[J5]using y) (by simpa[J5]using z);rw[qN k1.length _ _ (by simp[j])];simp only[Op.eqFields,if_pos v,Sem.run_bind,Q,R,p,Result.andThen_ok];cases vf ((l.drop f.offset).take k1.length) ((bs.drop f.offset).take k1.length);simp;simp only[B9,RR,if_false,YI,M,J5]
  cases hk;cases hk;cases hk
def xG{P:Program}{d:Nat}{e:TypeId}{f:Ψ Kd}(o:EqF P d e f){b:Bool}(s:tI P e=Z (b,U f))(j:b=Y→U f=1){x:Cx}{w:World}{h bs:Ψ Ad}{z A:Ψ Value}
  (u:mq x h z) (v:mq x bs A) (g:U h=U bs):∀(n i:Nat),i*U f<=U h->typed (ς n f).flatten (h.drop (i*U f))=V->typed (ς n f).flatten (bs.drop (i*U f))=V->(Op.eqItems d e (U f) z.toArray A.toArray (List.range' i n)).run P w=.ok (vf (h.drop (i*U f)) (bs.drop (i*U f))) w
 |0,i,_,ta,tb=>by have B:=Gy ta;have C:=Gy tb;rw[Eh (l:=h.drop _) (by simpa using B),Eh (l:=bs.drop _) (by simpa using C)];simp[Op.eqItems,vf]
 |n+1,i,ho,ta,tb=>by
  rw[nA,pw]at ta tb;obtain⟨q,k⟩:=YF ta;obtain⟨r,m⟩:=YF tb;have y:=Gy q;have E:=Gy r;obtain⟨a,H,F⟩:=lq (P:=P) (w:=w) (off:=i*U f) u s j (by simp at y;omega);obtain⟨c,I,G⟩:=lq (P:=P) (w:=w) (off:=i*U f) v s j (by simp at E;omega);have p:=o w x a c _ _ F G q r;rw[J5]at k m;have t:i*U f+U f=(i+1)*U f:=by rw[EB];omega
  rw[t]at k m;have D:=xG o s j (w:=w) u v g n (i+1) (by simp at y;omega) k m;rw[qN (U f) _ _ (by simp[g]),J5,J5,t];rw[List.range'_succ];simp only[Op.eqItems,Sem.run_bind,H,I,p,Result.andThen_ok];cases vf ((h.drop (i*U f)).take (U f)) ((bs.drop (i*U f)).take (U f));simp;simp[D]
def xj{P}(d:Nat):∀(m:Nat)(t:TypeId)(y:Ψ Kd),xi P m t=δ y->EqF P (d+m) t y
 |0,_,_,h=>by simp[xi]at h
 |m+1,t,y,h=>by
  obtain⟨bt,T,_⟩:=nu h;intro w x a b F bs X Y o p;obtain⟨O,n1,xs,c,U,ra,j⟩:=X;obtain⟨Z,n2,ys,r,V,E,l⟩:=Y;rw[c]at r;simp only[Ao,Ee]at r;obtain⟨rfl,rfl⟩:=r;have I:=Gy o;have J:=Gy p;have g:∀q,P.underlying t=δ q->O=(match q with|.struct _|.array _ _=>ζ|_=>η):=by intro q S;unfold tI at c;rw[S]at c;split at c;rename_i G;injection G with e;subst e;simp only[Ao,Ee]at c;exact c.1.symm;cases c
  unfold xi at h;split at h;rename_i f;simp only[Ao]at h;subst h;have:=g _ f;simp only at this;subst this;simp only[RR,if_false]at j l;subst j l;match F,I,bs,J with
  |[u],_,[v],_=>have C:=ra.2 0 u a rfl rfl;have D:=E.2 0 v b rfl rfl;simp only[typed,RQ]at o p;cases u<;>simp[AA1]at o;cases v<;>simp[AA1]at p;cases C;cases D;rw[show d+(m+1)=(d+m)+1 from rfl,run_equalIn_bool' w (d+m) t _ _ f];simp[vf,sEq]
  rename_i k f;simp only[Ao]at h;subst h;have:=g _ f;simp only at this;subst this;simp only[RR,if_false]at j l;subst j l;match F,I,bs,J with
  |[u],_,[v],_=>have C:=ra.2 0 u a rfl rfl;have D:=E.2 0 v b rfl rfl;simp only[typed,RQ]at o p;cases u<;>simp[AA1]at o;cases v<;>simp[AA1]at p;cases C;cases D;subst o p;rw[show d+(m+1)=(d+m)+1 from rfl,run_equalIn_int w (d+m) t _ _ _ _ f];simp[vf,sEq]
  rename_i f;simp only[Ao]at h;subst h;have:=g _ f;simp only at this;subst this;simp only[RR,if_false]at j l;subst j l;match F,I,bs,J with
  |[u],_,[v],_=>
   have C:=ra.2 0 u a rfl rfl;have D:=E.2 0 v b rfl rfl;simp only[typed,RQ]at o p;cases u<;>simp[AA1]at o;cases v<;>simp[AA1]at p;cases C with
   |str s1 Q=>
    cases D with
    |str s2 R=>subst Q R;rw[show d+(m+1)=(d+m)+1 from rfl,run_equalIn_string w (d+m) t _ _ f];simp[vf,sEq,ByteArray.toList_eq]
  rename_i n e f;split at h;rename_i k1 A;split at h;rename_i H;simp only[Ao]at h;subst h;have:=g _ f;simp only at this;subst this;simp only[if_true]at j l;subst j l;obtain⟨N,s⟩:=fP.1 H.2;obtain⟨b,L,B⟩:=nu A;rw[<-H.1]at L;have i:=xG (xj d m e k1 A) L B (w:=w) ra E o! n 0 q! (by simpa using o) (by simpa using p);rw[show d+(m+1)=(d+m)+1 from rfl,run_equalIn_array w (d+m) _ _ f s,<-H.1,List.range_eq_range'];simpa using i;cases h;cases h;rename_i K f;split at h;cases h;rename_i W;have:=g _ f;simp only at this;subst this;simp only[if_true]at j l;subst j l;have z:P.fieldsOf t=K:=by simp[Program.fieldsOf,f]
  have i:=AAD (d:=d+m) (λt y M=>⟨xj d m t y M,nu M⟩) (w:=w) ra E o! K.toList 0 y h q! (by simpa using o) (by simpa using p);rw[show d+(m+1)=(d+m)+1 from rfl,run_equalIn_struct w (d+m) t _ _ (by rw[z];exact f) (by simpa using W),z];simpa using i;cases h
def py(op:BinOp)(k:IntKind)(a b:Int):Ω Ad:=
 match op with
 |.add=>Z (.int k (k.wrap (a+b)))
 |.sub=>Z (.int k (k.wrap (a-b)))
 |.mul=>Z (.int k (k.wrap (a*b)))
 |.quo=>if b=0 then W else Z (.int k (k.wrap (a.tdiv b)))
 |.rem=>if b=0 then W else Z (.int k (a.tmod b))
 |.and=>Z (.int k (k.wrap (κ k.bits a&&&κ k.bits b).toNat))
 |.or=>Z (.int k (k.wrap (κ k.bits a|||κ k.bits b).toNat))
 |.xor=>Z (.int k (k.wrap (κ k.bits a^^^κ k.bits b).toNat))
 |.andNot=>Z (.int k (k.wrap (κ k.bits a&&& ~~~κ k.bits b).toNat))
 |.eql=>Z (.bool (a==b))
 |.neq=>Z (.bool (a !=b))
 |.lss=>Z (.bool (τ (a<b)))
 |.leq=>Z (.bool (τ (a<=b)))
 |.gtr=>Z (.bool (τ (a>b)))
 |.geq=>Z (.bool (τ (a>=b)))
 |.shl|.shr=>W
def AAh{d b}(w:World)(h:py F D d b=Z e):∃c,(binOp F a (.int D d) (.int D b)).run P w=.ok c w/\Bw f e c:=by
 cases F<;>simp only[py]at h<;>(try split at h)<;>first
  |cases h;done
  |(simp at h;subst h;first
    |exact⟨_,by simp[binOp,Op.intArith,Op.intDiv,Op.intBits, *],.int _ _⟩
    |exact⟨_,by simp[binOp,Op.intCmp],.bool _⟩)
def lC(op:BinOp)(k:IntKind)(a b:Int):Option Ad:=
 if b<0 then none else
 match op with
 | .shl=>some (.int k (k.wrap (a*2^min b.toNat k.bits)))
 | .shr=>some (.int k (a.fdiv (2^min b.toNat k.bits)))
 |_=>none
def AEP(P:Program)(t:TypeId):Ω (Ψ Kd):=
 if P.eqGuardType P.depth t then W else
 match xi P 12 t with
 |some ks=>if tI P t=Z (V,U ks)then Z ks else W
 |none=>W
def xa(op:BinOp)(a b:Ψ UInt8):Ω Ad:=
 match op with
 |.add=>if U a+U b<=9223372036854775807 then Z (.str (a++b))else W
 |.eql=>Z (.bool (a==b))
 |.neq=>Z (.bool (a !=b))
 |.lss=>Z (.bool (Op.bytesLess a b))
 |.leq=>Z (.bool (Op.bytesLess a b||a==b))
 |.gtr=>Z (.bool (!(Op.bytesLess a b||a==b)))
 |.geq=>Z (.bool (!Op.bytesLess a b))
 |_=>W
def y8(P:Program)(op:BinOp)(t:TypeId)(x y:Ad):Ω Ad:=
 match x,y with
 |.int k a,.int k' b=>
  match op with
  |.shl|.shr=>lC op k a b
  |_=>if k=k' then py op k a b else W
 |.bool a,.bool b=>
  match op with
  |.eql=>if kd P t=.bool then Z (.bool (a==b))else W
  |.neq=>if kd P t=.bool then Z (.bool (!(a==b)))else W
  |_=>W
 |.str a,.str b=>xa op a b
 |.agg as,.agg bs=>
  match AEP P t with
  |some ks=>
   if typed ks as=V/\typed ks bs=V then
    match op with
    |.eql=>Z (.bool (vf as bs))
    |.neq=>Z (.bool (!vf as bs))
    |_=>W
   else W
  |none=>W
 |_,_=>W
theorem ACG(h:kd P a=.bool):P.underlying a=Z .bool:=by unfold kd at h;grind
def toList_data(t:ByteArray):t.toList=t.data.toList:=ByteArray.toList_eq t
def AGR(w:World)(ra:Bw f e b)(A:Bw f p B)(h:y8 P F a e p=some G):
  ∃c,(do eqGuard F a k L b B;binOp F a b B:Sem Value).run P w= .ok c w/\Bw f G c:=by
 unfold y8 at h;split at h;rename_i t n T U;cases ra;cases A;have m:(eqGuard F a k L (.int t n) (.int T U)).run P w= .ok () w:=by unfold eqGuard;cases F<;>simp
 simp only[Sem.run_bind,m,Result.andThen_ok];split at h;unfold lC at h;split at h;cases h;rename_i C;simp only[Ao]at h;subst h;exact⟨_,by simp[binOp,Op.shift,C],.int _ _⟩;unfold lC at h;split at h;cases h;rename_i C;simp only[Ao]at h;subst h;exact⟨_,by simp[binOp,Op.shift,C],.int _ _⟩;simp_all[AAh];rename_i X q;cases ra;cases A;have m:(eqGuard F a k L (.bool X) (.bool q)).run P w= .ok () w:=by unfold eqGuard;cases F<;>simp
 simp only[Sem.run_bind,m,Result.andThen_ok];split at h;split at h;rename_i I;simp only[Ao]at h;subst h;exact⟨_,run_eql_bool w a X q (ACG I),.bool _⟩;cases h;split at h;rename_i I;simp only[Ao]at h;subst h;refine⟨_,?_,.bool _⟩;simp only[binOp];simp[run_equal_bool w a X q (ACG I)];cases h;cases h
 ·rename_i s1 s2;cases ra with
  |str s g=>
   cases A with
   |str z O=>
    have m:(eqGuard F a k L (.string s) (.string z)).run P w= .ok () w:=by unfold eqGuard;cases F<;>simp
    simp only[Sem.run_bind,m,Result.andThen_ok];subst g O;unfold xa at h;split at h;split at h;rename_i S;simp only[Ao]at h;subst h;have o: ¬(((s.size+z.size:Nat):Int)>IntKind.i64.max):=by
     have Z:s.data.toList.length=s.size:=q!
     have e2:z.data.toList.length=z.size:=q!
     have K:IntKind.i64.max=9223372036854775807:=g!
     rw[K];omega
    exact⟨.string (s++z),by simp only[binOp];simp only[Op.stringOp,if_neg o];rfl,.str _ q!⟩;cases h;all_goals first
     |cases h;done
     |(simp only[Ao]at h
       subst h;exact⟨_,by simp only[binOp];simp[Op.stringOp,toList_data,bne],.bool _⟩)
 rename_i u bs;cases ra with
 | @agg u b V M Y=>
  cases A with
  | @agg bs B W N vb=>
   split at h;rename_i ks d;unfold AEP at d;split at d;cases d;rename_i y;split at d;rename_i J E;split at d;rename_i r;simp only[Ao]at d;subst d;split at h;rename_i i;have x:=xj (P:=P) 9988 12 a J E;have Q:=Gy i.1;have R:=Gy i.2;have l:(Op.equalIn 10000 a (.agg b) (.agg B)).run P w= .ok (vf u bs) w:=
    x w f (.agg b) (.agg B) u bs ⟨true,_,b.toList,r,o!,⟨by simpa using V,λj v c H D=>Y j v c H (by simpa using D)⟩,q!⟩
     ⟨true,_,B.toList,r,o!,⟨by simpa using W,λj v c H D=>vb j v c H (by simpa using D)⟩,q!⟩ i.1 i.2
   have m:(eqGuard F a k L (.agg b) (.agg B)).run P w= .ok () w:=run_eqGuard_agg w F a k L b B (by simpa using y);simp only[Sem.run_bind,m,Result.andThen_ok];split at h;simp only[Ao]at h;subst h;exact⟨_,by rw[run_eql_struct,l];rfl,.bool _⟩;simp only[Ao]at h;subst h;exact⟨_,by rw[run_neq_struct,l];rfl,.bool _⟩;cases h;cases h;cases d;cases d;cases h
 cases h
def unV(op:UnOp)(v:Ad):Ω Ad:=
 match op,v with
 |.neg,.int k n=>Z (.int k (k.wrap (0-n)))
 |.xor,.int k n=>Z (.int k (k.wrap (κ k.bits (if k.signed then-1 else k.max)^^^κ k.bits n).toNat))
 |.not,.bool b=>Z (.bool !b)
 |_,_=>W
def AJh{v}(w:World)(r:Bw f e b)(h:unV v e=Z p):∃a,(Op.unary v b).run P w=.ok a w/\Bw f p a:=by unfold unV at h;split at h;cases r;simp at h;subst h;exact⟨_,by simp[Op.unary,Op.intArith],.int _ _⟩;cases r;simp at h;subst h;exact⟨_,by simp only[Op.unary];rfl,.int _ _⟩;cases r;simp at h;subst h;exact⟨_,by simp[Op.unary],.bool _⟩;cases h
def rowsOf(H:Au):Ad->Ω (Ψ Ad)
 |.vs sz rows=>if sz=1 then Z (rows.flatMap Ad.cells)else W
 |.sl id g sz off len=>
  match H[id]? with
  |some (.live g' cs)=>if g=g'/\sz=1/\off+len<=U cs then Z ((cs.drop off).take len)else W
  |_=>W
 |.nils=>Z []
 |_=>W
def u8s:Ψ Ad->Ω (Ψ UInt8)
 |[]=>Z []
 |.int .u8 n::r=>(u8s r).map (UInt8.ofNat n.toNat:: ·)
 |_=>W
def Xl(P:Program)(H:Au)(src dst:TypeId)(v:Ad):Ω Ad:=
 match kd P dst,v with
 |.int k,.int _ n=>if(P.underlying src).isSome then Z (.int k (k.wrap n))else W
 |.str,.str s=>if(P.underlying src).isSome then Z (.str s)else W
 |.str,v=>
  if kd P src=.bytes then
   match rowsOf H v with
   |some cs=>(u8s cs).map Ad.str
   |none=>W
  else W
 |_,_=>W
theorem qx{sz:Nat}:∀{rows:Ψ Ad},(∀(j:Nat)(e:Ad),rows[j]?=Z e->U e.cells=sz)->(rows.flatMap Ad.cells).length=U rows*sz
 |[],_=>q!
 |e::r,h=>by have b:=h 0 e rfl;have d:=qx (rows:=r) λj a c=>h (j+1) a k!;grind
theorem flat_get{sz:Nat}(c:0<sz):∀{rows:Ψ Ad},(∀(j:Nat)(e:Ad),rows[j]?=Z e→U e.cells=sz)→ ∀(i:Nat)(v:Ad),(rows.flatMap Ad.cells)[i]?=Z v→
  ∃e,rows[i/sz]?=Z e/\e.cells[i%sz]?=Z v
 |e::r,h,i,v,hi=>by
  have d:=h 0 e rfl;simp at hi;rcases Ay i sz with f|a;grind[Nat.div_eq_of_lt,Nat.mod_eq_of_lt];rw[Cl o!,d]at hi;obtain⟨b,l,m⟩:=flat_get c (rows:=r) (λj b n=>h (j+1) b k!) (i-sz) v hi;have g:i/sz=(i-sz)/sz+1:=by rw[<-Nat.add_div_right _ c,Nat.sub_add_cancel a]
  have k:i%sz=(i-sz)%sz:=by rw[<-Nat.add_mod_right (i-sz),Nat.sub_add_cancel a]
  grind
def ABW{P:Program}(s:JP c h H w)(r:Bw (cx c h H w) e b)(hr:rowsOf H e=δ d):
  ∃a n cap V,b=.slice a n cap/\n=θ d/\mq (cx c h H w) d V/\((a=ε/\n=0)\/∃C,a=δ C/\(loadCells C n).run P w=.ok V.toArray w):=by
 cases r with
 |nils=>simp only[rowsOf,Ao]at hr;subst hr;exact⟨ε,0,0,[],rfl,rfl,⟨rfl,λ_ _ _ h=>by cases h⟩,.inl ⟨rfl,rfl⟩⟩
 | @vs sz K a cap f D ar m Z hv=>
  simp only[rowsOf]at hr;split at hr;rename_i R;subst R;simp only[Ao]at hr;subst hr;have l:=qx m;rw[Nat.mul_one]at l;cases K with
  |nil=>
   cases a with
   |none=>exact⟨ε,0,cap,[],rfl,rfl,⟨rfl,λ_ _ _ h=>by cases h⟩,.inl ⟨rfl,rfl⟩⟩
   |some C=>exact⟨δ C,0,cap,[],rfl,rfl,⟨rfl,λ_ _ _ h=>by cases h⟩,.inr ⟨C,rfl,by simp[loadCells,loadCellsFrom]⟩⟩
  |cons Y I=>
   obtain⟨B,i,rfl,hO,hB,L⟩:=Z q!;generalize Y::I=K at*;refine⟨_,θ K,cap,(List.range (θ K)).map λj=>f j 0,rfl,l.symm,⟨by simp[l],λj e v A o=>?_⟩,.inr ⟨_,rfl,?_⟩⟩;obtain⟨X,p,E⟩:=flat_get o! m j e A;rw[Nat.div_one]at p;rw[Nat.mod_one]at E;have t:j<θ K:=by rcases Ay j (θ K) with y|y;exact y;rw[Cq y]at p;cases p
   rw[CR,RT t]at o;simp only[Bs,Ao]at o;subst o;exact hv j X 0 e p E;have:=run_loadCells (P:=P) w ⟨B,i,ε⟩ (θ K) (f · 0) λj A=>by have J:K[j]?=δ (K[j]):=As A;have hl:=m j _ J;have M:(K[j]).cells[0]?=δ ((K[j]).cells[0]' o!):=As o!;rw[Ox];have:=(L j _ 0 _ J M).1;simpa[cx]using this
   exact this
  cases hr
 | @sl id g sz i len b ao hg R L=>
  simp only[rowsOf]at hr;split at hr;rename_i g' x J;split at hr;rename_i z;obtain⟨rfl,rfl,ap⟩:=z;simp only[Ao]at hr;subst hr;obtain⟨G,F⟩:=s.live id g x J;rcases L G with⟨q,rfl,rfl,rfl⟩|⟨B,cap,q,D,N,rfl⟩;exact⟨ε,0,0,[],rfl,q!,⟨q!,λ_ _ _ _ h=>by cases h⟩,.inl ⟨rfl,rfl⟩⟩;rcases F with⟨hn,_⟩|⟨Q,W,T,fz,f,u,hb,S,U,al,k⟩;rw[hn]at q;cases q;have:Q=B:=by rw[q]at u;injection u with X;exact X.symm
  subst this;refine⟨_,len,cap,(List.range len).map λj=>f (i+j),rfl,w!,⟨w!,λj e v A o=>?_⟩,.inr ⟨_,rfl,?_⟩⟩;have t:j<len:=by rcases Ay j len with y|y;exact y;rw[Cq (by simpa using y)]at o;cases o
  rw[YY,C! t,J6]at A;rw[CR,RT t]at o;simp only[Bs,Ao]at o;subst o;exact(k _ e A).2.2;exact run_loadCells (P:=P) w ⟨Q,i,ε⟩ len (λj=>f (i+j)) λj A=>by have O:x[i+j]?=δ (x[i+j]' o!):=As o!;rw[Ox,P2 (w:=w) hb];exact(k _ _ O).1
  cases hr;cases hr
 |_=>simp only[rowsOf]at hr;cases hr
theorem AAL{x}:∀{d:Ψ Ad}{b:Ψ Value}{bs:Ψ UInt8},mq x d b->u8s d=Z bs->∃e:Ψ Int,b=e.map (Value.int .u8)/\bs=e.map λn=>UInt8.ofNat n.toNat
 |[],b,bs,hr,hb=>by simp only[u8s]at hb;rw[Eh hr.1];simp_all
 |v::d,b,bs,hr,hb=>by
  match b,hr with
  |u::b,hr=>
   have h:=hr.2 0 v u rfl rfl;have l:mq x d b:=⟨by have:=hr.1;simpa using this,λj a c p o=>hr.2 (j+1) a c k! k!⟩
   unfold u8s at hb;split at hb<;>rename_i f<;>(try cases f)<;>try (cases hb;done)
   cases k:u8s d with
   |none=>grind
   |some g=>obtain⟨e,i,m⟩:=AAL l k;cases h;exact⟨_::e,by rw[i];rfl,k!⟩
def AAv(a:Ψ Int):∀s:ByteArray,(a.foldl (λr n=>r.push (UInt8.ofNat n.toNat)) s).data.toList=s.data.toList++a.map λn=>UInt8.ofNat n.toNat:=by induction a<;>simp_all
theorem AEs{P}(h:kd P a=.bytes):∃e,P.underlying a=Z (.slice e)/\P.underlying e=Z (.int .u8):=by unfold kd at h;grind
theorem AEW(s:JP c h H w)(r:Bw (cx c h H w) e b)(v:Xl P H a J e=Z p):
  ∃y,(convert a J b).run P w=.ok y w/\Bw (cx c h H w) p y:=by
 unfold Xl at v;split at v;rename_i k I n j;split at v;rename_i i;obtain⟨C,i⟩:=fP.1 i;simp only[Ao]at v;subst v;cases r;exact⟨_,by simp[convert,run_underlying i,run_underlying (AI7 j),Conv.intToInt],.int _ _⟩;cases v;rename_i o j;split at v;rename_i i;obtain⟨C,i⟩:=fP.1 i;simp only[Ao]at v;subst v;cases r with
 |str t F=>exact⟨_,by simp[convert,run_underlying i,run_underlying (uj j)],.str _ F⟩
 cases v;rename_i L j _;split at v;rename_i D;split at v;rename_i B u;cases q:u8s B with
 |none=>rw[q]at v;cases v
 |some bs=>
  rw[q]at v;simp only[Bs,Ao]at v;subst v;obtain⟨X,m,z⟩:=AEs D;obtain⟨l,n,cap,K,rfl,hn,d,f⟩:=ABW (P:=P) s r u;obtain⟨x,rfl,rfl⟩:=AAL d q;rcases f with⟨rfl,E⟩|⟨A,rfl,g⟩;have:x=[]:=by have G:=d.1;grind[List.length_map,List.eq_nil_of_length_eq_zero]
  subst this;exact⟨.string .empty,by simp[convert,run_underlying m,run_underlying (uj j),run_underlying z,Conv.bytesToString],.str _ rfl⟩;refine⟨_,?_,.str _ (AAv x ByteArray.empty)⟩;simp only[convert,Sem.run_bind,run_underlying m,run_underlying (uj j),run_underlying z,Result.andThen_ok];exact run_bytesToString w A n cap x (by simpa using g)
 cases v;cases v;cases v
def qb(P:Program)(H:Au)(t:TypeId)(v:Ad):Ω Ad:=
 match P.underlying t,v with
 |some .string,.str s=>Z (.int .i64 (U s))
 |some (.array n _),_=>Z (.int .i64 n)
 |some (.slice _),.vs _ rows=>Z (.int .i64 (U rows))
 |some (.slice _),.sl _ _ _ _ len=>Z (.int .i64 len)
 |some (.slice _),.nils=>Z (.int .i64 0)
 |_,_=>W
def AG5{P}{w}{t ty:TypeId}(s:JP c h H w)(r:Bw (cx c h H w) e b)(v:qb P H t e=Z p):
  ∃f,(Builtin.len_ #[t] ty #[b]).run P w=.ok f w/\Bw (cx c h H w) p f:=by
 unfold qb at v;split at v;rename_i u d;simp only[Ao]at v;subst v;cases r with
 |str j m=>
  refine⟨.int .i64 j.size,by simp[Builtin.len_,run_underlying d,goInt],?_⟩;have:U u=j.size:=by rw[<-m];simp
  rw[this];exact .int _ _
 rename_i n X d;simp only[Ao]at v;subst v;exact⟨.int .i64 n,by simp[Builtin.len_,run_underlying d,goInt],.int _ _⟩;rename_i sz i d;simp only[Ao]at v;subst v;cases r;exact⟨_,by simp[Builtin.len_,run_underlying d,goInt],.int _ _⟩;rename_i id g sz o len d;simp only[Ao]at v;subst v;cases r with
 |sl l x k q=>obtain⟨a,cap,rfl⟩:=k;exact⟨_,by simp[Builtin.len_,run_underlying d,goInt],.int _ _⟩
 rename_i d;simp only[Ao]at v;subst v;cases r;exact⟨_,by simp[Builtin.len_,run_underlying d,goInt],.int _ _⟩;cases v
def mmV(mx:Bool):Ψ Ad->Ω Ad
 |[.int k a,.int _ b]=>Z (.int k (if mx then(if b>a then b else a)else(if b<a then b else a)))
 |_=>W
def AE4{P:Program}{w:World}{mx}{ts:Array TypeId}{ty:TypeId}(g:Bw f p b)(h:Bw f e B)(a:mmV mx [p,e]=Z G):
  ∃x,((if mx then Builtin.max_ ts ty #[b,B]else Builtin.min_ ts ty #[b,B]):Sem Value).run P w=.ok x w/\Bw f G x:=by
 cases p<;>try (simp[mmV]at a;done)
 cases e<;>try (simp[mmV]at a;done)
 cases g;cases h;simp only[mmV,Ao]at a;subst a;cases mx;exact⟨_,by simp[Builtin.min_,Builtin.min2],.int _ _⟩;exact⟨_,by simp[Builtin.max_,Builtin.max2],.int _ _⟩
def mm3:Ad->Ad->Ad->Ω Ad
 |.int k a,.int _ b,.int _ c=>Z (.int k (if c<(if b<a then b else a)then c else(if b<a then b else a)))
 |_,_,_=>W
def AHA{P:Program}{w:World}{ts:Array TypeId}{ty:TypeId}{u:Ad}{x}(i:Bw f e b)(j:Bw f p B)(k:Bw f G x)(a:mm3 e p G=Z u):
  ∃g,(Builtin.min_ ts ty #[b,B,x]).run P w=.ok g w/\Bw f u g:=by
 unfold mm3 at a;split at a;cases i;cases j;cases k;simp at a;subst a;exact⟨_,by simp[Builtin.min_,Builtin.min2],.int _ _⟩;cases a
def uw:Ad->Ω Nat
 |.int _ i=>if 0<=i then Z i.toNat else W
 |_=>W
def XL(d:Nat):Ω Ad->Ω Nat
 |none=>Z d
 |some v=>uw v
def iU(P:Program)(H:Au)(t:TypeId)(v:Ad)(lo hi mx:Ω Ad):Ω Ad:=
 match v with
 |.str s=>
  match XL 0 lo,XL (U s) hi,mx with
  |some l,Z h,W=>if kd P t=.str/\l<=h/\h<=U s then Z (.str ((s.drop l).take (h-l)))else W
  |_,_,_=>W
 |.vs sz rows=>
  match XL 0 lo,XL (U rows) hi,XL (U rows) mx,eI P t with
  |some l,Z h,Z m,Z (W,_,sz')=>if sz=sz'/\l<=h/\h<=m/\m<=U rows/\(mx.isSome=V->hi.isSome=V)then Z (.vs sz ((rows.drop l).take (h-l)))else W
  |_,_,_,_=>W
 |.sl id g sz off len=>
  match XL 0 lo,XL len hi,XL len mx,eI P t with
  |some l,Z h,Z m,Z (W,_,sz')=>
   if sz=sz'/\0<sz/\l<=h/\h<=m/\m<=len/\Tl H id g=V/\(mx.isSome=V->hi.isSome=V)then
    if l=0 then Z (.sl id g sz off h)else if l=h then Z (.vs sz [])else Z (.sl id g sz (off+l*sz) (h-l))
   else W
  |_,_,_,_=>W
 |.nils=>
  match XL 0 lo,XL 0 hi,XL 0 mx,eI P t with
  |some 0,Z 0,Z 0,Z (W,_,_)=>if mx.isSome=V->hi.isSome=V then Z .nils else W
  |_,_,_,_=>W
 |_=>W
theorem ADK(r:Bw f e b)(h:uw e=Z N):∃k i,b=.int k i/\0<=i/\i.toNat=N:=by
 cases e<;>try (simp[uw]at h;done)
 cases r;grind[uw]
def run_sliceBound{P:Program}{w:World}{code}(r:Bw f e b)(h:uw e=Z N)(x:N<=t):(Instr.sliceBound b t code).run P w=.ok N w:=by
 obtain⟨k,i,rfl,a,rfl⟩:=ADK r h;have:i<=t:=o!
 simp[Instr.sliceBound,asIntOf,a,this]
def ZO{P:Program}{w:World}{isSlice:Bool}{len cap l h m:Nat}{k j mx:Ω Ad}{e b cmx:Ω Value}(i:∀v,k=Z v→ ∃c,e=Z c∧Bw f v c)(g:k=W→e=W)
  (o:∀v,j=Z v->∃c,b=Z c/\Bw f v c) (t:j=W->b=W) (z:∀v,mx=Z v->∃c,cmx=Z c/\Bw f v c) (u:mx=W->cmx=W)
  (a:XL 0 k=Z l) (q:XL len j=Z h) (D:XL len mx=Z m) (s:l<=h) (E:h<=m) (J:m<=len) (K:len<=cap) (F:mx.isSome=V->j.isSome=V):
  (Instr.sliceBounds isSlice len cap e b cmx).run P w=.ok (l,h,if mx.isSome then m else cap) w:=by
 unfold Instr.sliceBounds;cases mx with
 |none=>
  obtain rfl:=u rfl;cases j with
  |none=>
   obtain rfl:=t rfl;simp only[XL,Ao]at q;subst q;cases k with
   |none=>obtain rfl:=g rfl;simp only[XL,Ao]at a;simp[a]
   |some v=>obtain⟨d,rfl,r⟩:=i v rfl;have n:=λc=>run_sliceBound (P:=P) (w:=w) (code:=c) r a s;simp[n]
  |some A=>
   obtain⟨B,rfl,y⟩:=o A rfl;have p:=λc=>run_sliceBound (P:=P) (w:=w) (code:=c) y q (show h<=cap by omega);cases k with
   |none=>obtain rfl:=g rfl;simp only[XL,Ao]at a;simp[a,p]
   |some v=>obtain⟨d,rfl,r⟩:=i v rfl;have n:=λc=>run_sliceBound (P:=P) (w:=w) (code:=c) r a s;simp[p,n]
 |some H=>
  obtain⟨I,rfl,G⟩:=z H rfl;have x:=F rfl;cases j with
  |none=>simp at x
  |some A=>
   obtain⟨B,rfl,y⟩:=o A rfl;have C:=λc=>run_sliceBound (P:=P) (w:=w) (code:=c) G D (show m<=cap by omega);have p:=λc=>run_sliceBound (P:=P) (w:=w) (code:=c) y q E;simp only[Sem.run_bind,C,p,Result.andThen_ok,Option.isSome_some,if_true];cases k with
   |none=>obtain rfl:=g rfl;simp only[XL,Ao]at a;simp[a]
   |some v=>obtain⟨d,rfl,r⟩:=i v rfl;have n:=λc=>run_sliceBound (P:=P) (w:=w) (code:=c) r a s;simp[n]
theorem Qw{P}(t:eI P a=Z (W,J,N)):P.underlying a=Z (.slice J)/\∃b,tI P J=Z (b,N):=by unfold eI at t;split at t;simp_all;rename_i c d;cases f:tI P c<;>grind;cases t
theorem ADb{lo V q:Ω Ad}{N L A:Ω Value}(s:JP c h H w)(r:Bw (cx c h H w) e b)
  (K:∀e,lo=δ e->∃b,N=δ b/\Bw (cx c h H w) e b) (G:lo=ε->N=ε)
  (J:∀e,V=δ e->∃b,L=δ b/\Bw (cx c h H w) e b) (F:V=ε->L=ε) (R:∀e,q=δ e->∃b,A=δ b/\Bw (cx c h H w) e b) (I:q=ε->A=ε)
  (d:iU P H a e lo V q=δ p):∃c',(Instr.sliceAt a b N L A).run P w=.ok c' w/\Bw (cx c h H w) p c':=by
 unfold iU at d;split at d;rename_i s';split at d;rename_i l u S O;split at d;rename_i o;obtain⟨hk,h1,U⟩:=o;simp only[Ao]at d;subst d;obtain rfl:=I rfl;cases r with
 |str t' ht=>
  have x:θ s'=t'.size:=by rw[<-ht];simp
  rw[x]at O U;have o:=ZO (P:=P) (w:=w) (isSlice:=η) (len:=t'.size) (cap:=t'.size) (mx:=ε) (cmx:=ε) K G J F (λ_ h=>by cases h) (λ_=>rfl) S O rfl h1 U (Al _) (Al _) (λh=>by cases h);refine⟨.string (t'.extract l u),?_,.str _ ?_⟩;simp only[Instr.sliceAt,Instr.slice,Sem.run_bind,run_underlying (uj hk),Result.andThen_ok,Option.isSome_none,RR,if_false,o,Sem.run_pure];simp_all[wC]
 cases d;cases d;rename_i sz k;split at d;rename_i l u m X a1 S O Z he;split at d;rename_i o;obtain⟨rfl,h1,U,h3,h4⟩:=o;simp only[Ao]at d;subst d;obtain⟨z,v,y⟩:=Qw he;cases r with
 | @vs sz k t cap f C Y ao ha d=>
  have o:=ZO (P:=P) (w:=w) (isSlice:=ζ) (len:=θ k) (cap:=cap) K G J F R I S O Z h1 U h3 C h4;have E:∀{j:Nat}{X:Ad},((k.drop l).take (u-l))[j]?=δ X->k[l+j]?=δ X:=k!
  have x:((k.drop l).take (u-l)).length=u-l:=w!
  refine⟨.slice (if(if q.isSome then m else cap)=l then t else t.map (·.add (l*sz))) (u-l) ((if q.isSome then m else cap)-l),?_,?_⟩;simp only[Instr.sliceAt,Instr.slice,Sem.run_bind,run_underlying z,Result.andThen_ok,o,La y,Sem.run_pure];have hM:u<=(if q.isSome then m else cap):=by split<;>omega
  generalize (if q.isSome then m else cap)=M at hM;have T:Bw (cx c h H w) (.vs sz ((k.drop l).take (u-l))) (.slice (if M=l then t else t.map (·.add (l*sz))) ((k.drop l).take (u-l)).length (M-l)):=?_;rw[x]at T;exact T;refine .vs (λj i=>f (l+j) i) (by rw[x];omega) Y (λj X hj=>ao _ X (E hj)) (λa4=>?_) λj X i e hj V=>d _ X i e (E hj) V;have a3:l<u:=by rcases Ay l u with h5|h5;exact h5;simp_all[Eh]
  obtain⟨B,n,rfl,hO,hB,hc⟩:=ha (by intro X;rw[X]at h3;simp at h3;omega);refine⟨B,n+l*sz,?_,hO,hB,λj X i e hj V=>?_⟩;grind[Ox];have:=hc _ X i e (E hj) V;rw[EB]at this;rw[show n+l*sz+(j*sz+i)=n+(l*sz+j*sz+i)from by omega];exact this
 cases d;cases d;rename_i id g sz n len;split at d;rename_i l u m X a1 S O Z he;split at d;rename_i o;obtain⟨rfl,Y,h1,U,h3,ad,h4⟩:=o;obtain⟨z,v,y⟩:=Qw he;cases r with
 | @sl id g sz n len b W hg a2 hc=>
  rcases hc (s.cur ad)with⟨Q,rfl,rfl,rfl⟩|⟨B,cap,Q,C,D,rfl⟩;have o:=ZO (P:=P) (w:=w) (isSlice:=ζ) (len:=0) (cap:=0) K G J F R I S O Z h1 U h3 (Al _) h4;have ax:l=0:=o!
  have ar:u=0:=o!
  have a0:m=0:=o!
  subst ax ar a0;simp only[if_true,Ao]at d;subst d;refine⟨.slice ε 0 0,?_,.sl W hg ⟨_,_,rfl⟩ λ_=>.inl ⟨Q,rfl,rfl,rfl⟩⟩;simp only[Instr.sliceAt,Instr.slice,Sem.run_bind,run_underlying z,Result.andThen_ok,o,La y,Sem.run_pure];cases q<;>simp;have o:=ZO (P:=P) (w:=w) (isSlice:=ζ) (len:=len) (cap:=cap) K G J F R I S O Z h1 U h3 C h4
  have ap:(Instr.sliceAt a (.slice (δ ⟨B,n,ε⟩) len cap) N L A).run P w=
    .ok (.slice (if(if q.isSome then m else cap)=l then δ ⟨B,n,ε⟩else(δ ⟨B,n,ε⟩:Ω Addr).map (·.add (l*sz))) (u-l) ((if q.isSome then m else cap)-l)) w:=by
   simp only[Instr.sliceAt,Instr.slice,Sem.run_bind,run_underlying z,Result.andThen_ok,o,La y,Sem.run_pure]
  refine⟨_,ap,?_⟩;have hM:u<=(if q.isSome then m else cap)/\(if q.isSome then m else cap)<=cap:=by split<;>omega
  generalize (if q.isSome then m else cap)=M at hM;split at d;rename_i hl;subst hl;simp only[Ao]at d;subst d;refine .sl W hg ⟨_,_,rfl⟩ λ_=>.inr ⟨B,M,Q,hM.1,?_,?_⟩;exact CK (fN (NB _ hM.2) _) D;simp[Ox];rename_i hl;split at d;rename_i al;subst al;simp only[Ao]at d;subst d;rw[G5];exact Bw.vs (rows:=[]) (λ_ _=>undef) (BR _) Y (λ_ _ h=>by simp at h) (λh=>(h rfl).elim) λ_ _ _ _ h=>by simp at h
  rename_i al;simp only[Ao]at d;subst d;refine .sl W hg ⟨_,_,rfl⟩ λ_=>.inr ⟨B,M-l,Q,o!,?_,?_⟩;rw[WE,<-EB];have:l+(M-l)=M:=o!
  rw[this];exact CK (fN (NB _ hM.2) _) D;rw[D! o!];simp[Ox]
 cases d;cases d;split at d;rename_i X sz S O Z he;split at d;rename_i h4;simp only[Ao]at d;subst d;obtain⟨z,v,y⟩:=Qw he;cases r;have o:=ZO (P:=P) (w:=w) (isSlice:=ζ) (len:=0) (cap:=0) K G J F R I S O Z (Al _) (Al _) (Al _) (Al _) h4;refine⟨.slice ε 0 0,?_,.nils⟩;simp only[Instr.sliceAt,Instr.slice,Sem.run_bind,run_underlying z,Result.andThen_ok,o,La y,Sem.run_pure];cases q<;>simp;cases d;cases d;cases d
def Ad.solid:Ad->Bool
 |.any=>Y
 |.tup _=>Y
 |_=>V
def cells_one(h:b.oneCell'=V):b.cells= #[b]:=by cases b<;>first|rfl|(simp[Value.oneCell']at h;done)
theorem XD(r:Bw f e b)(h:e.solid=V):Bw f (.agg e.cells) (.agg b.cells):=by
 have one:∀{u:Ad}{d:Value},Bw f u d->d.oneCell'=V->d.cells= #[d]->u.cells=[u]->Bw f (.agg u.cells) (.agg d.cells):=by intro u d A g q z;rw[q,z];refine .agg rfl (λj b s=>?_) λj e b s l=>?_;grind;grind
 cases r with
 |agg o g p=>exact .agg o g p
 |any b=>simp[Ad.solid]at h
 |tup o p=>simp[Ad.solid]at h
 |ptr i m g l=>exact one (.ptr i m g l) g (cells_one g) rfl
 |sl i m g l=>obtain⟨a,cap,rfl⟩:=g;exact one (.sl i m ⟨a,cap,rfl⟩ l) rfl (cells_one rfl) rfl
 |bool v=>exact one (.bool v) rfl rfl rfl
 |int k n=>exact one (.int k n) rfl rfl rfl
 |str t y=>exact one (.str t y) rfl rfl rfl
 |nilp=>exact one .nilp rfl rfl rfl
 |vptr c a v b d=>exact one (.vptr c a v b d) rfl rfl rfl
 |nils=>exact one .nils rfl rfl rfl
 |vs c a v b d x=>exact one (.vs c a v b d x) rfl rfl rfl
 |fn a v b d=>exact one (.fn a v b d) rfl rfl rfl
 |yf i g l=>exact one (.yf i g l) g (cells_one g) rfl
 |mp i g l=>exact one (.mp i g l) g (cells_one g) rfl
 |itp i w g l=>exact one (.itp i w g l) g (cells_one g) rfl
 |nilf=>exact one .nilf rfl rfl rfl
def XC(cs:Ψ Ad)(off:Nat)(vs:Ψ Ad):Ψ Ad:=cs.take off++vs++cs.drop (off+U vs)
theorem k9{c:Ψ Ad}(h:N+U c<=U d):(XC d N c).length=U d:=by grind[XC]
theorem vJ{b:Ψ Ad}(h:N+U b<=U d)(j:Nat):(XC d N b)[j]?=if N<=j/\j<N+U b then b[j-N]? else d[j]? :=by grind[XC,List.getElem?_append_left]
inductive aP where
 |arr (sz:Nat)
 |str (l:List (Nat×Nat))
def aP.at_:aP->Nat->Ω (Nat×Nat)
 |.arr sz,i=>Z (i*sz,sz)
 |.str l,i=>l[i]?
def ZU(P:Program)(t:TypeId):Ω (Ψ Ad):=
 match (P.info? t).bind (·.zero)with
 |some z=>if z.cells.toList.all (·.oneCell')then Z (z.cells.toList.map rP)else W
 |none=>W
def vE(P:Program)(t:TypeId):Ω aP:=
 match P.underlying t with
 |some (.struct fs)=>(fs.toList.mapM λf=>(P.info? f.type).map λi=>(f.offset,i.size)).map aP.str
 |some (.array _ e)=>(P.info? e).map λi=>aP.arr i.size
 |_=>W
def rT(p:aP):Ψ Ad->Ψ (Nat×Ad)->Ω (Ψ Ad)
 |cs,[]=>Z cs
 |cs,(i,v)::r=>
  match p.at_ i with
  |some (off,size)=>if v.solid=V/\U v.cells=size/\off+size<=U cs then rT p (XC cs off v.cells) r else W
  |none=>W
def tY(P:Program)(t:TypeId)(parts:Ψ (Nat×Ad)):Ω Ad:=
 match ZU P t,vE P t with
 |some z,Z p=>(rT p z parts).map Ad.agg
 |_,_=>W
theorem fE(x:Cx)(h:ZU P a=Z d):∃i v,P.info? a=Z i/\i.zero=Z v/\Bw x (.agg d) (.agg v.cells):=by
 unfold ZU at h;cases z:P.info? a with
 |none=>grind
 |some i=>
  cases b:i.zero with
  |none=>grind
  |some v=>rw[z]at h;simp only[AD,b]at h;split at h;rename_i t;simp at h;subst h;refine⟨i,v,rfl,b,.agg q! (λj c e=>?_) λj u c e f=>?_⟩;grind;grind[qK];cases h
theorem foldl_set(a:Nat):∀(l:Ψ Value)(k:Nat)(b:Array Value),a+k+U l≤b.size→
  ((l.zipIdx k).foldl (λb (p:Value×Nat)=>b.setIfInBounds (a+p.2) p.1) b).size=b.size/\∀j,((l.zipIdx k).foldl (λb (p:Value×Nat)=>b.setIfInBounds (a+p.2) p.1) b)[j]?=if a+k<=j/\j<a+k+U l then l[j-(a+k)]? else b[j]?
 |[],k,b,_=>by simp;intro j c d;omega
 |v::l,k,b,h=>by simp at h⊢;obtain⟨c,d⟩:=foldl_set a l (k+1) (b.setIfInBounds (a+k) v) w!;grind
theorem AFe{g:Ψ Ad}{e:Array Value}{off:Nat}(r:Bw f (.agg d) (.agg i))(p:Bw f (.agg g) (.agg e))(h:off+U g≤U d)(a:Array Value)
  (b:a.size=i.size) (x:∀j,a[j]?=if off<=j/\j<off+e.size then e[j-off]? else i[j]?):Bw f (.agg (XC d off g)) (.agg a):=by
 cases r with
 |agg m q t=>
  cases p with
  |agg n k o=>refine .agg (by rw[b,m,k9 h]) (λj c l=>?_) λj v c l s=>?_;grind;grind[vJ]
theorem wT{x}(p:aP):∀(b:Ψ (Nat×Ad))(a:Ψ (Nat×Value))(f:Ψ Ad)(d:Array Value)(n:Ψ Ad),a.map (·.1)=b.map (·.1)→
  (∀(j:Nat)(q:Nat×Ad)(o:Nat×Value),b[j]?=Z q->a[j]?=Z o->Bw x q.2 o.2)->Bw x (.agg f) (.agg d)->rT p f b=Z n->
  ∃l,Instr.fill p.at_ d a=Z l/\Bw x (.agg n) (.agg l)
 |[],a,f,d,n,m,_,r,h=>by
  have:a=[]:=t!
  subst this;simp only[rT,Ao]at h;subst h;exact⟨d,rfl,r⟩
 |(i,v)::b,(i',c)::a,f,d,n,m,hr,r,h=>by
  simp at m;obtain⟨rfl,m⟩:=m;simp only[rT]at h;split at h;rename_i e size E;split at h;rename_i u;obtain⟨g,rfl,s⟩:=u;have t:=XD (hr 0 (i',v) (i',c) rfl rfl) g;have z:c.cells.size=U v.cells:=by cases t with|agg h _ _=>exact h
  have w:d.size=U f:=by cases r with|agg h _ _=>exact h
  have k:=foldl_set e c.cells.toList 0 d k!;have B:c.cells.zipIdx.foldl (λf (p:Value×Nat)=>f.setIfInBounds (e+p.2) p.1) d=(c.cells.toList.zipIdx 0).foldl (λf (p:Value×Nat)=>f.setIfInBounds (e+p.2) p.1) d:=by rw[<-Array.foldl_toList,Array.toList_zipIdx]
  have A:=AFe (off:=e) r t s ((c.cells.toList.zipIdx 0).foldl (λf (p:Value×Nat)=>f.setIfInBounds (e+p.2) p.1) d) k.1 (λj=>k!);obtain⟨l,C,D⟩:=wT p b a _ _ n m (λj q o F y=>hr (j+1) q o k! k!) A h;grind[Instr.fill];cases h;cases h
theorem ACs{b:Ψ (Nat×Ad)}{u:Array (Nat×Value)}(E:u.toList.map (·.1)=b.map (·.1))
  (hr:∀(j:Nat)(q:Nat×Ad)(A:Nat×Value),b[j]?=Z q->u.toList[j]?=Z A->Bw f q.2 A.2) (h:tY P a b=Z e):∃c,(Instr.build a u).run P w=.ok c w/\Bw f e c:=by
 unfold tY at h;split at h;rename_i z p F d;cases y:rT p z b with
 |none=>grind
 |some H=>
  rw[y]at h;simp at h;subst h;obtain⟨i,v,D,k,G⟩:=fE f F;obtain⟨m,s,C⟩:=wT p b u.toList z v.cells H E hr G y;refine⟨.agg m,run_build w a u m ?_,C⟩;unfold Program.built;rw[D];unfold vE at d;split at d;rename_i B r;rw[r];cases o:B.toList.mapM (λt=>(P.info? t.type).map λi=>(t.offset,i.size))with
  |none=>grind
  |some l=>simp only[k,o];rw[<-s];congr 1;grind[aP.at_]
  rename_i n x r;rw[r];cases g:P.info? x with
  |none=>grind
  |some I=>rw[g]at d;simp at d;subst d;simp only[k,g];exact s
  cases d
 cases h
def Cg(P:Program)(env:Env)(H:Au):Op->Ω Ad
 |.move x|.assign x=>Z (BP env x)
 |.pick c a b=>
  match BP env c with
  |.bool t=>Z (if t then BP env a else BP env b)
  |_=>W
 |.load t a=>iu P t H (BP env a)
 |.nilCheck x=>
  match BP env x with
  |.ptr id g off=>if Tl H id g then Z (.ptr id g off)else W
  |.vptr cs=>Z (.vptr cs)
  |.fn (.func f) a b=>Z (.fn (.func f) a b)
  |_=>W
 |.binOp op t x y _=>y8 P op t (BP env x) (BP env y)
 |.unOp op _ x=>unV op (BP env x)
 |.convert s d x=>Xl P H s d (BP env x)
 |.fieldAddr s x f=>WS P H s f (BP env x)
 |.field s x f=>uK P s f (BP env x)
 |.indexAddr t x i=>WX P H t (BP env x) (BP env i)
 |.index t x i=>kg P t (BP env x) (BP env i)
 |.slice t x lo hi mx=>iU P H t (BP env x) (lo.map (BP env)) (hi.map (BP env)) (mx.map (BP env))
 |.extract x i=>
  match BP env x with
  |.tup vs=>vs[i]?
  |_=>W
 |.makeFunc f a b=>Z (.fn f (a.toList.map (BP env)) (b.toList.map (BP env)))
 |.build t parts=>tY P t (parts.toList.map λp=>(p.1,BP env p.2))
 |.call {callee:=.builtin .len,args:=⟨[x]⟩,argTypes:=⟨[t]⟩}=>qb P H t (BP env x)
 |.call {callee:=.builtin .max,args:=⟨[x,y]⟩,.. }=>mmV V [BP env x,BP env y]
 |.call {callee:=.builtin .min,args:=⟨[x,y]⟩,.. }=>mmV Y [BP env x,BP env y]
 |.call {callee:=.builtin .min,args:=⟨[x,y,z]⟩,.. }=>mm3 (BP env x) (BP env y) (BP env z)
 |_=>W
def ADS{P}{N}{X:Nat→Prop}{h}{env}{H}{a}{w}{o:Oper}{v:Ad}(s:St X h N env H a w)(b:Cg P env H o.op=δ v):
  ∃c,(execOp a.eval o).run P w=.ok (.value c) w/\Bw (cx X h H w) v c:=by
 have k:=λx=>Dp s.env x;have d:∀{m:Sem Value},(∃c,m.run P w=.ok c w/\Bw (cx X h H w) v c)->∃c,(do pure (Next.value (<-m)):Sem Next).run P w=.ok (.value c) w/\Bw (cx X h H w) v c:=by rintro m ⟨c,u,hr⟩;exact⟨c,by simp[u],hr⟩
 unfold execOp;cases e:o.op with
 |move x=>rw[e]at b;simp only[Cg,Ao]at b;subst b;exact⟨_,rfl,k x⟩
 |assign x=>rw[e]at b;simp only[Cg,Ao]at b;subst b;exact⟨_,rfl,k x⟩
 |pick c x y=>rw[e]at b;simp only[Cg]at b;split at b;rename_i t ht;have u:=k c;rw[ht]at u;simp only[Ao]at b;subst b;generalize W:a.eval c=cv at u;cases u;simp only[W,asBool];cases t;exact⟨_,q!,k y⟩;exact⟨_,q!,k x⟩;cases b
 |load t x=>rw[e]at b;simp only[Cg]at b;obtain⟨B,ad,D,E,hl,hr⟩:=zf s.sim (k x) b;exact d ⟨D,by rw[E];simp[Instr.loadAt,Instr.sureAddr,hl],hr⟩
 |nilCheck x=>
  rw[e]at b;simp only[Cg]at b;have z:=k x;split at b;rename_i id g ad E;rw[E]at z;split at b;rename_i M;simp only[Ao]at b;subst b;generalize A:a.eval x=c at z;cases z with
  |ptr Y S n u=>obtain⟨B,al,rfl⟩:=u (s.sim.cur M);exact⟨_,by simp only[A];rfl,.ptr Y S n u⟩
  cases b;rename_i cs E;rw[E]at z;simp only[Ao]at b;subst b;generalize A:a.eval x=c at z;cases z with
  |vptr f n r U V=>exact⟨_,by simp only[A];rfl,.vptr f n r U V⟩
  rename_i f p q E;rw[E]at z;simp only[Ao]at b;subst b;generalize A:a.eval x=c at z;cases z with
  |fn n r U V=>exact⟨_,by simp only[A];rfl,.fn n r U V⟩
  cases b
 |binOp op t x y yt=>rw[e]at b;simp only[Cg]at b;exact d (AGR w (k x) (k y) b)
 |unOp op t x=>rw[e]at b;simp only[Cg]at b;exact d (AJh w (k x) b)
 |convert p q x=>rw[e]at b;simp only[Cg]at b;exact d (AEW s.sim (k x) b)
 |fieldAddr p x f=>rw[e]at b;simp only[Cg]at b;exact d (vg s.sim (k x) b)
 |field p x f=>rw[e]at b;simp only[Cg]at b;exact d (AC6 (k x) b)
 |indexAddr t x i=>rw[e]at b;simp only[Cg]at b;exact d (vo s.sim (k x) (k i) b)
 |index t x i=>rw[e]at b;simp only[Cg]at b;exact d (ADC (k x) (k i) b)
 |slice t x lo hi T=>
  rw[e]at b;simp only[Cg]at b;have G:∀(y:Ω Operand)(v:Ad),y.map (BP env)=δ v->∃c,y.map a.eval=δ c/\Bw (cx X h H w) v c:=by
   intro y v Q;cases y with
   |none=>cases Q
   |some y=>simp only[Bs,Ao]at Q;subst Q;exact⟨_,rfl,k y⟩
  have C:∀(y:Ω Operand),y.map (BP env)=ε->y.map a.eval=ε:=by
   intro y Q;cases y with
   |none=>rfl
   |some y=>cases Q
  exact d (ADb s.sim (k x) (G lo) (C lo) (G hi) (C hi) (G T) (C T) b)
 |extract x i=>
  rw[e]at b;simp only[Cg]at b;have z:=k x;split at b;rename_i vs E;rw[E]at z;generalize u:a.eval x=c at z;cases z with
  | @tup vs R hs Z=>
   have ao:i<θ vs:=by rcases Ay i (θ vs) with r|r;exact r;rw[Cq r]at b;cases b
   have S:R[i]?=δ (R[i]' o!):=N5 o!;refine d ⟨_,?_,Z i v _ b S⟩;simp only[Instr.extract,u,S];rfl
  cases b
 |makeFunc f p q=>
  rw[e]at b;simp only[Cg,Ao]at b;subst b;have L:∀(p:Array Operand)(j:Nat)(v:Ad)(c:Value),(p.toList.map (BP env))[j]?=δ v->(p.map a.eval)[j]?=δ c->Bw (cx X h H w) v c:=by
   intro p j v c J u;rw[CR,Pz]at J;rw[cP]at u;cases O:p[j]? with
   |none=>rw[O]at J;cases J
   |some y=>rw[O]at J u;simp only[Bs,Ao]at J u;subst J u;exact k y
  exact d ⟨_,rfl,.fn q! q! (L p) (L q)⟩
 |build t I=>
  rw[e]at b;simp only[Cg]at b;refine d (ACs ?_ ?_ b);simp;intro j q q' K F;rw[CR,Pz]at K;rw[Pz,cP]at F;cases O:I[j]? with
  |none=>rw[O]at K;cases K
  |some y=>rw[O]at K F;simp only[Bs,Ao]at K F;subst K F;exact k y.2
 |call c=>
  rw[e]at b;simp only[Cg]at b;split at b<;>rename_i l<;>first
   |(cases b;done)
   |(cases l;done)
   |skip
  injection l with l;subst l;simp only[resolve,invoke,builtin,Sem.run_bind,Sem.run_pure,Result.andThen_ok,Qn,CQ,Hi];obtain⟨D,n,r⟩:=AG5 (ty:=o.type) s.sim (k _) b;exact⟨D,by rw[n];rfl,r⟩;injection l with l;subst l;simp only[resolve,invoke,builtin,Sem.run_bind,Sem.run_pure,Result.andThen_ok,Qn,CQ,Hi];obtain⟨D,n,r⟩:=AE4 (P:=P) (w:=w) (mx:=ζ) (ts:=_) (ty:=o.type) (k _) (k _) b;exact⟨D,by simp only[if_true]at n;rw[n];rfl,r⟩;injection l with l;subst l;simp only[resolve,invoke,builtin,Sem.run_bind,Sem.run_pure,Result.andThen_ok,Qn,CQ,Hi];obtain⟨D,n,r⟩:=AE4 (P:=P) (w:=w) (mx:=η) (ts:=_) (ty:=o.type) (k _) (k _) b;exact⟨D,by simp only[RR,if_false]at n;rw[n];rfl,r⟩;injection l with l;subst l;simp only[resolve,invoke,builtin,Sem.run_bind,Sem.run_pure,Result.andThen_ok,Qn,CQ,Hi];obtain⟨D,n,r⟩:=AHA (P:=P) (w:=w) (ts:=_) (ty:=o.type) (k _) (k _) (k _) b;exact⟨D,by rw[n];rfl,r⟩
 |_=>rw[e]at b;simp[Cg]at b
def Dw{P}{N}{H}{v:Ad}(b:Cg P g H o.op=Z v)(e:K v H):Jq P N o g H K:=by apply C3 (by cases f:o.op<;>first|rfl|(rw[f]at b;simp[Cg]at b));intro X h a w s Q;obtain⟨c,d,hr⟩:=ADS s b;unfold Oper.wp;rw[d,Oper.upon_value];exact⟨c,v,h,H,rfl,e,hr,s.sim,HN.refl _ _ _⟩
section
variable {X:Nat->Prop}{h:Gh}{H:Au}{w:World}
def Gh.at_(h:Gh)(id:Nat)(io:Ω Nat)(gen cap:Nat):Gh:=
 ⟨λi=>if i=id then io else h.io i,λi=>if i=id then gen else h.gen i,λi=>if i=id then cap else h.cap i⟩
def Holds(x:Cx)(cs:Ψ Ad)(arr:Array Value)(fz:Nat×Nat):Prop:=
 ∃f:Nat->Value,U cs<=arr.size/\(∀i,i<arr.size->(τ (fz.1<=i)&&τ (i<fz.2))=Y)/\
  ∀(j:Nat)(v:Ad),cs[j]?=Z v->arr[j]?=Z (f j)/\(f j).oneCell'=V/\Bw x v (f j)
def QP(r:Bw f (.agg d) (.agg i)):Holds f d i (0,0):=by
 cases r with
 |agg l h k=>
  refine⟨λj=>i.getD j undef,o!,λx _=>q!,λj v a=>?_⟩;have b:j<i.size:=by rcases Ay j (U d) with g|g;omega;rw[Cq g]at a;cases a
  have c:i[j]?=Z (i[j]):=N5 b;have e:i.getD j undef=i[j]:=by simp[b]
  show i[j]?=Z (i.getD j undef)/\(i.getD j undef).oneCell'=V/\Bw f v (i.getD j undef);rw[e];exact⟨c,h j _ c,k j v _ a c⟩
def JP.of_ext'(s:JP X h H w)(V:HN h H w O R A)
  (key:∀(id:Nat)(e:Fx),R[id]?=δ e->e≠.dead->(H[id]?=δ e/\O.gen id=h.gen id/\O.io id=h.io id/\O.cap id=h.cap id/\∀B,h.io id=δ B->A.heap[B]?=w.heap[B]?)\/((∃g K,e=.live g K/\ABj (cx X O R A) id g K)\/(∃L,e=.lp L/\xR (cx X O R A) id L)\/(e.isB=ζ/\BAt O A id e)))
  (inj:∀(id x:Nat)(e W:Fx)(B:Nat),R[id]?=δ e->R[x]?=δ W->e≠.dead->W≠.dead->O.io id=δ B->O.io x=δ B->id=x):JP X O R A:=by
 have hl:=V.later X;refine⟨λB l=>⟨DE (s.out B l).1 V.size,λN=>?_⟩,λid g K I=>?_,λid L I=>?_,inj,λid e I l=>?_⟩;rcases V.fresh B N with N|N;exact(s.out B l).2 N;have:=(s.out B l).1;omega;rcases key id _ I q! with⟨c,y,q,M,z⟩|⟨Y,D,e,hn⟩|⟨L,e,_⟩|⟨e,_⟩;obtain⟨T,J⟩:=s.live id g K c;refine⟨y.trans T,?_⟩;rcases J with⟨hn,rfl⟩|⟨B,C,T',P,f,d,p,G,U,S,o⟩;exact .inl ⟨q.trans hn,rfl⟩;refine .inr ⟨B,C,T',P,f,q.trans d,(z B d).trans p,G.trans M.symm,U,S,λj v hj=>?_⟩;obtain⟨p1,p2,p3⟩:=o j v hj;exact⟨p1,p2,p3.later hl⟩;injection e with a b;subst a b;exact hn;cases e;cases e;rcases key id _ I q! with⟨c,y,q,M,z⟩|⟨Y,D,e,hn⟩|⟨L',e,hn⟩|⟨e,_⟩;obtain⟨T,B,r,d,p,u,E,F,Q,h5,h6,Z⟩:=s.lp id L c;exact⟨y.trans T,B,r,q.trans d,(z B d).trans p,u,E,F,Q,h5,h6,λt v m=>⟨(Z t v m).1,(Z t v m).2.later hl⟩⟩;cases e;injection e with a;subst a;exact hn;cases e;rcases key id _ I (by rintro rfl;cases l)with⟨c,y,q,M,z⟩|⟨Y,D,e,hn⟩|⟨L',e,hn⟩|⟨_,hn⟩;cases e with
 |mp k es=>obtain⟨B,i,u,E,F,Q⟩:=s.bld id _ c l;exact⟨B,i,q.trans u,y.trans E,(z B u).trans F,Q⟩
 |it n seen=>obtain⟨B,u,E,F⟩:=s.bld id _ c l;exact⟨B,q.trans u,y.trans E,by rw[M];exact(z B u).trans F⟩
 |_=>cases l
 subst e;cases l;subst e;cases l;exact hn
def JP.of_ext(s:JP X h H w)(m:HN h H w O R A)
  (key:∀(id:Nat)(e:Fx),R[id]?=Z e->e≠.dead->(H[id]?=Z e/\O.gen id=h.gen id/\O.io id=h.io id/\O.cap id=h.cap id/\∀B,h.io id=Z B->A.heap[B]?=w.heap[B]?)\/((∃g j,e=.live g j/\ABj (cx X O R A) id g j)\/∃L,e=.lp L/\xR (cx X O R A) id L))
  (inj:∀(id c:Nat)(e k:Fx)(B:Nat),R[id]?=Z e->R[c]?=Z k->e≠.dead->k≠.dead->O.io id=Z B->O.io c=Z B->id=c):JP X O R A:=
 s.of_ext' m (λi e l f=>(key i e l f).imp id λh=>h.imp id .inl) inj
def JN{e:Fx}(a:(H++[m])[N]?=Z e):(N<U H/\H[N]?=Z e)\/(N=U H/\e=m):=by rcases Qr N (U H) with b|rfl|c;rw[CW b]at a;exact .inl ⟨b,a⟩;rw[Cl (Al _),G5]at a;simp at a;exact .inr ⟨rfl,a.symm⟩;rw[Cq w!]at a;cases a
def Jp{e:Fx}(c:N<U H)(a:(H.set N m)[t]?=Z e):(t≠N/\H[t]?=Z e)\/(t=N/\e=m):=by by_cases b:t=N;subst b;rw[Hq c]at a;simp at a;exact .inr ⟨rfl,a.symm⟩;rw[Db (b ·.symm)]at a;exact .inl ⟨b,a⟩
def HN.push(o:Obj)(cap:Nat)(E:Fx):
  HN h H w (h.at_ (U H) (Z w.heap.size) 0 cap) (H++[E]) {w with heap:=w.heap.push o}where
 os:=rfl
 tape:=rfl
 output:=rfl
 size:=q!
 keep B hB _:=by simp[To,Bo hB]
 n:=q!
 gen id hid:=by simp[Gh.at_,Bo hid]
 same id hid _:=by simp[Gh.at_,Bo hid]
 fresh B ho:=by obtain⟨id,e,b,d,a⟩:=ho;rcases JN b with⟨c,b⟩|⟨rfl,rfl⟩;exact .inl ⟨id,e,b,d,by simpa[Gh.at_,Bo c]using a⟩;simp[Gh.at_]at a;exact .inr o!
 loops B r hB:=⟨r,by have:=Pj hB;simp[To,Bo this,hB]⟩
def JP.push_any(s:JP X h H w)(o:Obj)(cap:Nat)(E:Fx)
  (t:E≠.dead->((∃g l,E=.live g l/\ABj (cx X (h.at_ (U H) (Z w.heap.size) 0 cap) (H++[E]) {w with heap:=w.heap.push o}) (U H) g l)\/∃L,E=.lp L/\xR (cx X (h.at_ (U H) (Z w.heap.size) 0 cap) (H++[E]) {w with heap:=w.heap.push o}) (U H) L)):
  JP X (h.at_ (U H) (Z w.heap.size) 0 cap) (H++[E]) {w with heap:=w.heap.push o}:=by
 refine s.of_ext (HN.push o cap E) (λid e f d=>?_) λid u e v B p q b c i j=>?_;rcases JN f with⟨a,f⟩|⟨rfl,rfl⟩;refine .inl ⟨f,by simp[Gh.at_,Bo a],by simp[Gh.at_,Bo a],by simp[Gh.at_,Bo a],λB k=>?_⟩;have:=s.io_at f d k;simp[To,Bo this];exact .inr (t d);rcases JN p with⟨l1,m⟩|⟨rfl,_⟩<;>rcases JN q with⟨l2,n⟩|⟨rfl,_⟩;exact s.inj _ _ _ _ B m n b c (by simpa[Gh.at_,Bo l1]using i) (by simpa[Gh.at_,Bo l2]using j);have r:=s.io_at m b (by simpa[Gh.at_,Bo l1]using i);simp[Gh.at_]at j;omega;have r:=s.io_at n c (by simpa[Gh.at_,Bo l2]using j);simp[Gh.at_]at i;omega;rfl
def JP.push(s:JP X h H w)(a:Array Value)(T:TypeId)(c:Nat×Nat)(g:Ψ Ad)(i:Holds (cx X h H w) g a c):
  JP X (h.at_ (U H) (Z w.heap.size) 0 a.size) (H++[.live 0 g]) {w with heap:=w.heap.push (.cells a T c)}:=by
 refine s.push_any _ _ _ λ_=>.inl ⟨0,g,rfl,?_⟩;obtain⟨f,e,d,b⟩:=i;refine⟨by simp[cx,Gh.at_],.inr ⟨w.heap.size,a,T,c,f,by simp[cx,Gh.at_],by show(w.heap.push (.cells a T c))[w.heap.size]?=_;simp,by simp[cx,Gh.at_],e,d,λj v k=>?_⟩⟩;obtain⟨l,m,n⟩:=b j v k;exact⟨l,m,n.later ((HN.push _ _ _).later X)⟩
def JP.upd(s:JP X h H w){id g g' B:Nat}{K cs':Ψ Ad}{arr:Array Value}{T:TypeId}{fz:Nat×Nat}{w':World}(y:H[id]?=δ (Fx.live g K))(hg:g≤g')
  (z:g'=g->h.io id=δ B/\h.cap id=arr.size) (a:h.io id=δ B\/w.heap.size<=B) (hb:w'.heap[B]?=δ (.cells arr T fz)) (N:∀k,k<w.heap.size->k≠B->w'.heap[k]?=w.heap[k]?)
  (R:w'.os=w.os) (C:w'.tape=w.tape) (G:w'.output=w.output) (A:w.heap.size<=w'.heap.size) (hh:Holds (cx X h H w) cs' arr fz):
  JP X (h.at_ id (δ B) g' arr.size) (H.set id (.live g' cs')) w'/\HN h H w (h.at_ id (δ B) g' arr.size) (H.set id (.live g' cs')) w':=by
 have q:id<θ H:=by rcases Ay id (θ H) with o|o;exact o;rw[Cq o]at y;cases y
 have u:h.gen id=g:=(s.live id g K y).1;have S:HN h H w (h.at_ id (δ B) g' arr.size) (H.set id (.live g' cs')) w':=by refine⟨R,C,G,A,λk O hn=>?_,q!,λi n=>?_,λi n e=>?_,λk ho=>?_,λk r hr=>⟨r,?_⟩⟩;refine N k O λe=>?_;subst e;rcases a with a|a;exact hn ⟨id,_,y,q!,a⟩;omega;by_cases e:i=id;subst e;simp[Gh.at_,u,hg];simp[Gh.at_,e];by_cases Z:i=id;subst Z;simp only[Gh.at_,if_true]at e⊢;have:=z (e.trans u);exact⟨this.1.symm,this.2.symm⟩;simp[Gh.at_,Z];obtain⟨i,d,t,b,o⟩:=ho;rcases Jp q t with⟨n,l⟩|⟨rfl,_⟩;exact .inl ⟨i,d,l,b,by simpa[Gh.at_,n]using o⟩;simp[Gh.at_]at o;subst o;rcases a with a|a;exact .inl ⟨i,_,y,q!,a⟩;exact .inr a;have Q:=Pj hr;refine(N k Q λe=>?_).trans hr;subst e;rcases a with a|a;rcases(s.live id g K y).2 with⟨hn,_⟩|⟨W,Y,T',ad,f',x,D,_⟩;rw[show(cx X h H w).io id=h.io id from rfl,a]at hn;cases hn;rw[show(cx X h H w).io id=h.io id from rfl,a]at x;injection x with e;subst e;rw[show(cx X h H w).w.heap=w.heap from rfl,hr]at D;cases D;omega
 have hl:=S.later X;have c:∀{i:Nat}{d:Fx},i≠id->H[i]?=δ d->d≠.dead->h.io i=δ B->False:=by intro i d n t b m;rcases a with a|a;exact n (s.inj i id d _ B t y b q! m a);have:=s.io_at t b m;omega
 refine⟨s.of_ext S (λi d t b=>?_) (λi i' d L k t o E F I J=>?_),S⟩;rcases Jp q t with⟨n,l⟩|⟨rfl,rfl⟩;refine .inl ⟨l,by simp[Gh.at_,n],by simp[Gh.at_,n],by simp[Gh.at_,n],λW m=>N W (s.io_at l b m) λe=>?_⟩;subst e;exact c n l b m;obtain⟨f,P,M,p⟩:=hh;refine .inr (.inl ⟨g',cs',rfl,by simp[cx,Gh.at_],.inr ⟨B,arr,T,fz,f,by simp[cx,Gh.at_],hb,by simp[cx,Gh.at_],P,M,λj v hj=>?_⟩⟩);obtain⟨p1,p2,p3⟩:=p j v hj;exact⟨p1,p2,p3.later hl⟩;rcases Jp q t with⟨U,d⟩|⟨rfl,_⟩<;>rcases Jp q o with⟨V,L⟩|⟨rfl,_⟩;exact s.inj _ _ _ _ k d L E F (by simpa[Gh.at_,U]using I) (by simpa[Gh.at_,V]using J);simp[Gh.at_]at J;subst J;exact(c U d E (by simpa[Gh.at_,U]using I)).elim;simp[Gh.at_]at I;subst I;exact(c V L F (by simpa[Gh.at_,V]using J)).elim;rfl
end
def AC8(h:w.heap[N]?=Z (.cells i a y))(B:Nat):w.frozen? ⟨N,B,W⟩=(τ (y.1<=B)&&τ (B<y.2)):=by unfold World.frozen?;rw[h]
def VS{P:Program}{B off:Nat}{T:TypeId}{h:Nat×Nat}:∀(g:Ψ Value)(i:Nat)(a:Array Value)(w:World),w.heap[B]?=Z (.cells a T h)→off+i+U g≤a.size→
  (∀j,j<a.size->(τ (h.1<=j)&&τ (j<h.2))=Y)->(∀v∈g,v.oneCell'=V)->
  ∃d b,(storeCells ⟨B,off,W⟩ g i).run P w=.ok () d/\d.heap[B]?=Z (.cells b T h)/\b.size=a.size/\(∀j,b[j]?=if off+i<=j/\j<off+i+U g then g[j-(off+i)]? else a[j]?)/\(∀k,k≠B->d.heap[k]?=w.heap[k]?)/\d.os=w.os/\d.tape=w.tape/\d.output=w.output/\d.heap.size=w.heap.size
 |[],i,a,w,hb,_,_,_=>⟨w,a,rfl,hb,rfl,λj=>by rw[D! q!],λ_ _=>rfl,rfl,rfl,rfl,rfl⟩
 |v::g,i,a,w,hb,hle,hfz,h1=>by
  simp only[BY]at hle;have o:w.cell? ⟨B,off+i,W⟩=Z (a[off+i]' o!):=by rw[P2 (w:=w) hb];exact N5 o!
  have p:w.frozen? ⟨B,off+i,W⟩=Y:=by rw[AC8 hb];exact hfz _ o!
  have c:(store ⟨B,off+i,W⟩ v).run P w=.ok () (w.setCell ⟨B,off+i,W⟩ v):=by rw[run_store P w _ v .plain (h1 v q!),o];simp[p]
  have l:(w.setCell ⟨B,off+i,W⟩ v).heap[B]?=Z (.cells (a.setIfInBounds (off+i) v) T h):=by simp[World.setCell,cJ,hb]
  obtain⟨d,b,r,s,t,x,y,z,A,C,D⟩:=VS (P:=P) (off:=off) g (i+1) (a.setIfInBounds (off+i) v) (w.setCell ⟨B,off+i,W⟩ v) l w!
   (by simpa using hfz) (λu q=>h1 u (Ch _ q))
  refine⟨d,b,?_,s,by rw[t];simp,λj=>?_,λk n=>?_,z,A,C,by rw[D];simp[World.setCell]⟩;simp only[storeCells,Ox,Sem.run_bind,c,Result.andThen_ok];exact r;rw[x];by_cases m:j=off+i;subst m;rw[D! o!,C! q!,Array.getElem?_setIfInBounds_self_of_lt o!];simp;by_cases f:off+(i+1)<=j/\j<off+(i+1)+U g;rw[C! f,C! w!,show j-(off+i)=(j-(off+(i+1)))+1 from by omega];rfl;rw[D! f,D! w!,vz (m ·.symm)];rw[y k n];simp[World.setCell,cJ,O3 n]
section
variable {P:Program}{N:Nat}{o:Oper}{env:Env}{H:Au}{K:Ad->Au->Prop}
def Jq.alloc(z:o.op=.alloc a)(g:ZU P a=Z d)(f:K (.ptr (U H) 0 0) (H++[.live 0 d])):Jq P N o env H K:=by
 apply C3 (by rw[z];rfl);intro X h t w s Q;obtain⟨i,v,e,c,j⟩:=fE (cx X h H w) g;have b:(execOp t.eval o).run P w=.ok (.value (.pointer (Z ⟨w.heap.size,0,W⟩))) {w with heap:=w.heap.push (.cells v.cells a)}:=by unfold execOp;rw[z];simp[Instr.alloc,zeroValue,typeInfo,e,c,newVar,newRow]
 unfold Oper.wp;rw[b,Oper.upon_value];refine⟨_,_,_,_,rfl,f,?_,s.sim.push v.cells a (0,0) d (QP j),HN.push _ _ _⟩;exact .ptr (by simp[cx]) (by simp[cx,Gh.at_]) rfl λ_=>⟨w.heap.size,by simp[cx,Gh.at_],rfl⟩
def Jq.box(c:o.op=.box a k)(g:BP env k=e)(f:e.solid=V)(x:K (.ptr (U H) 0 0) (H++[.live 0 e.cells])):Jq P N o env H K:=by
 apply C3 (by rw[c];rfl);intro X h t w s Q;have d:=Dp s.env k;rw[g]at d;have i:=XD d f;have b:(execOp t.eval o).run P w=.ok (.value (.pointer (Z ⟨w.heap.size,0,W⟩))) {w with heap:=w.heap.push (.cells (t.eval k).cells a)}:=by unfold execOp;rw[c];simp[Instr.box,newVar,newRow]
 unfold Oper.wp;rw[b,Oper.upon_value];refine⟨_,_,_,_,rfl,x,?_,s.sim.push _ a (0,0) e.cells (QP i),HN.push _ _ _⟩;exact .ptr (by simp[cx]) (by simp[cx,Gh.at_]) rfl λ_=>⟨w.heap.size,by simp[cx,Gh.at_],rfl⟩
def Jq.store{id g off:Nat}{v:Ad}{cs:Ψ Ad}{b:Bool}(ho:o.op=.store a k L)(hx:BP env k=.ptr id g off)(hy:BP env L=v)(hs:v.solid=ζ)
  (he:H[id]?=δ (Fx.live g cs)) (ht:tI P a=δ (b,θ v.cells)) (J:off+θ v.cells<=θ cs) (V:K .any (H.set id (.live g (XC cs off v.cells)))):Jq P N o env H K:=by
 apply C3 (by rw[ho];rfl);intro X h x w s Q;have Z:=Dp s.env k;rw[hx]at Z;have Y:=Dp s.env L;rw[hy]at Y;have rz:=XD Y hs;obtain⟨I,F⟩:=s.sim.live id g cs he;obtain⟨B,i,S⟩:∃B,h.io id=δ B/\x.eval k=.pointer (δ ⟨B,off,ε⟩):=by
  generalize x.eval k=c at Z;cases Z with
  |ptr al O h1 hc=>obtain⟨B,i,rfl⟩:=hc I;exact⟨B,i,rfl⟩
 rcases F with⟨hn,_⟩|⟨B',D,T,R,f,z,hb,E,ad,G,m⟩;rw[show(cx X h H w).io id=h.io id from rfl,i]at hn;cases hn;rw[show(cx X h H w).io id=h.io id from rfl,i]at z;injection z with e;subst e;generalize U:x.eval L=c at Y rz;obtain⟨M,A,W⟩:c.cells.size=θ v.cells/\(∀(j:Nat)(d:Value),c.cells[j]?=δ d->d.oneCell'=ζ)/\(∀(j:Nat)(u:Ad)(d:Value),v.cells[j]?=δ u->c.cells[j]?=δ d->Bw (cx X h H w) u d):=by cases rz with|agg p q r=>exact⟨p,q,r⟩
 obtain⟨w',n,p1,p2,p3,p4,p5,p6,p7,p8,p9⟩:=VS (P:=P) (off:=off) c.cells.toList 0 D w hb w! G (λd hd=>by obtain⟨j,C⟩:=C2 hd;exact A j d (by simpa using C));have y:(execOp x.eval o).run P w=.ok .skip w':=by unfold execOp;rw[ho];simp only[S,U,Instr.storeAt,Instr.sureAddr,Sem.run_bind,Sem.run_pure,Result.andThen_ok,storeVar,La ht];rw[D! (by simp[M])];simp only[Result.andThen_ok,p1]
 have hh:Holds (cx X h H w) (XC cs off v.cells) n R:=by
  refine⟨λj=>if off<=j/\j<off+θ v.cells then c.cells.getD (j-off) undef else f j,by rw[k9 J];omega,by rw[p3];exact G,λj u C=>?_⟩;rw[vJ J]at C;rw[p4];simp only[O1,D2,M,Pz];split at C;rename_i l;rw[C! l,C! l];have hl:j-off<c.cells.size:=o!
  have O:c.cells[j-off]?=δ (c.cells[j-off]):=N5 hl;have e:c.cells.getD (j-off) undef=c.cells[j-off]:=by simp[hl]
  rw[e];exact⟨O,A _ _ O,W _ u _ C O⟩;rename_i l;rw[D! l,D! l];exact m j u C
 obtain⟨q1,q2⟩:=s.sim.upd (g':=g) (B:=B) (arr:=n) (T:=T) (fz:=R) (w':=w') he (Al _) (λ_=>⟨i,by rw[p3];exact E.symm⟩) (.inl i) p2 (λt _ V=>p5 t V) p6 p7 p8 (by rw[p9];exact Al _) hh;unfold Oper.wp;rw[y,Oper.upon_skip];exact⟨_,_,_,_,rfl,V,.any _,q1,q2⟩
end
section
variable {X:Nat->Prop}{h:Gh}{H:Au}{w w':World}
def HN.grow(b:w'.os=w.os)(f:w'.tape=w.tape)(d:w'.output=w.output)(e:w.heap.size<=w'.heap.size)(c:∀k,k<w.heap.size->w'.heap[k]?=w.heap[k]?):HN h H w h H w':=⟨b,f,d,e,λB a _=>c B a,Al _,λ_ _=>Al _,λ_ _ _=>⟨rfl,rfl⟩,λ_ h=>.inl h,λB r a=>⟨r,(c B (Pj a)).trans a⟩⟩
def JP.grow(s:JP X h H w)(c:w'.os=w.os)(i:w'.tape=w.tape)(f:w'.output=w.output)(g:w.heap.size<=w'.heap.size)(e:∀k,k<w.heap.size->w'.heap[k]?=w.heap[k]?):JP X h H w':=s.of_ext (HN.grow c i f g e) (λ_ _ d b=>.inl ⟨d,rfl,rfl,rfl,λB a=>e B (s.io_at d b a)⟩) s.inj
def HN.virt:HN h H w (h.at_ (U H) W 0 0) (H++[.live 0 []]) w where
 os:=rfl
 tape:=rfl
 output:=rfl
 size:=Al _
 keep B _ _:=rfl
 n:=q!
 gen id hid:=by simp[Gh.at_,Bo hid]
 same id hid _:=by simp[Gh.at_,Bo hid]
 fresh B ho:=by obtain⟨id,e,b,d,a⟩:=ho;rcases JN b with⟨c,b⟩|⟨rfl,rfl⟩;exact .inl ⟨id,e,b,d,by simpa[Gh.at_,Bo c]using a⟩;simp[Gh.at_]at a
 loops B r hB:=⟨r,hB⟩
theorem JP.virt(s:JP X h H w):JP X (h.at_ (U H) W 0 0) (H++[.live 0 []]) w:=by refine s.of_ext HN.virt (λid e f m=>?_) λid n e o B j k a b c d=>?_;rcases JN f with⟨l,f⟩|⟨rfl,rfl⟩;grind[Gh.at_];exact .inr (.inl ⟨0,[],rfl,by simp[cx,Gh.at_],.inl ⟨by simp[cx,Gh.at_],rfl⟩⟩);rcases JN j with⟨l1,g⟩|⟨rfl,_⟩<;>rcases JN k with⟨l2,i⟩|⟨rfl,_⟩;exact s.inj _ _ _ _ B g i a b (by simpa[Gh.at_,Bo l1]using c) (by simpa[Gh.at_,Bo l2]using d);simp[Gh.at_]at d;simp[Gh.at_]at c;rfl
def JP.bump(s:JP X h H w){id g:Nat}{cs}(n:H[id]?=Z (Fx.live g cs))(hn:h.io id=W):
  JP X (h.at_ id W (g+1) (h.cap id)) (H.set id (.live (g+1) [])) w/\HN h H w (h.at_ id W (g+1) (h.cap id)) (H.set id (.live (g+1) [])) w:=by
 have a:id<U H:=by rcases Ay id (U H) with b|b;exact b;rw[Cq b]at n;cases n
 have c:h.gen id=g:=(s.live id g cs n).1;have own:∀B,owned (h.at_ id W (g+1) (h.cap id)) (H.set id (.live (g+1) [])) B->owned h H B:=by rintro B ⟨i,e,j,l,b⟩;rcases Jp a j with⟨f,d⟩|⟨rfl,_⟩;exact⟨i,e,d,l,by simpa[Gh.at_,f]using b⟩;simp[Gh.at_]at b
 have u:HN h H w (h.at_ id W (g+1) (h.cap id)) (H.set id (.live (g+1) [])) w:=by refine⟨rfl,rfl,rfl,Al _,λk A hn=>rfl,q!,λi f=>?_,λi f e=>?_,λB C=>.inl (own B C),λB r y=>⟨r,y⟩⟩;by_cases e:i=id;subst e;simp[Gh.at_,c];simp[Gh.at_,e];by_cases m:i=id;subst m;simp[Gh.at_,c]at e;simp[Gh.at_,m]
 refine⟨s.of_ext u (λi e j l=>?_) (λi F e m k j b o p q t=>?_),u⟩;rcases Jp a j with⟨f,d⟩|⟨rfl,rfl⟩;exact .inl ⟨d,by simp[Gh.at_,f],by simp[Gh.at_,f],by simp[Gh.at_,f],λB z=>rfl⟩;exact .inr (.inl ⟨g+1,[],rfl,by simp[cx,Gh.at_],.inl ⟨by simp[cx,Gh.at_],rfl⟩⟩);rcases Jp a j with⟨D,v⟩|⟨rfl,_⟩<;>rcases Jp a b with⟨E,x⟩|⟨rfl,_⟩;exact s.inj _ _ _ _ k v x o p (by simpa[Gh.at_,D]using q) (by simpa[Gh.at_,E]using t);simp[Gh.at_]at t;simp[Gh.at_]at q;rfl
end
def KV(H:Au)(sz:Nat):Ad->Ω (Nat×Ψ Ad)
 |.vs sz' rows=>if sz=sz' then Z (U rows,rows.flatMap Ad.cells)else W
 |.sl id g sz' off len=>
  match H[id]? with
  |some (.live g' cs)=>if g=g'/\sz=sz'/\off+len*sz<=U cs then Z (len,(cs.drop off).take (len*sz))else W
  |_=>W
 |.nils=>Z (0,[])
 |_=>W
theorem Om{P:Program}{X:Nat→Prop}{h}{H}{w}{v}{c}{sz m:Nat}{J:Ψ Ad}(s:JP X h H w)(r:Bw (cx X h H w) v c)(N:0<sz)(hr:KV H sz v=δ (m,J)):
  ∃a cap S,c=.slice a m cap/\θ J=m*sz/\mq (cx X h H w) J S/\(∀u∈S,u.oneCell'=ζ)/\(Builtin.lenOf c).run P w=.ok m w/\(Builtin.firstCells sz m c).run P w=.ok S.toArray w:=by
 cases r with
 |nils=>simp only[KV,Ao,Ee]at hr;obtain⟨rfl,rfl⟩:=hr;exact⟨ε,0,[],rfl,q!,⟨rfl,λ_ _ _ h=>by cases h⟩,(λ_ h=>by cases h),rfl,rfl⟩
 | @vs R b a cap f y Z D ha hv=>
  simp only[KV]at hr;split at hr;rename_i F;subst F;simp only[Ao,Ee]at hr;obtain⟨rfl,rfl⟩:=hr;have q:=qx D;cases b with
  |nil=>refine⟨a,cap,[],rfl,q!,⟨rfl,λ_ _ _ h=>by cases h⟩,(λ_ h=>by cases h),rfl,?_⟩;cases a<;>simp[Builtin.firstCells,loadCells,loadCellsFrom]
  |cons e0 E=>
   obtain⟨B,k,rfl,hO,hB,L⟩:=ha q!;generalize e0::E=b at*;have K:∀j,j<θ b*sz->∃e v,b[j/sz]?=δ e/\e.cells[j%sz]?=δ v:=by intro j o;have F:j/sz<θ b:=(Nat.div_lt_iff_lt_mul N).2 o;have I:b[j/sz]?=δ (b[j/sz]):=As F;grind[Nat.mod_lt,m?]
   refine⟨_,cap,(List.range (θ b*sz)).map λj=>f (j/sz) (j%sz),rfl,q,⟨by simp[q],λj v d o G=>?_⟩,λu O=>?_,rfl,?_⟩;grind[flat_get,Nat.lt_or_ge,u?,List.getElem?_range,Option.some.injEq];grind;have:=run_loadCells (P:=P) w ⟨B,k,ε⟩ (θ b*sz) (λj=>f (j/sz) (j%sz)) λj o=>by obtain⟨e,v,I,Q⟩:=K j o;rw[Ox];have V:=(L _ e _ v I Q).1;rw[Nat.div_add_mod' j sz]at V;exact V
   grind[Builtin.firstCells]
  cases hr
 | @sl id g R k len c ao hg F L=>
  simp only[KV]at hr;split at hr;rename_i g' l I;split at hr;rename_i x;obtain⟨rfl,rfl,ap⟩:=x;simp only[Ao,Ee]at hr;obtain⟨rfl,rfl⟩:=hr;obtain⟨A,z⟩:=s.live id g l I;rcases L A with⟨n,rfl,rfl,rfl⟩|⟨B,cap,n,y,M,rfl⟩;exact⟨ε,0,[],rfl,q!,⟨q!,λ_ _ _ _ h=>by cases h⟩,(λ_ h=>by cases h),rfl,rfl⟩;rcases z with⟨hn,_⟩|⟨U,ad,T,fz,f,p,hb,W,Y,al,i⟩;rw[hn]at n;cases n;have:U=B:=by rw[n]at p;injection p with e;exact e.symm
  subst this;refine⟨_,cap,(List.range (len*sz)).map λj=>f (k+j),rfl,w!,⟨w!,λj v d o G=>?_⟩,λu O=>?_,rfl,?_⟩;have C:j<len*sz:=by grind[Nat.lt_or_ge,u?]
  rw[YY,C! C,J6]at o;rw[CR,RT C]at G;simp only[Bs,Ao]at G;subst G;exact(i _ v o).2.2;simp only[Bn,IK]at O;obtain⟨j,o,rfl⟩:=O;have t:l[k+j]?=δ (l[k+j]' o!):=As o!;exact(i _ _ t).2.1;have:=run_loadCells (P:=P) w ⟨U,k,ε⟩ (len*sz) (λj=>f (k+j)) λj o=>by have t:l[k+j]?=δ (l[k+j]' o!):=As o!;rw[Ox,P2 (w:=w) hb];exact(i _ _ t).1
  simpa[Builtin.firstCells]using this;cases hr;cases hr
 |_=>simp only[KV]at hr;cases hr
theorem ABB(a b:Nat)(h:b<a):Builtin.nextslicecap a b<=2*a+2048:=by grind[Builtin.nextslicecap,Builtin.growBy]
def SJ(P:Program)(e:TypeId):Bool:=
 match P.info? e with
 |some i=>decide (i.bytes<=1048576)&&(match i.zero with|some z=>decide (z.cells.size=i.size)|none=>Y)
 |none=>Y
section
variable {P:Program}{N:Nat}{o:Oper}{env:Env}{H:Au}{K:Ad->Au->Prop}
theorem Ua(h:SJ P a=V):∃i z,P.info? a=Z i/\i.bytes<=1048576/\i.zero=Z z/\z.cells.size=i.size:=by grind[SJ]
theorem mD(h:tI P a=Z (s,N))(t:P.info? a=Z q):q.size=N:=by unfold tI at h;grind
theorem Jq.buildSlice{t e:TypeId}{len sz:Nat}{f:Array (Nat×Operand)}{W:Ψ Ad}(ho:o.op=.buildSlice t len f)(he:eI P t=δ (ε,e,sz))(a0:0<sz)(a5:SJ P e=ζ)
  (C:f.toList.map (·.1)=List.range len) (a7:f.toList.map (BP env ·.2)=W) (O:∀v∈W,v.solid=ζ/\θ v.cells=sz) (L:len<=4096/\sz<=4096) (hk:K (.vs sz W) H):Jq P N o env H K:=by
 apply C3 (by rw[ho];rfl);intro X h a w s Q;obtain⟨a1,b,hi⟩:=Qw he;obtain⟨i,z,D,_,hz,a8⟩:=Ua a5;have A:=mD hi D;have V:θ W=len:=by have n:=E! θ C;grind[θ]
 let g:Ψ Value:=f.toList.map λp=>a.eval p.2;have U:θ g=len:=by grind[θ]
 have M:∀(j:Nat)(v:Ad)(c:Value),W[j]?=δ v->g[j]?=δ c->Bw (cx X h H w) (.agg v.cells) (.agg c.cells)/\θ v.cells=sz:=by
  intro j v c G Y;have hm:=O v (BN G);refine⟨?_,hm.2⟩;subst a7;simp only[g,CR]at G Y;cases Z:f.toList[j]? with
  |none=>rw[Z]at G;cases G
  |some p=>rw[Z]at G Y;simp only[Bs,Ao]at G Y;subst G Y;exact XD (Dp s.env p.2) hm.1
 have y:∀c∈g,c.cells.size=sz:=by
  intro c Y;obtain⟨j,B⟩:=C2 Y;have E:j<θ W:=by grind[Nat.lt_or_ge,u?]
  obtain⟨n,r⟩:=M j _ c (As E) B;cases n<;>grind
 have R:(f.map λq=>(q.1,a.eval q.2)).toList=(g.zipIdx 0).map λx=>(x.2,x.1):=by
  apply JR;intro j;simp only[Array.toList_map,CR,List.getElem?_zipIdx,DZ,g];cases Z:f.toList[j]? with
  |none=>rfl
  |some p=>
   have n:(f.toList.map (·.1))[j]?=δ p.1:=by rw[CR,Z];rfl
   rw[C]at n;have E:j<len:=by rcases Ay j len with r|r;exact r;rw[Cq (by simpa using r)]at n;cases n
   rw[RT E]at n;simp only[Ao]at n;simp[n]
 have a4:(g.flatMap λc=>c.cells.toList).length=len*sz:=by
  clear R;have:∀l:Ψ Value,(∀c∈l,c.cells.size=sz)->(l.flatMap λc=>c.cells.toList).length=θ l*sz:=by
   intro l;induction l with
   |nil=>simp
   |cons c l ih=>intro V;simp only[JS,Ac,D2,V c q!,ih (λd I=>V d (Ch _ I)),BY,EB];omega
  rw[this g y,U]
 have al:∀(j:Nat)(c:Value)(q:Nat)(d:Value),g[j]?=δ c->c.cells[q]?=δ d->(g.flatMap λc=>c.cells.toList)[j*sz+q]?=δ d:=by
  have:∀(l:Ψ Value),(∀c∈l,c.cells.size=sz)->∀(j:Nat)(c:Value)(q:Nat)(d:Value),l[j]?=δ c->c.cells[q]?=δ d->(l.flatMap λc=>c.cells.toList)[j*sz+q]?=δ d:=by
   intro l;induction l with
   |nil=>intro _ j c q d B;simp at B
   |cons c0 l ih=>
    intro V j c q d B I;simp only[JS];have h0:=V c0 q!;cases j with
    |zero=>simp at B;subst B;rw[Yd,DZ,CW (by rcases Ay q c0.cells.size with r|r;simpa using r;rw[tW r]at I;cases I)];simpa using I
    |succ j=>rw[Cl (by rw[D2,h0,EB];omega),D2,h0];rw[show(j+1)*sz+q-sz=j*sz+q from by rw[EB];omega];exact ih (λd I=>V d (Ch _ I)) j c q d (by simpa using B) I
  exact this g y
 have F:∃m:Array Value,(execOp a.eval o).run P w=.ok (.value (.slice (δ ⟨w.heap.size,0,ε⟩) len len)) {w with heap:=w.heap.push (.cells m e)}/\m.toList=g.flatMap λc=>c.cells.toList:=by
  unfold execOp;rw[ho];by_cases h0:len=0;subst h0;have:g=[]:=Eh U;refine⟨#[],?_,by rw[this];rfl⟩;have Z:f= #[]:=by have n:=E! θ C;simp at n;exact n
  simp[Instr.buildSlice,run_underlying a1,La hi,Z,Instr.fill,newRow,show Array.range 0= #[]from rfl];refine⟨(g.flatMap λc=>c.cells.toList).toArray,?_,rfl⟩;have ap:¬len*i.size=0:=by rw[A];exact Nat.mul_ne_zero h0 o!
  have a6:¬len*i.size>2^24:=by rw[A];have:=nE L.1 L.2;omega
  have hf:=Go.Great.fill_whole (s:=sz) a0 g ((Array.range (len*i.size)).map (z.cells[· %z.cells.size]!)) y (by simp[U,A]);have:=run_buildSlice (P:=P) w t e len (f.map λq=>(q.1,a.eval q.2)) _ i z a1 D hz a6 ap (by rw[R,A]at*;exact hf);simp only[Sem.run_bind];rw[show(f.map λx=>match x with|(i,x)=>(i,a.eval x))=(f.map λq=>(q.1,a.eval q.2))from rfl,this];rfl
 obtain⟨m,F,ad⟩:=F;unfold Oper.wp;rw[F,Oper.upon_value];have ax:=s.sim.grow (w':={w with heap:=w.heap.push (.cells m e)}) rfl rfl rfl q! (λk hk=>by simp[To,Bo hk]);have J:=HN.grow (h:=h) (H:=H) (w:=w) (w':={w with heap:=w.heap.push (.cells m e)}) rfl rfl rfl q! (λk hk=>by simp[To,Bo hk]);refine⟨_,_,h,H,rfl,hk,?_,ax,J⟩;subst V;refine .vs (λj q=>((g.getD j undef).cells.getD q undef)) (Al _) a0 (λj v B=>(O v (BN B)).2) (λao=>⟨w.heap.size,0,rfl,?_,by simp[cx],λj v q u B hq=>?_⟩) λj v q u B hq=>?_;rintro(hX|ho);have:=(s.sim.out _ hX).1;omega;obtain⟨id,e1,n,ao,r⟩:=ho;have:=s.sim.io_at n ao r;omega;all_goals
  have E:j<θ g:=by rcases Ay j (θ W) with r|r;omega;rw[Cq r]at B;cases B
  have S:g[j]?=δ (g[j]):=As E;have a3:g.getD j undef=g[j]:=by simp[N6,S]
  obtain⟨r1,r2⟩:=M j v _ B S;rw[a3];cases r1 with
  |agg hs n G=>
   have ar:q<(g[j]).cells.size:=by rcases Ay q (θ v.cells) with r|r;omega;rw[Cq r]at hq;cases hq
   have T:(g[j]).cells[q]?=δ ((g[j]).cells[q]):=N5 ar;have a2:(g[j]).cells.getD q undef=(g[j]).cells[q]:=by simp[ar]
   rw[a2];first
    |exact(G q u _ hq T).later (J.later X)
    |(refine⟨?_,n q _ T⟩
      have hb:(w.heap.push (.cells m e))[w.heap.size]?=δ (.cells m e (0,0)):=q!
      rw[DZ];show World.cell? {w with heap:=w.heap.push (.cells m e)} _=_;rw[P2 (w:={w with heap:=w.heap.push (.cells m e)}) hb,<-Pz,ad];exact al j _ q _ S T)
end
section
variable {P:Program}
def ZV(z:Array Value)(n:Nat):(Builtin.zeroCells z n).size=n*z.size:=by simp[Builtin.zeroCells]
def nJ{t ty e:TypeId}(g:P.underlying t=Z (.slice e))(j:P.info? e=Z q){base:Ω Addr}{n cap m:Nat}{w w':World}
  (d:(Builtin.lenOf b).run P w=.ok m w) (f:(Builtin.firstCells q.size m b).run P w=.ok x.toArray w) (c:n+m<=cap)
  (i:(match base with
   |some a=>storeCells (a.add (n*q.size)) x
   |none=>pure ():Sem Unit).run P w=.ok () w'):
  (Builtin.append_ #[t,t] ty #[.slice base n cap,b]).run P w=.ok (.slice base (n+m) cap) w':=by
 cases base<;>simp only at i<;>simp[Builtin.append_,run_underlying g,sizeOf,typeInfo,j,d,f,c,i];simp at i;exact i
def rG{t ty e:TypeId}(g:P.underlying t=Z (.slice e))(p:P.info? e=Z q)(r:q.zero=Z b)(l:q.bytes≤1048576){base:Ω Addr}{n cap m:Nat}{os j:Ψ Value}
  (f:(Builtin.lenOf B).run P w=.ok m w) (i:(Builtin.firstCells q.size n (.slice base n cap)).run P w.drew=.ok os.toArray w.drew) (hn:(Builtin.firstCells q.size m B).run P w.drew=.ok j.toArray w.drew)
  (z:cap<n+m) (h:n+m<=16777216):
  ∃a,n+m<=a/\(Builtin.append_ #[t,t] ty #[.slice base n cap,B]).run P w=.ok (.slice (Z ⟨w.heap.size,0,W⟩) (n+m) a) {w.drew with heap:=w.drew.heap.push (.cells (os.toArray++j.toArray++Builtin.zeroCells b.cells (a-(n+m))) e)}:=by
 have d:¬(Builtin.nextslicecap (n+m) cap*q.bytes>2^48):=by have s:=ABB (n+m) cap z;have u:Builtin.nextslicecap (n+m) cap*q.bytes<=33556480*1048576:=nE o! l;omega
 refine⟨(Question.appendCap (n+m) cap e).cut (w.tape w.drawn (.appendCap (n+m) cap e)),by simp[Question.cut],?_⟩;have k:IntKind.i64.max=9223372036854775807:=g!
 have c:¬((9223372036854775807:Int)<(n:Int)+(m:Int)/\q.bytes=0):=o!
 have o:(Question.appendCap (n+m) cap e).forced=Y:=rfl;simp[Builtin.append_,sizeOf,typeInfo,zeroValue,run_underlying g,p,r,f,d,newRow,k];rw[D! o!,D! c,D! (by rw[o];simp),i];simp only[Result.andThen_ok];rw[hn];simp only[Result.andThen_ok,Result.ok.injEq];refine⟨rfl,?_⟩;rw[<-List.append_toArray,Array.append_assoc];rfl
end
section
variable {P:Program}{N:Nat}{o:Oper}{env:Env}{H:Au}{K:Ad->Au->Prop}
def RP{d:Operand→Value}(e:o.op=.call {callee:=.builtin .append,args:= #[k,L],argTypes:= #[a,a]})
  (h:(Builtin.append_ #[a,a] o.type #[d k,d L]).run P w=.ok b A):(execOp d o).run P w=.ok (.value b) A:=by
 unfold execOp;rw[e];simp only[resolve,invoke,builtin,Sem.run_bind,Sem.run_pure,Result.andThen_ok,Qn,CQ,Hi];rw[h];rfl
def JP.drew{X:Nat->Prop}{h}{H}{w}(s:JP X h H w):JP X h H w.drew:=s.grow rfl rfl rfl (Al _) λ_ _=>rfl
def HN.drew{h}{H}{w}:HN h H w h H w.drew:=HN.grow rfl rfl rfl (Al _) λ_ _=>rfl
def wb{as bs}{os a}{n:Array Value}(ra:mq f as os)(g:mq f bs a)(k:∀u∈os,u.oneCell'=V)(l:∀u∈a,u.oneCell'=V):
  Holds f (as++bs) (os.toArray++a.toArray++n) (0,0):=by
 refine⟨λj=>(os++a).getD j undef,?_,λi _=>q!,λj v d=>?_⟩;simp[ra.1,g.1];have x:j<(os++a).length:=by rcases Ay j (as++bs).length with b|b;simp[ra.1,g.1]at*;omega;rw[Cq b]at d;cases d
 have c:(os++a)[j]?=Z ((os++a)[j]):=As x;have e:(os++a).getD j undef=(os++a)[j]:=by rw[N6,c];rfl
 show _=Z ((os++a).getD j undef)/\((os++a).getD j undef).oneCell'=V/\Bw f v ((os++a).getD j undef);rw[e];refine⟨?_,?_,?_⟩;rw[Ye (by simpa using x),List.append_toArray,fG];exact c;have m:(os++a)[j]∈os++a:=GW x;rcases Am.1 m with h|h;exact k _ h;exact l _ h;rcases Ay j (U as) with b|b;rw[CW b]at d;rw[CW (by rw[ra.1];exact b)]at c;exact ra.2 j v _ d c;rw[Cl b]at d;rw[Cl (by rw[ra.1];exact b),ra.1]at c;exact g.2 _ v _ d c
theorem Jq.append_nil{D T:Operand}{t e:TypeId}{sz m:Nat}{d:Ψ Ad}(I:o.op=.call {callee:=.builtin .append,args:= #[D,T],argTypes:= #[t,t]})(he:eI P t=δ (ε,e,sz))(v:0<sz)(J:SJ P e=ζ)
  (hs:BP env D=.nils) (M:KV H sz (BP env T)=δ (m,d)) (V:m<=16777216) (U:K (.sl (θ H) 0 sz 0 m) (H++[.live 0 d])):Jq P N o env H K:=by
 apply C3 (by rw[I];rfl);intro X h a w s Q;obtain⟨B,b,hi⟩:=Qw he;obtain⟨i,z,f,G,hz,O⟩:=Ua J;have j:=mD hi f;have R:=Dp s.env D;rw[hs]at R;have y:a.eval D=.slice ε 0 0:=by generalize a.eval D=c at R;cases R;rfl
 have S:=Dp s.env T;unfold Oper.wp;rcases WF m with W|W;subst W;obtain⟨Z,x,E,F,A,g,p,l,q⟩:=Om (P:=P) s.sim S v M;have u:d=[]:=Eh o!;subst u;have L:E=[]:=Eh g.1;subst L;have k:=nJ (ty:=o.type) (base:=ε) (n:=0) (cap:=0) (w':=w) B f l (by rw[j];exact q) o! rfl;rw[RP I (by rw[y];exact k),Oper.upon_value];exact⟨_,_,_,_,rfl,U,.sl (by simp[cx]) k! ⟨_,_,rfl⟩ λ_=>.inl ⟨by simp[cx,Gh.at_],rfl,rfl,rfl⟩,s.sim.virt,HN.virt⟩;have Y:=s.sim.drew;obtain⟨Z,x,E,F,A,g,p,l,q⟩:=Om (P:=P) Y (S.later (HN.drew.later X)) v M;obtain⟨_,_,_,_,_,_,_,r,_⟩:=Om (P:=P) s.sim S v M;obtain⟨C,hC,k⟩:=rG (ty:=o.type) (base:=ε) (n:=0) (cap:=0) (os:=[]) B f hz G r (by rfl) (by rw[j];exact q) o! o!;rw[RP I (by rw[y];exact k),Oper.upon_value];have hh:Holds (cx X h H w.drew) d (#[]++E.toArray++Builtin.zeroCells z.cells (C-(0+m))) (0,0):=wb (as:=[]) (os:=[]) ⟨rfl,λ_ _ _ h=>by cases h⟩ g (λ_ h=>by cases h) p;refine⟨_,_,_,_,rfl,U,?_,Y.push _ e (0,0) d hh,HN.drew.trans (HN.push _ _ _)⟩;rw[DZ];refine .sl (by simp[cx]) k! ⟨_,_,rfl⟩ λ_=>.inr ⟨w.heap.size,C,by simp[cx,Gh.at_],o!,?_,rfl⟩;have e1:θ E=m*sz:=by rw[g.1,A]
 simp only[cx,Gh.at_,if_true,Array.size_append,fK,ZV,O,j,e1];have:(C-(0+m))*sz+m*sz=C*sz:=by rw[<-EB];congr 1;omega
 grind
end
end Go.Ab
