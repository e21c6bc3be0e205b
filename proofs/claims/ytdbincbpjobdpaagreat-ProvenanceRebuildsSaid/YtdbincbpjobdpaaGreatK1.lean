import Derived.Calls
import Derived.Below
import Derived.RangeFuncRecord
import Derived.OrdersIn
import Derived.Lib.FrozenHead
import Derived.Orders
import Derived.Laws.Cells
import Derived.Laws.Entries
import Derived.Laws.StructEq
import Derived.ChangeKeysEq
import Derived.Laws.BytesString
import Derived.Laws.Tables
import Derived.Great.FillDense
import Derived.Great.BuildSlice
import Derived.Laws.MakeOwn
import Derived.RangeFuncNested
import Derived.Lib.ConvBytes
import Derived.Laws.AppendOwn
open _root_ renaming Nat->S
namespace Go
theorem n!{A B:Prop}(h:¬A:=by decide):A->B:=λa=>absurd a h
theorem o!{P:Prop}(h:P:=by omega):P:=h
theorem d!{P:Prop}(h:P:=by dsimp only;omega):P:=h
theorem g!{P:Prop}(h:P:=by decide):P:=h
theorem k!{P:Prop}(h:P:=by grind):P:=h
theorem q!{P:Prop}(h:P:=by simp):P:=h
theorem w!{P:Prop}(h:P:=by simp;omega):P:=h
theorem v!{P:Prop}(h:P:=by assumption):P:=h
theorem u!{P:Prop}(h:P:=by dsimp only;decide):P:=h
theorem t!{P:Prop}(h:P:=by simp_all):P:=h
end Go
noncomputable section
set_option linter.all false
open Option renaming some->Y
open List renaming length->W
open Bool renaming true->E
open Option renaming none->D
open Option renaming some->δ,none->ε
open Bool renaming true->ζ,false->η
open List renaming length->θ,replicate->ς
open BitVec renaming ofInt->κ
open Nat renaming beq->ξ
open Decidable renaming decide->τ
namespace Go
abbrev Ω.{u}(a:Type u):=Option a
abbrev Ψ.{u}(a:Type u):=List a
def A!:=@cond_false
def B!:=@cond_true
def C!:=@if_pos
theorem n?{α:Type _}{a b:List α}:(a++b).length=a.length+b.length:=List.length_append
theorem m?{α:Type _}{l:List α}{i:S}(h:i<l.length):l[i]? =some l[i]:=List.getElem?_eq_getElem h
theorem p?{α β:Type _}{a:α}{f:α->Option β}:(some a).bind f=f a:=rfl
theorem t?{α:Type _}(a b c:List α):a++b++c=a++(b++c):=List.append_assoc a b c
theorem u?{α:Type _}{l:List α}{i:S}(h:l.length<=i):l[i]? =none:=List.getElem?_eq_none h
theorem r?{α:Type _}{i:S}{l:List α}:(l.take i).length=min i l.length:=List.length_take
theorem s?(n:S):(n:Int).toNat=n:=Int.toNat_natCast n
theorem a!{α:Type _}{a b:α}:a∈[b]<->a=b:=List.mem_singleton
def D!:=@if_neg
def E!:=@congrArg
def F!:=@decide_eq_false
def G!:=@decide_eq_true
def H!:=@bne_self_eq_false
def I!:=@beq_eq_false_iff_ne
def J!:=@beq_iff_eq
def K!:=@decide_eq_true_eq
def L!:=@beq_self_eq_true
def M!:=@bne_iff_ne
def N!:=@of_decide_eq_true
theorem O!{a b:Prop}(h:a)(k: ¬a):b:=absurd h k
theorem P!:True:=trivial
def tq:=@Array.eq_empty_of_size_eq_zero
def og:=@Array.extract_size
def RE:=@Array.getD_eq_getD_getElem?
def Yw:=@Array.getElem?_append_left
def uC:=@Array.getElem?_append_right
def ON:=@Array.getElem?_eq_getElem
def uD:=@Array.getElem?_eq_none
def zG:=@Array.getElem?_eq_none_iff
def dC:=@Array.getElem?_eq_some_iff
def dE:=@Array.getElem?_map
def cw:=@Array.getElem?_modify
def UB:=@Array.getElem?_push
def wK:=@Array.getElem?_setIfInBounds_ne
def QG:=@Array.getElem?_toList
def Dy:=@Array.length_toList
def wL:=@Array.mem_of_getElem?
def qB:=@Array.size_setIfInBounds
def qC:=@BitVec.eq_of_getLsbD_eq
def cy:=@BitVec.ofInt_natCast
def cz:=@BitVec.toNat_ofNat
def ly:=@BitVec.xor_assoc
def c7:=@BitVec.xor_self
def lz:=@BitVec.zero_xor
def BZ:=@Bool.and_eq_true
def YZ:=@Bool.and_self
def Rj:=@Bool.and_true
def qD:=@Bool.false_and
def QH:=@Bool.false_eq_true
def Wa:=@Bool.not_eq_true'
def By:=@Bool.not_true
def QI:=@Bool.or_eq_true
def Ya:=@Bool.true_and
def UD:=@Decidable.byContradiction
def Wb:=@Iff.rfl
def Ef:=@Int.eq_ofNat_of_zero_le
def mA:=@Int.fdiv_eq_ediv_of_nonneg
def Ae:=@Int.le_refl
def Yb:=@Int.le_trans
def mB:=@Int.lt_or_le
def qE:=@Int.mul_ediv_add_emod
def qF:=@Int.tmod_lt_of_pos
def qG:=@Int.tmod_nonneg
def CO:=@s?
def Ig:=@Int.toNat_of_nonneg
def mC:=@Int.toNat_zero
def qH:=@List.Pairwise.imp_of_mem
def qI:=@List.Perm.eq_of_pairwise
def mD:=@List.Perm.refl
def qJ:=@List.all_cons
def GK:=@List.all_eq_true
def qK:=@List.all_nil
def qL:=@List.any_eq_true
def A2:=@t?
def qM:=@List.append_eq_append_iff
def Eg:=@List.append_inj
def DT:=@List.append_nil
def ET:=@List.cons_append
def Yc:=@List.drop_append
def mE:=@List.drop_append_of_le_length
def LL:=@List.drop_drop
def OO:=@List.drop_eq_getElem_cons
def mF:=@List.drop_eq_nil_of_le
def Rk:=@List.drop_left
def mG:=@List.drop_left'
def Rl:=@List.drop_of_length_le
def mH:=@List.drop_sublist
def Wc:=@List.drop_zero
def Eh:=@List.eq_nil_of_length_eq_zero
def JW:=@List.ext_getElem?
def wM:=@List.extract_eq_take_drop
def wN:=@List.filterMap_append
def GL:=@List.filter_append
def Mu:=@List.filter_cons
def wO:=@List.filter_cons_of_neg
def wP:=@List.filter_cons_of_pos
def mI:=@List.filter_nil
def Wd:=@List.filter_sublist
def Yd:=@List.flatMap_append
def Ih:=@List.flatMap_cons
def qN:=@List.flatMap_nil
def qO:=@List.flatten_cons
def Ye:=@List.foldl_append
def Yf:=@List.foldl_cons
def Rm:=@List.getD_eq_getElem?_getD
def CZ:=@List.getElem?_append_left
def Cn:=@List.getElem?_append_right
def mJ:=@List.getElem?_cons_succ
def dA:=@List.getElem?_cons_zero
def KD:=@List.getElem?_drop
def Au:=@m?
def Ct:=@u?
def Ei:=@List.getElem?_eq_some_iff
def qP:=@List.getElem?_inj
def CT:=@List.getElem?_map
def Db:=@List.getElem?_of_mem
def Rn:=@List.getElem?_range
def We:=@List.getElem?_set
def Dc:=@List.getElem?_set_ne
def HB:=@List.getElem?_set_self
def dD:=@List.getElem?_take
def II:=@List.getElem?_take_of_lt
def fh:=@List.getElem?_toArray
def tu:=@List.getElem?_zip_eq_some
def Gz:=@List.getElem_mem
def nY:=@List.getElem_take
def AZ:=@n?
def Bh:=@List.length_cons
def C2:=@List.length_drop
def tz:=@List.length_eq_zero_iff
def EH:=@List.length_filter_le
def Ba:=@List.length_map
def Bj:=@List.length_nil
def Hh:=@List.length_replicate
def WT:=@List.length_set
def Yq:=@List.length_singleton
def BQ:=@r?
def fi:=@List.length_take_le
def LR:=@List.map_append
def NS:=@List.map_congr_left
def B4:=@List.map_cons
def nZ:=@List.map_drop
def fj:=@List.map_id
def PJ:=@List.map_map
def Hi:=@List.map_nil
def Q3:=@List.map_toArray
def Ak:=@List.mem_append
def F8:=@List.mem_append_left
def LU:=@List.mem_append_right
def Av:=@List.mem_cons
def Ca:=@List.mem_cons_of_mem
def JV:=@List.mem_cons_self
def BR:=@List.mem_filter
def PK:=@List.mem_filterMap
def G0:=@List.mem_flatMap
def WU:=@List.mem_iff_getElem
def Ed:=@List.mem_iff_getElem?
def Bp:=@List.mem_map
def Tn:=@List.mem_map_of_mem
def BP:=@List.mem_of_getElem?
def Q4:=@List.mem_of_mem_drop
def F9:=@List.mem_of_mem_take
def Q5:=@List.mem_or_eq_of_mem_set
def IJ:=@List.mem_range
def A9:=@a!
def uA:=@List.mem_zipIdx_iff_getElem?
def B7:=@List.nil_append
def Q6:=@List.nodup_append
def G1:=@List.nodup_cons
def Hj:=@List.nodup_iff_pairwise_ne
def Q7:=@List.nodup_nil
def EI:=@List.pairwise_iff_getElem
def Q8:=@List.pairwise_map
def na:=@List.perm_ext_iff_of_nodup
def ng:=@List.replicate_succ
def To:=@List.set_append_right
def Yr:=@List.set_set
def uB:=@List.singleton_append
def fk:=@List.size_toArray
def WV:=@List.sum_cons
def Cl:=@List.take_add_one
def fm:=@List.take_append
def DG:=@List.take_append_drop
def WW:=@List.take_append_of_le_length
def Ys:=@List.take_left
def Fe:=@List.take_left'
def Hk:=@List.take_length
def BN:=@List.take_of_length_le
def fo:=@List.take_sublist
def Kh:=@List.take_take
def fq:=@List.zip_append
def WX:=@Nat.add_assoc
def Yt:=@Nat.add_comm
def EJ:=@Nat.add_mul
def nh:=@Nat.add_sub_cancel
def Tp:=@Nat.add_sub_cancel_left
def NT:=@Nat.add_zero
def Hl:=@Nat.beq_refl
def DH:=@Nat.eq_of_beq_eq_true
def WY:=@Nat.eq_zero_or_pos
def PL:=@Nat.le_of_ble_eq_true
def Al:=@Nat.le_refl
def Cq:=@Nat.le_trans
def DM:=@Nat.lt_of_lt_of_le
def Az:=@Nat.lt_or_ge
def ni:=@Nat.lt_succ_self
def Q9:=@Nat.lt_trichotomy
def RD:=@Nat.min_eq_left
def Tq:=@Nat.mod_eq_of_lt
def Yu:=@Nat.mod_lt
def nj:=@Nat.mul_le_mul
def NU:=@Nat.mul_le_mul_right
def Bq:=@Nat.ne_of_lt
def fu:=@Nat.pow_le_pow_right
def G2:=@Nat.sub_self
def WZ:=@Nat.sub_zero
def DY:=@Nat.zero_add
def BU:=@Nat.zero_le
def Yv:=@Nat.zero_mul
def PM:=@Ne.symm
def Do:=@Option.bind_eq_some_iff
def AD:=@p?
def nk:=@Option.getD_some
def fw:=@Option.isSome_iff_exists
def Tr:=@Option.map_eq_some_iff
def nl:=@Option.map_none
def Bu:=@Option.map_some
def BW:=@Option.some.inj
def Ar:=@Option.some.injEq
def nm:=@Option.toList_some
def DZ:=@Prod.ext
def Ee:=@Prod.mk.injEq
def np:=@Sum.elim_inr
def fx:=@UInt8.toNat_ofNat'
end Go
namespace Go.Ab
inductive Ad where
 |bool (b:Bool)
 |int (k:IntKind) (n:Int)
 |str (s:List UInt8)
 |nilp
 |ptr (id g off:S)
 |vptr (cs:List Ad)
 |nils
 |vs (sz:S) (rows:List Ad)
 |sl (id g sz off len:S)
 |fn (f:Fn) (first caps:List Ad)
 |yf (id:S)
 |mp (id:S)
 |itp (id m:S)
 |nilf
 |agg (cs:List Ad)
 |tup (vs:List Ad)
 |any
 deriving Inhabited
def Ad.cells:Ad->Ψ Ad
 |.agg cs=>cs
 |v=>[v]
structure Cx where
 w:World
 n:S
 io:S->Option S
 gen:S->S
 cap:S->S
 O:S->Prop
inductive Bz(x:Cx):Ad->Value->Prop where
 |bool (b:Bool):Bz x (.bool b) (.bool b)
 |int (k:IntKind) (n:Int):Bz x (.int k n) (.int k n)
 |str {s:List UInt8} (t:ByteArray) (h:t.data.toList=s):Bz x (.str s) (.string t)
 |nilp:Bz x .nilp (.pointer none)
 |ptr {id g off:S}{c:Value} (hid:id<x.n) (hg:g≤x.gen id) (h1:c.oneCell'=true)
   (hc:x.gen id=g->∃B,x.io id=some B/\c=.pointer (some ⟨B,off,none⟩)):Bz x (.ptr id g off) c
 |vptr {cs:List Ad}{B off:S} (f:S→Value) (hO:¬x.O B) (hB:B<x.w.heap.size)
   (hc:∀(j:S)(v:Ad),cs[j]?=some v->x.w.cell? ⟨B,off+j,none⟩=some (f j)/\(f j).oneCell'=true)
   (hv:∀(j:S)(v:Ad),cs[j]?=some v->Bz x v (f j)):Bz x (.vptr cs) (.pointer (some ⟨B,off,none⟩))
 |nils:Bz x .nils (.slice none 0 0)
 |vs {sz:S}{rows:List Ad}{a:Option Addr}{cap:S} (f:S→S→Value) (hcap:rows.length≤cap) (hsz:0<sz)
   (hrow:∀(j:S)(e:Ad),rows[j]?=some e->e.cells.length=sz)
   (ha:rows≠ []->∃B off,a=some ⟨B,off,none⟩/\¬x.O B/\B<x.w.heap.size/\
    ∀(j:S)(e:Ad)(i:S)(v:Ad),rows[j]?=some e->e.cells[i]?=some v->x.w.cell? ⟨B,off+(j*sz+i),none⟩=some (f j i)/\(f j i).oneCell'=true)
   (hv:∀(j:S)(e:Ad)(i:S)(v:Ad),rows[j]?=some e->e.cells[i]?=some v->Bz x v (f j i)):Bz x (.vs sz rows) (.slice a rows.length cap)
 |sl {id g sz off len:S}{c:Value} (hid:id<x.n) (hg:g≤x.gen id) (h1:∃a cap,c=.slice a len cap)
   (hc:x.gen id=g->(x.io id=none/\len=0/\off=0/\c=.slice none 0 0)\/
    ∃B cap,x.io id=some B/\len<=cap/\off+cap*sz<=x.cap id/\c=.slice (some ⟨B,off,none⟩) len cap):Bz x (.sl id g sz off len) c
 |fn {f:Fn}{first caps:List Ad}{first' caps':Array Value} (h1:first'.size=first.length) (h2:caps'.size=caps.length)
   (hv1:∀(j:S)(v:Ad)(c:Value),first[j]?=some v->first'[j]?=some c->Bz x v c) (hv2:∀(j:S)(v:Ad)(c:Value),caps[j]?=some v->caps'[j]?=some c->Bz x v c):
   Bz x (.fn f first caps) (.func f first' caps')
 |yf {id:S}{c:Value} (hid:id<x.n) (h1:c.oneCell'=true) (hc:x.gen id=0->∃B,x.io id=some B/\c=.func (.yield B) #[] #[]):Bz x (.yf id) c
 |mp {id:S}{c:Value} (hid:id<x.n) (h1:c.oneCell'=true) (hc:x.gen id=0->∃B,x.io id=some B/\c=.map (some B)):Bz x (.mp id) c
 |itp {id m:S}{c:Value} (hid:id<x.n) (hm:m<x.n) (h1:c.oneCell'=true) (hc:x.gen id=0->∃B,x.io id=some B/\c=.pointer (some ⟨B,0,none⟩)/\(x.gen m=0->x.io m=some (x.cap id))):Bz x (.itp id m) c
 |nilf:Bz x .nilf .nilFunc
 |agg {cs:List Ad}{cs':Array Value} (h:cs'.size=cs.length) (h1:∀(j:S)(c:Value),cs'[j]?=some c→c.oneCell'=true)
   (hv:∀(j:S)(v:Ad)(c:Value),cs[j]?=some v->cs'[j]?=some c->Bz x v c):Bz x (.agg cs) (.agg cs')
 |tup {vs:List Ad}{vs':Array Value} (h:vs'.size=vs.length)
   (hv:∀(j:S)(v:Ad)(c:Value),vs[j]?=some v->vs'[j]?=some c->Bz x v c):Bz x (.tup vs) (.tuple vs')
 |any (c:Value):Bz x .any c
structure Cx.Later(x y:Cx):Prop where
 size:x.w.heap.size<=y.w.heap.size
 keep:∀B,B<x.w.heap.size->¬x.O B->∀off,y.w.cell? ⟨B,off,none⟩=x.w.cell? ⟨B,off,none⟩
 own:∀B,B<x.w.heap.size->y.O B->x.O B
 n:x.n<=y.n
 gen:∀id,id<x.n->x.gen id<=y.gen id
 same:∀id,id<x.n->y.gen id=x.gen id->y.io id=x.io id/\y.cap id=x.cap id
variable {N n:Nat}{b Z:TypeId}{d:World}{f:Value}{g x:Ψ Ad}{P:Program}{j:Nat→Prop}{k U:Ad}{o:Oper}{p a:Type}{q v:Operand}{r:Cx}{c:Code}{s:Act}{t:Ψ Nat}{u:Ω Nat}{y:Array Value}{z:Array (Nat×Operand)}{A:FuncId}{L:Array Bool}{i:Int}{C:Ω (Ψ Deferred)}{I:IntKind}{J:Array Oper}{O:Bool}{X:Nat->Prop}{T:Exit->Act->World->Prop}{V:TypeInfo}{e:Ψ Value}{l:Ψ UInt8}{F:TypeDesc}{K:Op}
theorem nK{b:World}(h:b.heap[N]?=d.heap[N]?)(a:S):b.cell? ⟨N,a,D⟩=d.cell? ⟨N,a,D⟩:=by grind[World.cell?]
theorem Bz.later{x y:Cx}(h:x.Later y)(r:Bz x k f):Bz y k f:=by
 induction r with
 |bool b=>exact .bool b
 |int c n=>exact .int c n
 |str t J=>exact .str t J
 |nilp=>exact .nilp
 |ptr a w d m=>refine .ptr (DM a h.n) (Cq w (h.gen _ a)) d λe=>?_;have d:=h.gen _ a;have l:=h.same _ a o!;grind
 |vptr v q g m K p=>refine .vptr v (λo=>q (h.own _ g o)) (DM g h.size) (λj k H=>?_) p;rw[h.keep _ g q];grind
 |nils=>exact .nils
 |vs v s C u G K p=>refine .vs v s C u (λA=>?_) p;obtain⟨B,F,e,q,g,m⟩:=G A;refine⟨B,F,e,(λo=>q (h.own _ g o)),DM g h.size,λj e i k H N=>?_⟩;rw[h.keep _ g q];grind
 |sl a w d m=>refine .sl (DM a h.n) (Cq w (h.gen _ a)) d λe=>?_;have d:=h.gen _ a;have l:=h.same _ a o!;grind
 |fn d l _ _ D_ E_=>exact .fn d l D_ E_
 |yf a d m=>refine .yf (DM a h.n) d λe=>?_;have d:=h.gen _ a;have l:=h.same _ a o!;grind
 |mp a d m=>refine .mp (DM a h.n) d λe=>?_;have d:=h.gen _ a;have l:=h.same _ a o!;grind
 |itp a z d m=>refine .itp (DM a h.n) (DM z h.n) d λe=>?_;have d:=h.gen _ a;have l:=h.same _ a o!;obtain⟨B,g,I,O⟩:=m o!;refine⟨B,l.1.trans g,I,λe=>?_⟩;have L:=h.gen _ z;have M:=h.same _ z o!;grind
 |nilf=>exact .nilf
 |agg h d _ p=>exact .agg h d p
 |tup h _ p=>exact .tup h p
 |any f=>exact .any f
abbrev Env:=Ψ (S×Ad)
structure nG where
 n:S
 env:Env
 params:Array Tmp
 assign:Code
 body:Code
 state:LoopState
 pending:Option Code
inductive Ft where
 |dead
 |live (g:S) (cells:List Ad)
 |lp (L:nG)
 |mp (k:IntKind) (es:List (Int×Ad))
 |it (n:S) (seen:List S)
 deriving Inhabited
def Ft.isB:Ft->Bool
 |.mp _ _=>E
 |.it _ _=>E
 |_=>η
abbrev Aw:=Ψ Ft
structure Gh where
 io:S->Option S
 gen:S->S
 cap:S->S
def owned(h:Gh)(H:Aw)(B:S):Prop:=∃id e,H[id]?=Y e/\e≠Ft.dead/\h.io id=Y B
def cx(X:S->Prop)(h:Gh)(H:Aw)(w:World):Cx:=⟨w,W H,h.io,h.gen,h.cap,λB=>X B\/owned h H B⟩
def AB5(x:Cx)(id g:S)(cs:List Ad):Prop:=
 x.gen id=g/\((x.io id=none/\cs=[])\/ ∃(B:S) (arr:Array Value) (T:TypeId) (fz:S×S) (f:S->Value),x.io id=some B/\x.w.heap[B]? =some (.cells arr T fz)/\arr.size=x.cap id/\
  cs.length<=arr.size/\(∀i,i<arr.size->(decide (fz.1<=i)&&decide (i<fz.2))=false)/\
  ∀(j:S) (v:Ad),cs[j]? =some v->arr[j]? =some (f j)/\(f j).oneCell'=true/\Bz x v (f j))
def xc(x:Cx)(id:S)(L:nG):Prop:=
 x.gen id=0/\ ∃(B:S) (r:Loop),x.io id=some B/\x.w.heap[B]? =some (.loop r)/\r.state=L.state/\r.pending=L.pending/\r.params=L.params/\r.assign=L.assign/\r.body=L.body/\r.tmps.size=L.n/\
  ∀t v,(t,v)∈L.env->t<L.n/\Bz x v (r.tmps.getD t undef)
def BAt(h:Gh)(w:World)(id:S):Ft->Prop
 | .mp k es=> ∃(B:S) (arr:Array MapEntry),h.io id=some B∧h.gen id=0∧w.heap[B]? =some (.map arr arr.size)∧arr.size=es.length∧
   ∀(j:S) (p:Int×Ad),es[j]? =some p-> ∃e:MapEntry,arr[j]? =some e/\e.born=j/\e.key= .int k p.1/\ ∀x,Bz x p.2 e.val
 | .it n seen=> ∃B,h.io id=some B/\h.gen id=0/\w.heap[B]? =some (.mapIter (some (h.cap id)) n seen.toArray n)
 |_=>True
structure JT(X:S->Prop)(h:Gh)(H:Aw)(w:World):Prop where
 out:∀B,X B->B<w.heap.size/\¬owned h H B
 live:∀(id g:S)(cs:List Ad),H[id]?=some (Ft.live g cs)->AB5 (cx X h H w) id g cs
 lp:∀(id:S)(L:nG),H[id]?=some (Ft.lp L)->xc (cx X h H w) id L
 inj:∀(id id':S)(e e':Ft)(B:S),H[id]?=some e->H[id']?=some e'->e≠.dead->e'≠.dead->h.io id=some B->h.io id'=some B->id=id'
 bld:∀(id:S)(e:Ft),H[id]?=some e->e.isB=true->BAt h w id e
variable {H:Aw}{m:Env}{h:Gh}{B:Ft}{G:Exit->Env->Aw->Prop}{M:Ad→Aw→Prop}{R:Ad->Aw->Prop}
def JT.bldKeep{i:Gh}{p:Aw}{t:World}(s:JT j h H d)
  (key: ∀(id:S) (e:Ft),p[id]? =some e->e.isB=true->H[id]? =some e/\i.io id=h.io id/\i.gen id=h.gen id/\i.cap id=h.cap id/\ ∀B (o:Obj),h.io id=some B->d.heap[B]? =some o->(∀z,o≠ .deferred z)->t.heap[B]? =d.heap[B]?):
  ∀(id:S) (e:Ft),p[id]? =some e->e.isB=true->BAt i t id e:=by
 intro id e v q;obtain⟨m,g,a,f,r⟩:=key id e v q;have b:=s.bld id e m q;cases e with
 |mp k x=>obtain⟨B,X,c,l,w,u⟩:=b;exact⟨B,X,g.trans c,a.trans l,(r B _ c w (λz=>q!)).trans w,u⟩
 |it n seen=>obtain⟨B,c,l,w⟩:=b;exact⟨B,g.trans c,a.trans l,by rw[f];exact(r B _ c w (λz=>q!)).trans w⟩
 |_=>trivial
def PB(x:Cx)(env:Env)(a:Act):Prop:=∀t v,(t,v)∈env->t<a.tmps.size/\Bz x v (a.tmps.getD t undef)
structure St(X:S->Prop)(h:Gh)(N:S)(env:Env)(H:Aw)(a:Act)(w:World):Prop where
 sim:JT X h H w
 env:PB (cx X h H w) env a
 size:a.tmps.size=N
structure HM(h:Gh)(H:Aw)(w:World)(h':Gh)(H':Aw)(w':World):Prop where
 os:w'.os=w.os
 tape:w'.tape=w.tape
 output:w'.output=w.output
 size:w.heap.size<=w'.heap.size
 keep:∀B,B<w.heap.size->¬owned h H B->w'.heap[B]?=w.heap[B]?
 n:H.length<=H'.length
 gen:∀id,id<H.length->h.gen id<=h'.gen id
 same:∀id,id<H.length->h'.gen id=h.gen id->h'.io id=h.io id/\h'.cap id=h.cap id
 fresh:∀B,owned h' H' B->owned h H B\/w.heap.size<=B
 loops:∀(B:S)(r:Loop),w.heap[B]?=some (.loop r)->∃r':Loop,w'.heap[B]?=some (.loop r')
def HM.refl(h:Gh)(H:Aw)(w:World):HM h H w h H w:=⟨rfl,rfl,rfl,Al _,λ_ _ _=>rfl,Al _,λ_ _=>Al _,λ_ _ _=>⟨rfl,rfl⟩,λ_ h=>.inl h,λ_ r h=>⟨r,h⟩⟩
theorem HM.trans{c j k}{f g i}{l m o}(a:HM c f l j g m)(b:HM j g m k i o):HM c f l k i o where
 os:=b.os.trans a.os
 tape:=b.tape.trans a.tape
 output:=b.output.trans a.output
 size:=Cq a.size b.size
 keep B hB hn:=(b.keep B (DM hB a.size) λd=>by rcases a.fresh B d with h|h;grind;omega).trans (a.keep B hB hn)
 n:=Cq a.n b.n
 gen id hid:=Cq (a.gen id hid) (b.gen id (DM hid a.n))
 same id hid e:=by have q:=a.gen id hid;have s:=b.gen id (DM hid a.n);have u:=a.same id hid o!;have v:=b.same id (DM hid a.n) o!;grind
 fresh B d:=by rcases b.fresh B d with h|h;exact a.fresh B h;exact .inr (Cq a.size h)
 loops B r h:=by obtain⟨p,c⟩:=a.loops B r h;exact b.loops B p c
def HM.later{h c}{H b}{w d}(e:HM h H w c b d)(X:S->Prop):(cx X h H w).Later (cx X c b d)where
 size:=e.size
 keep B hB hO off:=nK (e.keep B hB λa=>hO (.inr a)) off
 own B hB a:=by rcases a with a|a;exact .inl a;rcases e.fresh B a with h|h;exact .inr h;simp only[cx]at hB;omega
 n:=e.n
 gen:=e.gen
 same:=e.same
def PB.later{x y:Cx}(l:x.Later y)(h:PB x m s):PB y m s:=λt v a=>⟨(h t v a).1,(h t v a).2.later l⟩
def Ej(P:Program)(F:FuncId)(args:Ψ Ad)(H:Aw)(Q:Ad->Aw->Prop):Prop:=
 ∀X h w(cargs:Array Value),JT X h H w->cargs.size=W args->
  (∀(j:S)(v:Ad)(c:Value),args[j]?=Y v->cargs[j]?=Y c->Bz (cx X h H w) v c)->
  Calls P F cargs w λe w'=>∃c v h' H',e=.returned c/\Q v H'/\JT X h' H' w'/\Bz (cx X h' H' w') v c/\HM h H w h' H' w'
def FR(r:Ω S):Fence:={Fence.wide with round:=r}
def WS(a:Act)(w:World)(a':Act)(w':World):Prop:=
 ∃ds,a'.defers=ds++a.defers/\ds.Nodup/\∀d∈ds,∃D,d={target:=.collected D,args:= #[]}/\w.heap.size<=D/\w'.heap[D]?=Y (.deferred (Y []))
def aM(r:Ω S)(w:World):Prop:=∀l,r=Y l->∃x:Loop,w.heap[l]?=Y (.loop x)
def WS.same{b:Act}{w c}(h:b.defers=s.defers):WS s w b c:=⟨[],by simp[h],.nil,λ_ h=>by cases h⟩
def JT.deferred(s:JT X h H d)(j:d.heap[N]?=Y (.deferred C)):¬owned h H N:=by
 rintro⟨id,e,l,o,b⟩;cases e with
 |dead=>exact o rfl
 |live g p=>rcases(s.live id g p l).2 with⟨hn,_⟩|⟨B,m,T,t,f,a,i,_⟩;rw[show(cx X h H d).io id=h.io id from rfl,b]at hn;cases hn;rw[show(cx X h H d).io id=h.io id from rfl,b]at a;injection a with e;subst e;rw[show(cx X h H d).w.heap=d.heap from rfl,j]at i;cases i
 |lp L=>obtain⟨_,B,r,a,i,_⟩:=s.lp id L l;rw[show(cx X h H d).io id=h.io id from rfl,b]at a;injection a with e;subst e;rw[show(cx X h H d).w.heap=d.heap from rfl,j]at i;cases i
 |mp k q=>obtain⟨B,m,c,_,w,_⟩:=s.bld id _ l rfl;rw[b]at c;injection c with e;subst e;rw[j]at w;cases w
 |it n seen=>obtain⟨B,c,_,w⟩:=s.bld id _ l rfl;rw[b]at c;injection c with e;subst e;rw[j]at w;cases w
theorem tM{o:Obj}(h:d.heap[N]?=Y o):N<d.heap.size:=k!
def HM.defs{w}{c}{b}(x:HM h H d w c b)(s:JT X h H d)(a:d.heap[N]?=Y (.deferred C)):b.heap[N]?=Y (.deferred C):=(x.keep N (tM a) (s.deferred a)).trans a
theorem WS.trans{X:S->Prop}{h j b}{H f n}{a a1 a2}{w e m}(o:WS a w a1 e)(s:JT X j f e)(z:HM h H w j f e)(x:HM j f e b n m)(p:WS a1 e a2 m):WS a w a2 m:=by obtain⟨g,B,t,v⟩:=o;obtain⟨i,C,u,y⟩:=p;refine⟨i++g,k!,Q6.2 ⟨u,t,λd r A q E_=>?_⟩,λd c=>?_⟩;grind;rcases Ak.1 c with c|c;obtain⟨D_,k,b,l⟩:=y d c;exact⟨D_,k,Cq z.size b,l⟩;obtain⟨D_,k,b,l⟩:=v d c;exact⟨D_,k,b,x.defs s l⟩
def aM.later{h c}{H b}{w a}(k:aM u w)(x:HM h H w c b a):aM u a:=λl e=>by obtain⟨y,d⟩:=k l e;exact x.loops l y d
def J9(P:Program)(N:S)(c:Code)(env:Env)(H:Aw)(Q:Exit->Env->Aw->Prop):Prop:=
 ∀r X h a w,St X h N env H a w->aM r w->
  c.wpIn (FR r) 0 P (λe a' w'=>∃h' env' H',Q e env' H'/\St X h' N env' H' a' w'/\HM h H w h' H' w'/\WS a w a' w') a w
def Ej.mono{P}{F}{H}{d:Ad->Aw->Prop}(h:Ej P F g H R)(i:∀v b,R v b->d v b):Ej P F g H d:=λX Q w a s j hr=>(h X Q w a s j hr).mono λ_ _ ⟨c,v,f,b,e,q,r⟩=>⟨c,v,f,b,e,i _ _ q,r⟩
def J9.mono{P}{N}{H}{f:Exit->Env->Aw->Prop}(h:J9 P N c m H G)(j:∀e b d,G e b d->f e b d):J9 P N c m H f:=λr X g a w s k=>wpIn_mono (h r X g a w s k) λ_ _ _ ⟨i,b,d,q,r⟩=>⟨i,b,d,j _ _ _ q,r⟩
def fb(K:Env->Aw->Prop)(Q:Exit->Env->Aw->Prop):Exit->Env->Aw->Prop
 |.normal,env,H=>K env H
 |e,env,H=>Q e env H
def qS(id:S)(Q:Exit->Env->Aw->Prop):Exit->Env->Aw->Prop
 |.exit id',env,H=>if id'=id then Q .normal env H else Q (.exit id') env H
 |e,env,H=>Q e env H
section rules
variable {P:Program}{N:Nat}{env:Env}{H:Aw}{Q:Exit->Env->Aw->Prop}
def J9.skip(h:Q .normal env H):J9 P N .skip env H Q:=λ_ _ _ _ _ s _=>wpIn_skip ⟨_,_,_,h,s,HM.refl _ _ _,.same rfl⟩
def J9.ret(h:Q .ret env H):J9 P N .ret env H Q:=λ_ _ _ _ _ s _=>wpIn_ret ⟨_,_,_,h,s,HM.refl _ _ _,.same rfl⟩
def J9.exit(h:Q (.exit n) env H):J9 P N (.exit n) env H Q:=λ_ _ _ _ _ s _=>wpIn_exit ⟨_,_,_,h,s,HM.refl _ _ _,.same rfl⟩
def J9.seq{x y}(h:J9 P N x env H (fb (λb d=>J9 P N y b d Q) Q)):J9 P N (.seq x y) env H Q:=by
 intro r X g a w s k;refine wpIn_seq (wpIn_mono (h r X g a w s k) ?_);rintro e n u ⟨j,b,d,q,f,c,i⟩;cases e with
 |normal=>apply wpIn_mono (q r X j n u f (k.later c));rintro e a2 v ⟨p,env2,m,q2,t,l,o⟩;exact⟨p,env2,m,q2,t,c.trans l,i.trans f.sim c l o⟩
 |_=>exact⟨j,b,d,q,f,c,i⟩
theorem J9.block{id}(h:J9 P N c env H (qS id Q)):J9 P N (.block id c) env H Q:=by intro r X g a w s k;refine wpIn_block (wpIn_mono (h r X g a w s k) ?_);rintro e f j ⟨i,b,d,q,r⟩;cases e<;>grind[qS,Exit.inBlock]
def FX(N n0:S)(env:Env)(H:Aw)(env2:Env)(H2:Aw):Prop:=
 n0<=W H2/\∀X h a w,St X h N env H a w->
  ∃h2,St X h2 N env2 H2 a w/\(∀id,id<n0->h2.gen id=h.gen id/\h2.io id=h.io id/\h2.cap id=h.cap id)/\∀B,owned h2 H2 B->owned h H B
def FX.ext{g:Aw}{j i:Gh}{f:Aw}{w:World}(hn:W f=N)(o:N≤W g)
  (k:∀id,id<N->i.gen id=h.gen id/\i.io id=h.io id/\i.cap id=h.cap id) (m:∀B,owned i g B->owned h H B) (x:HM j f d h H w):HM j f d i g w where
 os:=x.os
 tape:=x.tape
 output:=x.output
 size:=x.size
 keep:=x.keep
 n:=o!
 gen id hid:=by rw[(k id o!).1];exact x.gen id hid
 same id hid e:=by obtain⟨a,b,c⟩:=k id o!;rw[a]at e;rw[b,c];exact x.same id hid e
 fresh B hB:=x.fresh B (m B hB)
 loops:=x.loops
theorem FX.refl(N:S)(env:Env)(H:Aw):FX N (W H) env H env H:=⟨Al _,λ_ h _ _ s=>⟨h,s,λ_ _=>⟨rfl,rfl,rfl⟩,λ_ h=>h⟩⟩
def J9.weak{d}(f:FX N (W H) env H m d)(h:J9 P N c m d Q):J9 P N c env H Q:=by intro r X g a w s k;obtain⟨y,t,n,o⟩:=f.2 X g a w s;apply wpIn_mono (h r X y a w t k);rintro e v x ⟨l,b,i,q,p,u,j⟩;exact⟨l,b,i,q,p,(FX.ext rfl f.1 n o (HM.refl g H w)).trans u,j⟩
end rules
def Env.get:Env->S->Ad
 |[],_=>.any
 |(k,v)::r,t=>if k=t then v else Env.get r t
def Env.put(env:Env)(t:S)(v:Ad):Env:=(t,v)::env.filter λp=>decide (p.1≠t)
def Env.putO(env:Env):Ω S->Ad->Env
 |some t,v=>env.put t v
 |none,_=>env
theorem OR{env}{t}:Env.get env t=.any\/(t,Env.get env t)∈env:=by induction env<;>grind[Env.get]
def sC:Value->Ad
 |.bool b=>.bool b
 |.int k n=>.int k n
 |.string s=>.str s.data.toList
 |.pointer D=>.nilp
 |.slice D 0 0=>.nils
 |.nilFunc=>.nilf
 |_=>.any
def ADJ:Value->Ad
 |.agg cs=>if cs.toList.all (·.oneCell')then .agg (cs.toList.map sC)else .any
 |v=>sC v
theorem qb(x:Cx)(v:Value):Bz x (sC v) v:=by unfold sC;split;exact .bool _;exact .int _ _;exact .str _ rfl;exact .nilp;exact .nils;exact .nilf;exact .any _
theorem zY(x:Cx)(v:Value):Bz x (ADJ v) v:=by unfold ADJ;split;rename_i b;split;rename_i h;refine .agg q! (λj c a=>?_) λj v c a d=>?_;grind;grind[qb];exact .any _;exact qb x _
def BS(env:Env):Operand->Ad
 |.tmp t=>env.get t
 |.const v=>ADJ v
 |.global _=>.any
 |.func f=>.fn (.func f) [] []
def Dp(h:PB r m s)(o:Operand):Bz r (BS m o) (s.eval o):=by
 cases o with
 |tmp t=>rcases OR (env:=m) (t:=t)with e|x;simp only[BS,e];exact .any _;exact(h _ _ x).2
 |const v=>exact zY r v
 |global g=>exact .any _
 |func f=>exact .fn rfl rfl (λ_ _ _ h=>by simp at h) (λ_ _ _ h=>by simp at h)
theorem PB.put(h:PB r m s){d:S}{v}(i:d<s.tmps.size)(j:Bz r v f):PB r (m.put d v) (s.put (Y d) f):=by
 intro t u a;simp only[Act.put];rcases Av.1 a with e|a;simp_all;rw[BR]at a;obtain⟨a,b⟩:=a;have b:t≠d:=k!
 obtain⟨x,g⟩:=h t u a;have:(s.tmps.setIfInBounds d f).getD t undef=s.tmps.getD t undef:=by rw[RE,RE,wK (b ·.symm)]
 grind
def PB.putO(h:PB r m s){v}(b:∀t,u=Y t->t<s.tmps.size)(e:Bz r v f):PB r (m.putO u v) (s.put u f):=by
 cases u with
 |none=>exact h
 |some u=>exact h.put (b u rfl) e
def fW(a:Act)(d:Ω S)(c:Value):(a.put d c).tmps.size=a.tmps.size:=by cases d<;>simp[Act.put]
def Jw(P:Program)(N:S)(o:Oper)(env:Env)(H:Aw)(K:Ad->Aw->Prop):Prop:=
 ∀r X h a w,St X h N env H a w->∀Q:Exit->Act->World->Prop,
  Oper.wpIn (FR r) 0 P o a w (λa' w'=>∃c v h' H',a'=a.put o.dst c/\K v H'/\Bz (cx X h' H' w') v c/\JT X h' H' w'/\HM h H w h' H' w') Q
def Jw.mono{P}{N}{H}{d:Ad->Aw->Prop}(h:Jw P N o m H R)(i:∀v b,R v b->d v b):Jw P N o m H d:=λr X g a w s Q=>Oper.wpIn_mono (λ_ _ ⟨c,v,f,b,e,k,r⟩=>⟨c,v,f,b,e,i _ _ k,r⟩) (h r X g a w s Q)
def Op.plain:Op->Bool
 |.defer _=>η
 |_=>E
def C9(n:Op.plain o.op=E)(h:∀X h a w,St X h N m H a w→ ∀Q:Exit→Act→World→Prop,
  Oper.wp P o a w (λp b=>∃c v i e,p=a.put o.dst c/\M v e/\Bz (cx X i e b) v c/\JT X i e b/\HM h H w i e b) Q):Jw P N o m H M:=by
 intro r X g a w s Q;have d:=h X g a w s Q;refine⟨λ_ _=>P!,?_⟩;rw[Oper.semAt_eq _ _ _ (λc j=>by rw[j]at n;cases n)];unfold Oper.wp at d;generalize (execOp a.eval o).run P w=res at d;have j:∀{f}{args}{b}{R},Calls P f args b R->CallsIn (FR r) (0-1) P f args b R:=by
  intro f args b R t;have K:CallsIn Fence.wide (0-1) P f args b R:=callsIn_wide.2 t;cases r with
  |none=>exact K
  |some l=>exact K
 cases res with
 |ok v b=>
  cases v with
  |enter f args=>exact⟨(λh=>by cases h),j d⟩
  |row row args=>refine⟨(λh=>by cases h),λc q _=>?_⟩;obtain⟨v,k,u,y⟩:=d c q;exact⟨v,k,u,stepsIn_wide.2 y⟩
  |round l f tmps assign body=>exact d.elim
  |_=>exact d
 |halt x b=>cases x<;>exact d
def XO(ops:Array Oper)(env:Env)(j:S):Ad:=
 match (ops[j]?).bind (·.dst)with
 |some d=>env.get d
 |none=>.any
def Yn(ops:Array Oper)(g:Ω (S×Bool))(env:Env)(A B:Prop):Prop:=
 match g with
 |none=>A
 |some (j,want)=>
  match XO ops env j with
  |.bool b=>(b=want->A)/\(b=(!want)->B)
  |.tup []=>B
  |_=>False
def PW(n:S)(ops:Ψ Oper):Bool:=ops.all λo=>match o.dst with|some d=>decide (d<n)|none=>E
theorem zm(f:PB r m s){A B:Prop}(h:Yn J o.guard m A B):
  (Region.wanted o (yielded J s.tmps)=E/\A)\/(Region.wanted o (yielded J s.tmps)=η/\B):=by
 unfold Yn at h;unfold Region.wanted;cases u:o.guard with
 |none=>grind
 |some p=>
  obtain⟨j,want⟩:=p;rw[u]at h;simp only at h⊢;cases g:XO J m j with
  |bool b=>
   rw[g]at h;simp only at h;have q:yielded J s.tmps j=Y b:=by
    unfold XO at g;unfold yielded;cases l:(J[j]?).bind (·.dst)with
    |none=>grind
    |some d=>
     rw[l]at g;simp only at g;simp only[AD];rcases OR (env:=m) (t:=d)with e|x;grind;rw[g]at x;obtain⟨n,hr⟩:=f _ _ x;have:s.tmps[d]?=Y (.bool b):=by
      have i:s.tmps.getD d undef=.bool b:=by generalize s.tmps.getD d undef=c at hr;cases hr;rfl
      rw[RE]at i;grind[Array.getElem?_eq_getElem]
     rw[this]
   rw[q];by_cases a:b=want;grind;refine .inr ⟨by simp[a],h.2 ?_⟩;cases b<;>cases want<;>simp_all
  |tup v=>
   cases v with
   |cons _ _=>grind
   |nil=>
    rw[g]at h;simp only at h;refine .inr ⟨?_,h⟩;have q:yielded J s.tmps j=D:=by
     unfold XO at g;unfold yielded;cases l:(J[j]?).bind (·.dst)with
     |none=>rfl
     |some d=>
      rw[l]at g;simp only at g;simp only[AD];rcases OR (env:=m) (t:=d)with e|x;grind;rw[g]at x;obtain⟨n,hr⟩:=f _ _ x;have i:∃k,s.tmps.getD d undef=.tuple k:=by generalize s.tmps.getD d undef=c at hr;cases hr;exact⟨_,rfl⟩
      obtain⟨k,i⟩:=i;have:s.tmps[d]?=Y (.tuple k):=t!
      rw[this]
    rw[q];rfl
  |_=>grind
section
variable {P:Program}{N:Nat}{env:Env}{H:Aw}{Q:Exit->Env->Aw->Prop}
def J9.cond{y}{b:Bool}(d:BS env q=.bool b)(h:b=E->J9 P N c env H Q)(f:b=η->J9 P N y env H Q):J9 P N (.cond q c y) env H Q:=by
 intro r X g a w s k;have hr:=Dp s.env q;rw[d]at hr;have e:a.eval q=.bool b:=by generalize a.eval q=v at hr;cases hr;rfl
 apply wpIn_cond e;cases b;exact f rfl r X g a w s k;exact h rfl r X g a w s k
end
mutual
def Ad.idsAll(p:S->Bool):Ad->Bool
 |.ptr id _ _=>p id
 |.sl id _ _ _ _=>p id
 |.yf id=>p id
 |.mp id=>p id
 |.itp id m=>p id&&p m
 |.vptr cs=>Ad.idsAllL p cs
 |.vs _ rows=>Ad.idsAllL p rows
 |.fn _ a b=>Ad.idsAllL p a&&Ad.idsAllL p b
 |.agg cs=>Ad.idsAllL p cs
 |.tup cs=>Ad.idsAllL p cs
 |.bool _|.int _ _|.str _|.nilp|.nils|.nilf|.any=>E
def Ad.idsAllL(p:S->Bool):Ψ Ad->Bool
 |[]=>E
 |v::r=>Ad.idsAll p v&&Ad.idsAllL p r
end
mutual
def Ad.ren(ρ:S->S):Ad->Ad
 |.ptr id g off=>.ptr (ρ id) g off
 |.sl id g sz off len=>.sl (ρ id) g sz off len
 |.yf id=>.yf (ρ id)
 |.mp id=>.mp (ρ id)
 |.itp id m=>.itp (ρ id) (ρ m)
 |.vptr cs=>.vptr (Ad.renL ρ cs)
 |.vs sz rows=>.vs sz (Ad.renL ρ rows)
 |.fn f a b=>.fn f (Ad.renL ρ a) (Ad.renL ρ b)
 |.agg cs=>.agg (Ad.renL ρ cs)
 |.tup cs=>.tup (Ad.renL ρ cs)
 |.bool b=>.bool b
 |.int k n=>.int k n
 |.str s=>.str s
 |.nilp=>.nilp
 |.nils=>.nils
 |.nilf=>.nilf
 |.any=>.any
def Ad.renL(ρ:S->S):Ψ Ad->Ψ Ad
 |[]=>[]
 |v::r=>Ad.ren ρ v::Ad.renL ρ r
end
theorem O1(a:S->S)(l:Ψ Ad):Ad.renL a l=l.map (Ad.ren a):=by induction l<;>grind[Ad.renL]
theorem Dv(p:S->Bool)(l:Ψ Ad):Ad.idsAllL p l=E↔∀v∈l,v.idsAll p=E:=by induction l<;>grind[Ad.idsAllL]
theorem NR{p:S->Bool}(h:Ad.idsAllL p g=E)(a:g[N]?=Y k):k.idsAll p=E:=by grind[Dv]
theorem xO(a:S->S)(v:Ad):(v.ren a).cells=v.cells.map (Ad.ren a):=by cases v<;>simp[Ad.ren,Ad.cells,O1]
def Vj{p:S->Bool}(h:k.idsAll p=E):∀u∈k.cells,u.idsAll p=E:=by
 cases k<;>simp only[Ad.cells,A9]<;>first
  |(intro u a;subst a;exact h)
  |(simp only[Ad.idsAll]at h;exact(Dv _ _).1 h)
theorem Bz.ren{x y:Cx}{p:Nat→Bool}{ρ:Nat→Nat}(F:∀id,p id=E→id<x.n→ρ id<y.n∧y.gen (ρ id)=x.gen id∧y.io (ρ id)=x.io id∧y.cap (ρ id)=x.cap id)
  (Y_:y.w=x.w) (hO:∀B,y.O B->x.O B) {v:Ad}  (r:Bz x v f):v.idsAll p=E->Bz y (v.ren ρ) f:=by
 induction r with
 |bool b=>exact λ_=>.bool b
 |int k n=>exact λ_=>.int k n
 |str t L=>exact λ_=>.str t L
 |nilp=>exact λ_=>.nilp
 | @ptr id g H f A T E_ z=>intro q;obtain⟨a,b,d,e⟩:=F id q A;refine .ptr a (by rw[b];exact T) E_ λC=>?_;rw[b]at C;rw[d];exact z C
 | @vptr cs B H c K S z X M=>intro q;simp only[Ad.idsAll]at q;simp only[Ad.ren,O1];refine .vptr c (λo=>K (hO B o)) (by rw[Y_];exact S) (λj v l=>?_) λj v l=>?_;grind;grind[Option.some.injEq,NR]
 |nils=>exact λ_=>.nils
 | @vs sz D_ a cap c P W al ha X M=>
  intro q;simp only[Ad.idsAll]at q;simp only[Ad.ren,O1];have I:∀{j:Nat}{e:Ad},(D_.map (Ad.ren ρ))[j]?=Y e->∃u,D_[j]?=Y u/\e=u.ren ρ:=by grind[Option.some.injEq]
  have G:∀{u:Ad}{i:Nat}{v:Ad},(u.ren ρ).cells[i]?=Y v->∃t,u.cells[i]?=Y t/\v=t.ren ρ:=by grind[xO,Option.some.injEq]
  have J:(D_.map (Ad.ren ρ)).length=θ D_:=q!
  rw[<-J];refine .vs c (by rw[J];exact P) W (λj e l=>?_) (λV=>?_) λj e i v l U=>?_;grind[xO,List.length_map];obtain⟨B,H,e,K,S,z⟩:=ha (by simpa using V);refine⟨B,H,e,λo=>K (hO B o),by rw[Y_];exact S,λj e i v l U=>?_⟩;obtain⟨u,s,rfl⟩:=I l;obtain⟨t,L,rfl⟩:=G U;rw[Y_];exact z j u i t s L;obtain⟨u,s,rfl⟩:=I l;obtain⟨t,L,rfl⟩:=G U;exact M j u i t s L (Vj (NR q s) _ (BP L))
 | @sl id g sz H len f A T E_ z=>intro q;obtain⟨a,b,d,e⟩:=F id q A;refine .sl a (by rw[b];exact T) E_ λC=>?_;rw[b]at C;rw[d,e];exact z C
 | @fn c first N Q R E_ h2 ap ar Z ad=>
  intro q;simp only[Ad.idsAll,BZ]at q;simp only[Ad.ren,O1];refine .fn (by simpa using E_) (by simpa using h2) (λj v f l z=>?_) λj v f l z=>?_;rw[CT]at l;cases s:first[j]? with
  |none=>rw[s]at l;cases l
  |some u=>rw[s]at l;simp only[Bu,Ar]at l;subst l;exact Z j u f s z (NR q.1 s)
  rw[CT]at l;cases s:N[j]? with
  |none=>rw[s]at l;cases l
  |some u=>rw[s]at l;simp only[Bu,Ar]at l;subst l;exact ad j u f s z (NR q.2 s)
 | @yf id f A E_ z=>intro q;obtain⟨a,b,d,e⟩:=F id q A;refine .yf a E_ λC=>?_;rw[b]at C;rw[d];exact z C
 | @mp id f A E_ z=>intro q;obtain⟨a,b,d,e⟩:=F id q A;refine .mp a E_ λC=>?_;rw[b]at C;rw[d];exact z C
 | @itp id m f A hm E_ z=>intro q;simp only[Ad.idsAll,BZ]at q;obtain⟨a,b,d,e⟩:=F id q.1 A;obtain⟨a2,b2,d2,e2⟩:=F m q.2 hm;refine .itp a a2 E_ λC=>?_;rw[b]at C;rw[d,b2,d2,e];exact z C
 |nilf=>exact λ_=>.nilf
 | @agg cs ao h E_ X M=>
  intro q;simp only[Ad.idsAll]at q;simp only[Ad.ren,O1];refine .agg (by simpa using h) E_ λj v f l z=>?_;rw[CT]at l;cases s:cs[j]? with
  |none=>rw[s]at l;cases l
  |some u=>rw[s]at l;simp only[Bu,Ar]at l;subst l;exact M j u f s z (NR q s)
 | @tup vs ax h X M=>
  intro q;simp only[Ad.idsAll]at q;simp only[Ad.ren,O1];refine .tup (by simpa using h) λj v f l z=>?_;rw[CT]at l;cases s:vs[j]? with
  |none=>rw[s]at l;cases l
  |some u=>rw[s]at l;simp only[Bu,Ar]at l;subst l;exact M j u f s z (NR q s)
 |any f=>exact λ_=>.any f
mutual
theorem ABm{p:S->Bool}{d:S->S}(c:∀id,p id=E->d id=id):∀v:Ad,v.idsAll p=E->v.ren d=v
 |.ptr id g off,h=>by simp only[Ad.ren,c id h]
 |.sl id g sz off len,h=>by simp only[Ad.ren,c id h]
 |.yf id,h=>by simp only[Ad.ren,c id h]
 |.mp id,h=>by simp only[Ad.ren,c id h]
 |.itp id m,h=>by simp only[Ad.idsAll,BZ]at h;simp only[Ad.ren,c id h.1,c m h.2]
 |.vptr cs,h=>by simp only[Ad.ren,YW c cs h]
 |.vs sz rows,h=>by simp only[Ad.ren,YW c rows h]
 |.fn f a b,h=>by simp only[Ad.idsAll,BZ]at h;simp only[Ad.ren,YW c a h.1,YW c b h.2]
 |.agg cs,h=>by simp only[Ad.ren,YW c cs h]
 |.tup cs,h=>by simp only[Ad.ren,YW c cs h]
 |.bool _,_=>rfl
 |.int _ _,_=>rfl
 |.str _,_=>rfl
 |.nilp,_=>rfl
 |.nils,_=>rfl
 |.nilf,_=>rfl
 |.any,_=>rfl
theorem YW{p:S->Bool}{b:S->S}(a:∀id,p id=E->b id=id):∀l:Ψ Ad,Ad.idsAllL p l=E->Ad.renL b l=l
 |[],_=>rfl
 |v::r,h=>by simp only[Ad.idsAllL,BZ]at h;simp only[Ad.renL,ABm a v h.1,YW a r h.2]
end
def tI(P:Program)(t:TypeId):Ω (Bool×S):=
 match P.info? t,P.underlying t with
 |some i,Y d=>Y ((match d with|.struct _|.array _ _=>E|_=>η),i.size)
 |_,_=>D
def Yj(h:tI P b=Y (O,n))(w:World):(isAgg b).run P w=.ok O w:=by unfold tI at h;split at h;rename_i i d c a;unfold isAgg;simp only[Sem.run_bind,run_underlying a,Result.andThen_ok];split<;>simp_all;cases h
def Lr{P}(h:tI P b=Y (O,n))(w:World):(sizeOf b).run P w=.ok n w:=by unfold tI at h;split at h;rename_i i d a c;simp at h;simp[sizeOf,typeInfo,a,h.2];cases h
def Qb(H:Aw):Ad->S->Ω (Ψ Ad)
 |.ptr id g off,n=>
  match H[id]? with
  |some (.live g' cs)=>if g=g'/\off+n<=W cs then Y ((cs.drop off).take n)else D
  |_=>D
 |.vptr cs,n=>if n<=W cs then Y (cs.take n)else D
 |_,_=>D
def nW(x:Cx)(vs:Ψ Ad)(cs:Ψ Value):Prop:=W cs=W vs/\∀(j:S)(v:Ad)(c:Value),vs[j]?=Y v->cs[j]?=Y c->Bz x v c
theorem PH(B a j:S):(⟨B,a,D⟩:Addr).add j=⟨B,a+j,D⟩:=by grind[Addr.add]
theorem QK{w:World}{c:S×S}(h:w.heap[N]?=Y (.cells y b c))(B:S):w.cell? ⟨N,B,D⟩=y[B]? :=by grind[World.cell?]
theorem vQ(s:JT j h H d)(r:Bz (cx j h H d) k f)(hr:Qb H k n=Y g):
  ∃(B a:Nat)(X:Ψ Value),f=.pointer (Y ⟨B,a,D⟩)/\θ X=n/\(∀c u,X[c]?=Y u->d.cell? ((⟨B,a,D⟩:Addr).add c)=Y u/\u.oneCell'=E)/\nW (cx j h H d) g X:=by
 cases r with
 | @ptr id v a f O Z V x=>
  simp only[Qb]at hr;split at hr;rename_i U X L;split at hr;rename_i m;obtain⟨rfl,F⟩:=m;simp only[Ar]at hr;subst hr;obtain⟨t,q⟩:=s.live id v X L;obtain⟨B,o,rfl⟩:=x t;rcases q with⟨hn,_⟩|⟨D_,I,T,S,G,l,K,E_,A,M,i⟩;rw[hn]at o;cases o;have:D_=B:=by rw[show(cx j h H d).io id=Y B from o]at l;injection l with e;exact e.symm
  subst this;refine⟨D_,a,(List.range n).map (λc=>G (a+c)),rfl,q!,?_,?_,?_⟩;intro c u p;have b:c<n:=by grind[Nat.lt_or_ge,u?]
  have Q:u=G (a+c):=by grind[List.getElem?_range]
  subst Q;have y:X[a+c]?=Y (X[a+c]' o!):=Au o!;obtain⟨J,P,_⟩:=i _ _ y;rw[PH,QK (w:=d) K];exact⟨J,P⟩;grind[List.length_map,List.length_range,r?,List.length_drop];grind[Nat.lt_or_ge,u?,List.getElem?_range,Option.some.injEq];cases hr;cases hr
 | @vptr X B a G Y_ W x R=>
  simp only[Qb]at hr;split at hr;rename_i A;simp only[Ar]at hr;subst hr;refine⟨B,a,(List.range n).map G,rfl,q!,?_,?_,?_⟩;intro c u p;have b:c<n:=by grind[Nat.lt_or_ge,u?]
  rw[CT,Rn b]at p;simp only[Bu,Ar]at p;subst p;rw[PH];exact x c _ (Au o!);grind[List.length_map,List.length_range,r?];intro c u w p z;have b:c<n:=by rcases Az c n with C|N;exact C;simp_all[Ct]
  rw[dD,C! b]at p;rw[CT,Rn b]at z;simp only[Bu,Ar]at z;subst z;exact R c u p;cases hr
 |_=>simp only[Qb]at hr;cases hr
def jU(P:Program)(t:TypeId)(H:Aw)(v:Ad):Ω Ad:=
 match tI P t with
 |some (E,n)=>(Qb H v n).map Ad.agg
 |some (η,_)=>(Qb H v 1).bind List.head?
 |none=>D
theorem zz(s:JT j h H d)(r:Bz (cx j h H d) k f)(e:jU P b H k=Y U):
  ∃B w l,f=.pointer (Y ⟨B,w,D⟩)/\(loadVar b ⟨B,w,D⟩).run P d=.ok l d/\Bz (cx j h H d) U l:=by
 unfold jU at e;split at e;rename_i n g;cases hr:Qb H k n with
 |none=>grind
 |some o=>rw[hr]at e;simp at e;subst e;obtain⟨B,w,u,rfl,X,t,a⟩:=vQ s r hr;refine⟨B,w,.agg u.toArray,rfl,?_,?_⟩;unfold loadVar;simp only[Sem.run_bind,Yj g,Result.andThen_ok,if_true,Lr g];subst X;rw[run_loadCells_list d ⟨B,w,D⟩ u λv k i=>(t v k i).1];rfl;refine .agg (by simpa using a.1) (λv f i=>?_) λv k f i p=>?_;grind;exact a.2 v k f i k!
 rename_i n g;cases hr:Qb H k 1 with
 |none=>grind
 |some o=>
  rw[hr]at e;simp at e;obtain⟨B,w,u,rfl,X,t,a⟩:=vQ s r hr;match u,X with
  |[c0],_=>
   match o,a.1 with
   |[u0],_=>simp at e;subst e;refine⟨B,w,c0,rfl,?_,a.2 0 _ _ rfl rfl⟩;unfold loadVar;have m:=(t 0 c0 rfl).1;simp only[Addr.add,if_true]at m;simp[Yj g,m]
 cases e
def oR(P:Program)(env:Env)(H:Aw):ResultVar->Ω Ad
 |.tmp t=>Y (env.get t)
 |.cell a t=>jU P t H (env.get a)
def Ti(P:Program)(env:Env)(H:Aw):Ψ ResultVar->Ω (Ψ Ad)
 |[]=>Y []
 |r::rs=>
  match oR P env H r,Ti P env H rs with
  |some v,Y vs=>Y (v::vs)
  |_,_=>D
def jV(P:Program)(fn:Func)(env:Env)(H:Aw):Ω Ad:=
 match Ti P env H fn.results.toList with
 |some [v]=>Y v
 |some vs=>Y (.tup vs)
 |none=>D
def k9(h:PB r m s)(t:S):Bz r (m.get t) (s.tmps.getD t undef):=Dp h (.tmp t)
def vS(tmps:Array Value):ResultVar->Sem Value
 |.tmp t=>pure (tmps.getD t undef)
 |.cell a t=>do loadVar t (<-asAddr (tmps.getD a undef))
def ABo(b:Func)(tmps:Array Value):results b tmps=(do
  let a<-b.results.mapM (vS tmps);pure (if h:a.size=1 then a[0]else .tuple a)):=rfl
theorem sY{P}{N}{X:S→Prop}{h}{env}{H}{a}{w}(s:St X h N env H a w):∀g(i:Ψ Ad),Ti P env H g=Y i→
  ∃f,Sem.run P (g.mapM (vS a.tmps)) w=.ok f w/\nW (cx X h H w) i f
 |[],i,hv=>by simp only[Ti,Ar]at hv;subst hv;exact⟨[],rfl,rfl,λ_ _ _ h=>by cases h⟩
 |r::g,i,hv=>by
  simp only[Ti]at hv;split at hv;rename_i v l k n;simp at hv;subst hv;obtain⟨f,o,b⟩:=sY s g l n;have e:∃c,Sem.run P (vS a.tmps r) w=.ok c w/\Bz (cx X h H w) v c:=by
   cases r with
   |tmp t=>simp only[oR,Ar]at k;subst k;exact⟨_,rfl,k9 s.env t⟩
   |cell x t=>obtain⟨B,y,m,p,q,hr⟩:=zz s.sim (k9 s.env x) k;refine⟨m,?_,hr⟩;simp only[vS,p];simp[asAddr,q]
  obtain⟨c,z,hr⟩:=e;refine⟨c::f,?_,by simpa using b.1,?_⟩;simp_all;intro j u d C A;cases j with
  |zero=>grind
  |succ j=>exact b.2 j u d k! k!
  cases hv
theorem ADm{g}(X:St j h N m H s d)(w:jV P g m H=Y k):
  ∃c,(results g s.tmps).run P d=.ok c d/\Bz (cx j h H d) k c:=by
 unfold jV at w;cases e:Ti P m H g.results.toList with
 |none=>grind
 |some l=>
  rw[e]at w;obtain⟨f,p,b⟩:=sY X _ l e;have n:Sem.run P (g.results.mapM (vS s.tmps)) d=.ok f.toArray d:=by grind[Array.mapM_eq_mapM_toList,Sem.run_map,Result.andThen_ok]
  rw[ABo];simp only[Sem.run_bind,n];simp only[Result.andThen_ok,Sem.run_pure,Result.ok.injEq,and_true,exists_eq_left'];match l,b with
  |[],b=>simp at w;subst w;have:f=[]:=Eh (by simpa using b.1);subst this;exact .tup rfl λv k c i _=>by cases i
  |[v0],b=>
   simp at w;subst w;match f,b.1 with
   |[c0],_=>exact b.2 0 _ _ rfl rfl
  |v0::v1::r,b=>
   simp at w;subst w;have a:f.toArray.size≠1:=by rw[fk,b.1];simp
   rw[dif_neg a];exact .tup (by simpa using b.1) λv k c i o=>b.2 v k c i k!
def PC(n0:S)(v:Ad)(H:Aw)(v2:Ad)(H2:Aw):Prop:=
 n0<=W H2/\∀X h w c,JT X h H w->Bz (cx X h H w) v c->
  ∃h2,JT X h2 H2 w/\Bz (cx X h2 H2 w) v2 c/\(∀id,id<n0->h2.gen id=h.gen id/\h2.io id=h.io id/\h2.cap id=h.cap id)/\∀B,owned h2 H2 B->owned h H B
def PC.refl(v:Ad)(H:Aw)(hn:N<=W H):PC N v H v H:=⟨hn,λ_ h _ _ s r=>⟨h,s,r,λ_ _=>⟨rfl,rfl,rfl⟩,λ_ h=>h⟩⟩
def AKf(P:Program)(fn:Func)(n0:S)(Q:Ad->Aw->Prop):Exit->Env->Aw->Prop
 |.normal,env,H|.ret,env,H=>∃v v2 H2,jV P fn env H=Y v/\PC n0 v H v2 H2/\Q v2 H2
 |_,_,_=>False
def env0:S->Ψ Ad->Env
 |_,[]=>[]
 |i,v::r=>(i,v)::env0 (i+1) r
theorem zf{t:S}{v:Ad}:∀{i}{l},(t,v)∈env0 i l->i<=t/\l[t-i]?=Y v
 |i,u::r,h=>by simp only[env0,Av]at h;rcases h with⟨rfl,rfl⟩|h;simp;obtain⟨a,b⟩:=zf h;grind
theorem nA{y:Ω (Ψ Deferred)}(b:d.heap[N]?=Y (.deferred C))(B a:S):(d.putObj N (.deferred y)).cell? ⟨B,a,D⟩=d.cell? ⟨B,a,D⟩:=by grind[World.cell?,World.putObj_heap_same,World.putObj_heap_other]
def JT.shut(s:JT j h H d){x y:Ω (Ψ Deferred)}(J:d.heap[N]?=Y (.deferred x)):
  (cx j h H d).Later (cx j h H (d.putObj N (.deferred y)))/\JT j h H (d.putObj N (.deferred y)):=by
 have C:(cx j h H d).Later (cx j h H (d.putObj N (.deferred y))):=⟨by simp[cx],λB _ _ G=>nA J B G,λ_ _ h=>h,Al _,λ_ _=>Al _,λ_ _ _=>⟨rfl,rfl⟩⟩
 have w:∀{B:Nat}{o:Obj},d.heap[B]?=Y o->(∀z,o≠.deferred z)->(d.putObj N (.deferred y)).heap[B]?=Y o:=by intro B o a F;by_cases i:B=N;subst i;rw[J]at a;injection a with e;exact(F x e.symm).elim;rw[World.putObj_heap_other i,a]
 refine⟨C,λB a=>⟨by simpa using(s.out B a).1,(s.out B a).2⟩,λid g K l=>?_,λid L l=>?_,s.inj,s.bldKeep λid e l _=>⟨l,rfl,rfl,rfl,λB o _ a F=>(w a F).trans a.symm⟩⟩;obtain⟨A,n⟩:=s.live id g K l;refine⟨A,?_⟩;rcases n with⟨hn,rfl⟩|⟨B,p,T,M,f,c,q,k,E_,u,b⟩;exact .inl ⟨hn,rfl⟩;refine .inr ⟨B,p,T,M,f,c,w q (λz=>q!),k,E_,u,λD_ v U=>?_⟩;obtain⟨V,W,Y_⟩:=b D_ v U;exact⟨V,W,Y_.later C⟩;obtain⟨A,B,r,c,q,X,O,P,Q,R,S,I⟩:=s.lp id L l;exact⟨A,B,r,c,w q (λz=>q!),X,O,P,Q,R,S,λt v m=>⟨(I t v m).1,(I t v m).2.later C⟩⟩
theorem HM.shut{a}{c}{b}(x:HM h H d a c b){y z:Ω (Ψ Deferred)}(w:d.heap.size<=N)(e:b.heap[N]?=Y (.deferred z)):HM h H d a c (b.putObj N (.deferred y))where
 os:=x.os
 tape:=x.tape
 output:=x.output
 size:=by simpa using x.size
 keep B hB hn:=by rw[World.putObj_heap_other o!];exact x.keep B hB hn
 n:=x.n
 gen:=x.gen
 same:=x.same
 fresh:=x.fresh
 loops B r hB:=by obtain⟨f,a⟩:=x.loops B r hB;grind[World.putObj_heap_other]
def pe{P}{A}{N}{X:S→Prop}{g h}{H b p:Aw}{z:World}{v t:Ad}{f}{a}{Q:Ad→Aw→Prop}(o:jV P A f b=Y v)(j:PC (W H) v b t p)(B:Q t p):
  ∀(i:Ψ Deferred)(w:World),i.Nodup->(∀d∈i,∃D_,d={target:=.collected D_,args:= #[]}/\z.heap.size<=D_/\w.heap[D_]?=Y (.deferred (Y [])))->
   St X h N f b a w->HM g H z h b w->
   LeavesInM Fence.wide 0 P A a.tmps (λe u=>∃c v h b,e=.returned c/\Q v b/\JT X h b u/\Bz (cx X h b u) v c/\HM g H z h b u) i .returning w
 |[],w,_,_,s,x=>by obtain⟨c,m,l⟩:=ADm s o;obtain⟨J,n,r,I,K⟩:=j.2 X h w c s.sim l;exact⟨c,m,c,t,J,p,rfl,B,n,r,FX.ext rfl j.1 I K x⟩
 |d::i,w,hnd,hds,s,x=>by obtain⟨D_,rfl,G,q⟩:=hds d q!;simp only[G1]at hnd;refine⟨q!,.inl ⟨D_,_,rfl,run_takeDeferred q,?_⟩⟩;have C:=s.sim.shut (y:=D) q;refine pe o j B i _ hnd.2 (λF k=>?_) ⟨C.2,s.env.later C.1,s.size⟩ (x.shut G q);obtain⟨E_,rfl,o,j⟩:=hds F (Ca _ k);refine⟨E_,rfl,o,?_⟩;rw[World.putObj_heap_other,j];rintro rfl;exact hnd.1 k
theorem Km{b:Func}(E_:P.funcs[A]?=Y b)(C:b.body=Y c)(hn:W g≤b.ntmps)
  (I:J9 P b.ntmps c (env0 0 g) H (AKf P b (W H) M)):Ej P A g H M:=by
 intro X O w a s Q hr;have D_:PB (cx X O H w) (env0 0 g) {tmps:=a++Array.replicate (b.ntmps-a.size) undef,defers:=[]}:=by
  intro t v m;obtain⟨_,N⟩:=zf m;have G:t<W g:=k!
  have L:a[t]?=Y (a[t]' o!):=ON o!;have:(a++Array.replicate (b.ntmps-a.size) undef).getD t undef=a[t]' o!:=by simp_all[Yw]
  grind
 refine(callsIn_wide (n:=0)).1 (callsIn_of_wp_marks E_ C trivial (wpIn_mono (I D X O {tmps:=a++Array.replicate (b.ntmps-a.size) undef,defers:=[]} w ⟨s,D_,w!⟩ (λl e=>by cases e)) ?_));rintro e z i ⟨u,j,d,q,J,K,F,B,y,x⟩;have k:∀v h f,jV P b j d=Y v->PC (W H) v d h f->M h f->LeavesInM Fence.wide 0 P b z.tmps (λe i=>∃c v u d,e=.returned c/\M v d/\JT X u d i/\Bz (cx X u d i) v c/\HM O H w u d i) z.defers .returning i:=by intro v h f o p r;rw[B,DT];exact pe o p r F i y x J K
 cases e with
 |normal=>obtain⟨v,h,f,o,p,r⟩:=q;exact k v h f o p r
 |ret=>obtain⟨v,h,f,o,p,r⟩:=q;exact k v h f o p r
 |_=>exact q.elim
def Enters(P:Program)(F:FuncId):Bool:=
 match P.funcs[F]? with
 |some fn=>fn.body.isSome&& !(fn.name== "runtime.NumGoroutine")
 |none=>false
def jH(h:Enters P A=E)(args:Array Value)(w:World):(callFunc A args).run P w=.ok (.enter A args) w:=by unfold Enters at h;split at h;rename_i a c;unfold callFunc;cases b:a.body<;>simp_all;cases h
def Ft.ren(ρ:S->S):Ft->Ft
 |.dead=>.dead
 |.live g cs=>.live g (Ad.renL ρ cs)
 |.lp L=>.lp {L with env:=L.env.map λp=>(p.1,p.2.ren ρ)}
 |.mp k es=>.mp k es
 |.it n s=>.it n s
def Ft.idsAll(p:S->Bool):Ft->Bool
 |.dead=>E
 |.live _ cs=>Ad.idsAllL p cs
 |.lp L=>L.env.all λq=>q.2.idsAll p
 |.mp _ _=>E
 |.it _ _=>E
def aK(H:Aw)(bs:Ψ S):Aw:=bs.map λb=>(H.getD b .dead).ren (bs.idxOf ·)
def Tt(H:Aw)(bs:Ψ S)(j:S):S:=if j<W bs then bs.getD j 0 else W H+(j-W bs)
def ck(ρ:S->S):Aw->Ψ S->Aw->Aw
 |H,b::bs,e::es=>ck ρ (H.set b (e.ren ρ)) bs es
 |H,_,_=>H
def Vl(H:Aw)(bs:Ψ S)(Hc:Aw):Aw:=ck (Tt H bs) H bs Hc++(Hc.drop (W bs)).map (Ft.ren (Tt H bs))
def TZ(c:S->S):∀bs H a,(ck c H bs a).length=W H
 |[],H,a=>by cases a<;>rfl
 |b::bs,H,[]=>rfl
 |b::bs,H,e::es=>by simp only[ck];rw[TZ c bs];simp
def jI(c:S->S){id:S}:∀(bs:Ψ S)H a,id∉bs->(ck c H bs a)[id]?=H[id]?
 |[],H,a,_=>by cases a<;>rfl
 |b::bs,H,[],_=>rfl
 |b::bs,H,e::es,h=>by simp only[Av,not_or]at h;simp only[ck];rw[jI c bs _ _ h.2,Dc (h.1 ·.symm)]
def xR(a:S->S):∀(bs:Ψ S)(H c:Aw)(j b:S),bs.Nodup->bs[j]?=Y b->b<W H->W bs<=W c->(ck a H bs c)[b]?=(c[j]?).map (Ft.ren a)
 |[],_,_,_,_,_,hj,_,_=>by simp at hj
 |b0::bs,H,[],_,_,_,_,_,hl=>by simp at hl
 |b0::bs,H,e::es,j,b,hnd,hj,hb,hl=>by
  simp only[G1]at hnd;simp only[ck];cases j with
  |zero=>simp at hj;subst hj;rw[jI a bs _ _ hnd.1];simp[hb]
  |succ j=>simp at hj;rw[xR a bs _ es j b hnd.2 hj (by simpa using hb) (by simpa using hl)];simp
def pY(h:N∈t):t.idxOf N<W t:=List.idxOf_lt_length_of_mem h
theorem iv(h:N∈t):t[t.idxOf N]?=Y N:=k!
theorem qw(a:t.Nodup)(h:t[N]?=Y n):t.idxOf n=N:=k!
section
variable {X:Nat->Prop}{h:Gh}{H:Aw}{w:World}{bs:Ψ Nat}
mutual
theorem sL:∀v:Ad,v.idsAll (λ_=>E)=E
 |.itp _ _=>rfl
 |.ptr _ _ _=>rfl
 |.sl _ _ _ _ _=>rfl
 |.yf _=>rfl
 |.mp _=>rfl
 |.vptr c=>Pw c
 |.vs _ d=>Pw d
 |.fn _ a b=>by simp only[Ad.idsAll,Pw a,Pw b,YZ]
 |.agg c=>Pw c
 |.tup c=>Pw c
 |.bool _|.int _ _|.str _|.nilp|.nils|.nilf|.any=>rfl
theorem Pw:∀l:Ψ Ad,Ad.idsAllL (λ_=>E) l=E
 |[]=>rfl
 |v::r=>by simp only[Ad.idsAllL,sL v,Pw r,YZ]
end
def Xs(X:S->Prop)(h:Gh)(H:Aw)(bs:Ψ S)(B:S):Prop:=X B\/∃id e,id∉bs/\H[id]?=Y e/\e≠Ft.dead/\h.io id=Y B
def XZ(h:Gh)(bs:Ψ S):Gh:=⟨λj=>(bs[j]?).bind h.io,λj=>((bs[j]?).map h.gen).getD 0,λj=>((bs[j]?).map h.cap).getD 0⟩
def AAV{a:S->S}:B.ren a=.dead↔B=.dead:=by cases B<;>simp[Ft.ren]
theorem mh(d:(aK H bs)[N]?=Y B)(c:B≠.dead):∃b a,bs[N]?=Y b/\H[b]?=Y a/\a≠.dead/\B=a.ren (bs.idxOf ·):=by grind[aK,Ft.ren]
theorem AF2(e:(aK H bs)[N]?=Y (Ft.live n g)):∃b a,bs[N]?=Y b/\H[b]?=Y (Ft.live n a)/\g=Ad.renL (bs.idxOf ·) a:=by obtain⟨b,d,h,f,_,i⟩:=mh e q!;cases d<;>grind[Ft.ren]
theorem fV(d:owned (XZ h bs) (aK H bs) N):∃b e,b∈bs/\H[b]?=Y e/\e≠Ft.dead/\h.io b=Y N:=by obtain⟨j,e,f,c,a⟩:=d;grind[mh,XZ]
theorem yp(x:S)(c:τ (x∈bs)=E)(_:x<(cx X h H w).n):
  bs.idxOf x<(cx (Xs X h H bs) (XZ h bs) (aK H bs) w).n/\(cx (Xs X h H bs) (XZ h bs) (aK H bs) w).gen (bs.idxOf x)=(cx X h H w).gen x/\(cx (Xs X h H bs) (XZ h bs) (aK H bs) w).io (bs.idxOf x)=(cx X h H w).io x/\(cx (Xs X h H bs) (XZ h bs) (aK H bs) w).cap (bs.idxOf x)=(cx X h H w).cap x:=by
 have a:x∈bs:=k!
 have b:=iv a;refine⟨by simpa[cx,aK]using pY a,?_,?_,?_⟩<;>simp[cx,XZ,b]
def AF3(B:S)(a:(cx (Xs X h H bs) (XZ h bs) (aK H bs) w).O B):(cx X h H w).O B:=by rcases a with(a|⟨id,e,_,d,c,f⟩)|a;exact .inl a;exact .inr ⟨id,e,d,c,f⟩;obtain⟨b,e,_,d,c,f⟩:=fV a;exact .inr ⟨b,e,d,c,f⟩
theorem P1{w:World}{o:Obj}(h:w.heap[N]?=Y o):N<w.heap.size:=k!
theorem JT.io_at(s:JT X h H w)(c:H[N]?=Y B)(p:B≠.dead)(b:h.io N=Y n):n<w.heap.size:=by
 cases B with
 |dead=>grind
 |live g l=>obtain⟨_,hn|⟨d,i,T,t,f,a,j,_⟩⟩:=s.live N g l c;rw[show(cx X h H w).io N=h.io N from rfl,b]at hn;grind;rw[show(cx X h H w).io N=h.io N from rfl,b]at a;injection a with B;subst B;exact P1 j
 |lp L=>obtain⟨_,d,r,a,j,_⟩:=s.lp N L c;rw[show(cx X h H w).io N=h.io N from rfl,b]at a;injection a with B;subst B;exact P1 j
 |mp k q=>obtain⟨d,i,m,_,o,_⟩:=s.bld N _ c rfl;grind[P1]
 |it e seen=>obtain⟨d,m,_,o⟩:=s.bld N _ c rfl;grind[P1]
def eN{a:S->S}:(B.ren a).isB=B.isB:=by cases B<;>rfl
def BAt.ren{h h':Gh}{w w':World}{id id':S}{ρ:S->S}(b:BAt h w id B)(g:h'.io id'=h.io id)(a:h'.gen id'=h.gen id)(f:h'.cap id'=h.cap id)(l: ∀e (o:Obj),h.io id=some e->w.heap[e]? =some o->w'.heap[e]? =w.heap[e]?):BAt h' w' id' (B.ren ρ):=by
 cases B with
 |mp k p=>obtain⟨e,i,c,j,d,m⟩:=b;exact⟨e,i,g.trans c,a.trans j,(l e _ c d).trans d,m⟩
 |it n seen=>obtain⟨e,c,j,d⟩:=b;exact⟨e,g.trans c,a.trans j,by rw[f];exact(l e _ c d).trans d⟩
 |_=>trivial
theorem JT.sub(s:JT X h H w)(K:bs.Nodup)(hb:∀b∈bs,((H.getD b .dead).idsAll λid=>decide (id∈bs))=E):JT (Xs X h H bs) (XZ h bs) (aK H bs) w where
 out B n:=by have M:¬(∃b e,b∈bs/\H[b]?=Y e/\e≠Ft.dead/\h.io b=Y B)->¬owned (XZ h bs) (aK H bs) B:=λhn ho=>hn (fV ho);rcases n with n|⟨id,e,Z,d,o,k⟩;exact⟨(s.out B n).1,M λ⟨b,e,_,d,o,k⟩=>(s.out B n).2 ⟨b,e,d,o,k⟩⟩;exact⟨s.io_at d o k,M λ⟨b,e',hm,x,Q,C⟩=>Z (s.inj id b e e' B d x o Q k C▸hm)⟩
 live j g cs hj:=by
  obtain⟨b,A,a,D_,rfl⟩:=AF2 hj;obtain⟨Y_,J⟩:=s.live b g A D_;refine⟨by simpa[cx,XZ,a]using Y_,?_⟩;rcases J with⟨hn,rfl⟩|⟨B,N,T,fz,f,y,c,G,ad,W,l⟩;exact .inl ⟨by simpa[cx,XZ,a]using hn,rfl⟩;refine .inr ⟨B,N,T,fz,f,by simpa[cx,XZ,a]using y,c,by simpa[cx,XZ,a]using G,by rw[O1,Ba];exact ad,W,?_⟩;intro i v z;rw[O1,CT]at z;cases hu:A[i]? with
  |none=>rw[hu]at z;cases z
  |some u=>rw[hu]at z;simp only[Bu,Ar]at z;subst z;obtain⟨d,k,x⟩:=l i u hu;refine⟨d,k,Bz.ren (p:=λid=>decide (id∈bs)) (yp ·) rfl AF3 x ?_⟩;have:=hb b (BP a);grind[NR,Ft.idsAll]
 lp j L hj:=by
  obtain⟨b,P,a,D_,o,I⟩:=mh hj q!;cases P with
  |dead=>exact(o rfl).elim
  |live g cs=>simp[Ft.ren]at I
  |mp=>simp[Ft.ren]at I
  |it=>simp[Ft.ren]at I
  |lp L0=>simp only[Ft.ren,Ft.lp.injEq]at I;subst I;obtain⟨Y_,B,r,y,c,d,k,x,C,h5,h6,h7⟩:=s.lp b L0 D_;refine⟨by simpa[cx,XZ,a]using Y_,B,r,by simpa[cx,XZ,a]using y,c,d,k,x,C,h5,h6,λt v m=>?_⟩;obtain⟨q,hq,e⟩:=Bp.1 m;simp only[Ee]at e;obtain⟨rfl,rfl⟩:=e;refine⟨(h7 q.1 q.2 hq).1,Bz.ren (p:=λid=>decide (id∈bs)) (yp ·) rfl AF3 (h7 q.1 q.2 hq).2 ?_⟩;have:=hb b (BP a);grind[Ft.idsAll,List.all_eq_true]
 inj i i' e e' B d k hn1 hn2 x C:=by obtain⟨b,c0,E_,R,U,_⟩:=mh d hn1;obtain⟨b',O,F,S,V,_⟩:=mh k hn2;have e:=s.inj b b' c0 O B R S U V (by simpa[XZ,E_]using x) (by simpa[XZ,F]using C);subst e;rw[<-qw K E_,<-qw K F]
 bld j e hj n:=by obtain⟨b,P,a,D_,o,rfl⟩:=mh hj (by rintro rfl;cases n);rw[eN]at n;exact(s.bld b P D_ n).ren (by simp[XZ,a]) (by simp[XZ,a]) (by simp[XZ,a]) (λ_ _ _ _=>rfl)
def N4(h:Gh)(H:Aw)(bs:Ψ S)(hc:Gh):Gh:=
 let pick {α:Type} (f fc:S->α) (id:S):α:=if id∈bs then fc (bs.idxOf id)else if id<W H then f id else fc (W bs+(id-W H))
 ⟨pick h.io hc.io,pick h.gen hc.gen,pick h.cap hc.cap⟩
def nR{a}:(Vl H bs a).length=W H+(W a-W bs):=by simp[Vl,TZ]
def Zc{c:Aw}(h:bs.Nodup)(k:W bs≤W c)(a:(Vl H bs c)[N]?=Y B):
  (N∉bs/\N<W H/\H[N]?=Y B)\/∃j f,N=Tt H bs j/\c[j]?=Y f/\B=f.ren (Tt H bs):=by
 unfold Vl at a;rcases Az N (W H) with b|b;rw[CZ (by rw[TZ];exact b)]at a;by_cases g:N∈bs;have i:=iv g;rw[xR _ bs H c _ N h i b k]at a;cases d:c[bs.idxOf N]? with
 |none=>rw[d]at a;cases a
 |some f=>rw[d]at a;simp only[Bu,Ar]at a;refine .inr ⟨bs.idxOf N,f,?_,d,a.symm⟩;unfold Tt;rw[C! (pY g),Rm,i];rfl
 rw[jI _ bs H c g]at a;exact .inl ⟨g,b,a⟩;rw[Cn (by rw[TZ];exact b),TZ,CT,KD]at a;cases d:c[W bs+(N-W H)]? with
 |none=>rw[d]at a;cases a
 |some f=>rw[d]at a;simp only[Bu,Ar]at a;refine .inr ⟨_,f,?_,d,a.symm⟩;unfold Tt;rw[D! o!];omega
theorem dG{hc}{d:Aw}(f:bs.Nodup)(a:∀b∈bs,b<W H)(j:S)(g:j<W d):
  Tt H bs j<(Vl H bs d).length/\(N4 h H bs hc).gen (Tt H bs j)=hc.gen j/\(N4 h H bs hc).io (Tt H bs j)=hc.io j/\(N4 h H bs hc).cap (Tt H bs j)=hc.cap j:=by
 rw[nR];unfold Tt;split;grind[N4];have c:W H+(j-W bs)∉bs:=λc=>by have:=a _ c;omega
 have e:W bs+(W H+(j-W bs)-W H)=j:=o!
 simp only[N4,c,if_false,show¬(W H+(j-W bs)<W H)from by omega,e,and_true];omega
theorem oP{g}{f:Aw}(c:bs.Nodup)(k:∀b∈bs,b<W H)(r:W bs≤W f)(s:owned (N4 h H bs g) (Vl H bs f) N):
  (∃id e,id∉bs/\H[id]?=Y e/\e≠Ft.dead/\h.io id=Y N)\/owned g f N:=by
 obtain⟨id,e,o,l,a⟩:=s;rcases Zc c r o with⟨u,p,t⟩|⟨j,m,rfl,q,d⟩;grind[N4];have i:j<W f:=k!
 rw[(dG (h:=h) (hc:=g) c k j i).2.2.1]at a;exact .inr ⟨j,m,q,λn=>l (d.trans (AAV.2 n)),a⟩
theorem HM.back{m}{j}(l:bs.Nodup)(k:∀b∈bs,b<W H)(x:HM (XZ h bs) (aK H bs) w m j d):HM h H w (N4 h H bs m) (Vl H bs j) d:=by
 have r:W bs<=W j:=by have:=x.n;simpa[aK]using this
 refine⟨x.os,x.tape,x.output,x.size,λB p hn=>x.keep B p λa=>?_,?_,?_,?_,?_,x.loops⟩;obtain⟨b,e,_,g,f,i⟩:=fV a;exact hn ⟨b,e,g,f,i⟩;rw[nR];omega;intro id c;by_cases o:id∈bs;have q:=iv o;have:=x.gen (bs.idxOf id) (by simpa[aK]using pY o);grind[N4,XZ];simp[N4,o,c];intro id c;by_cases o:id∈bs;have q:=iv o;have:=x.same (bs.idxOf id) (by simpa[aK]using pY o);grind[N4,XZ];simp[N4,o,c];intro B a;rcases oP l k r a with⟨id,e,_,g,f,i⟩|a;exact .inl ⟨id,e,g,f,i⟩;rcases x.fresh B a with a|a;obtain⟨b,e,_,g,f,i⟩:=fV a;exact .inl ⟨b,e,g,f,i⟩;grind
def Bz.back{v:Gh}{e:Aw}(g:bs.Nodup)(i:∀b∈bs,b<W H)(l:W bs≤W e)
  (r:Bz (cx (Xs X h H bs) v e d) k f):Bz (cx X (N4 h H bs v) (Vl H bs e) d) (k.ren (Tt H bs)) f:=by
 refine Bz.ren (x:=cx (Xs X h H bs) v e d) (y:=cx X (N4 h H bs v) (Vl H bs e) d) (ρ:=Tt H bs) (p:=λ_=>E) (λj _ c=>dG (h:=h) (hc:=v) g i j c) rfl (λB a=>?_) r (sL k);rcases a with a|a;exact .inl (.inl a);rcases oP g i l a with a|a;exact .inl (.inr a);exact .inr a
theorem JT.back{C:Gh}{N:Aw}(s:JT X h H w)(l:bs.Nodup)(z:∀b∈bs,b<θ H)(x:HM (XZ h bs) (aK H bs) w C N d)
  (sc:JT (Xs X h H bs) C N d):JT X (N4 h H bs C) (Vl H bs N) d:=by
 have Y_:θ bs<=θ N:=by have:=x.n;simpa[aK]using this
 have xb:=HM.back (h:=h) l z x;have M:∀{id:Nat}{e:Ft}{B:Nat}{o:Obj},id∉bs->H[id]?=Y e->e≠.dead->h.io id=Y B->w.heap[B]?=Y o->d.heap[B]?=Y o:=by intro id e B o y E_ ao c n;refine(x.keep B (P1 n) λho=>?_).trans n;obtain⟨b,e',ap,I,h0,S⟩:=fV ho;exact y (s.inj id b e e' B E_ I ao h0 c S▸ap)
 have lt:∀{j:Nat}{D_:Ft},N[j]?=Y D_->j<θ N:=by intro j D_ F;rcases Az j (θ N) with A|A;exact A;grind[u?]
 refine⟨λB O=>⟨DM (s.out B O).1 x.size,λho=>?_⟩,λid g cs U=>?_,λid L U=>?_,λid ar e e' B G A ad al I S=>?_,λid e U O=>?_⟩;rcases oP l z Y_ ho with⟨id,e,_,G,h0,A⟩|ho;exact(s.out B O).2 ⟨id,e,G,h0,A⟩;exact(sc.out B (.inl O)).2 ho;rcases Zc l Y_ U with⟨y,k,E_⟩|⟨j,D_,rfl,F,a⟩;obtain⟨W,K⟩:=s.live id g cs E_;refine⟨by simpa[cx,N4,y,k]using W,?_⟩;rcases K with⟨hn,rfl⟩|⟨B,Q,T,fz,f,c,n,J,Z,V,p⟩;exact .inl ⟨by simpa[cx,N4,y,k]using hn,rfl⟩;refine .inr ⟨B,Q,T,fz,f,by simpa[cx,N4,y,k]using c,M y E_ q! c n,by simpa[cx,N4,y,k]using J,Z,V,λi v P=>?_⟩;obtain⟨G,A,I⟩:=p i v P;exact⟨G,A,I.later (xb.later X)⟩;cases D_ with
 |dead=>simp[Ft.ren]at a
 |lp L=>simp[Ft.ren]at a
 |mp=>simp[Ft.ren]at a
 |it=>simp[Ft.ren]at a
 |live g0 R=>
  simp only[Ft.ren,Ft.live.injEq]at a;obtain⟨rfl,rfl⟩:=a;obtain⟨_,r1,r2,r3⟩:=dG (h:=h) (hc:=C) l z j (lt F);obtain⟨W,K⟩:=sc.live j g R F;refine⟨r1.trans W,?_⟩;rcases K with⟨hn,rfl⟩|⟨B,Q,T,fz,f,c,n,J,Z,V,p⟩;exact .inl ⟨r2.trans hn,rfl⟩;refine .inr ⟨B,Q,T,fz,f,r2.trans c,n,J.trans r3.symm,by rw[O1,Ba];exact Z,V,λi v P=>?_⟩;rw[O1,CT]at P;cases hu:R[i]? with
  |none=>rw[hu]at P;cases P
  |some u=>rw[hu]at P;simp only[Bu,Ar]at P;subst P;obtain⟨G,A,I⟩:=p i u hu;exact⟨G,A,Bz.back l z Y_ I⟩
 rcases Zc l Y_ U with⟨y,k,E_⟩|⟨j,D_,rfl,F,a⟩;obtain⟨W,B,r,c,n,G,A,I,S,h5,h6,h7⟩:=s.lp id L E_;exact⟨by simpa[cx,N4,y,k]using W,B,r,by simpa[cx,N4,y,k]using c,M y E_ q! c n,G,A,I,S,h5,h6,λt v m=>⟨(h7 t v m).1,(h7 t v m).2.later (xb.later X)⟩⟩;cases D_ with
 |dead=>simp[Ft.ren]at a
 |live g0 R=>simp[Ft.ren]at a
 |mp=>simp[Ft.ren]at a
 |it=>simp[Ft.ren]at a
 |lp L0=>simp only[Ft.ren,Ft.lp.injEq]at a;subst a;obtain⟨_,r1,r2,r3⟩:=dG (h:=h) (hc:=C) l z j (lt F);obtain⟨W,B,r,c,n,G,A,I,S,h5,h6,h7⟩:=sc.lp j L0 F;refine⟨r1.trans W,B,r,r2.trans c,n,G,A,I,S,h5,h6,λt v m=>?_⟩;obtain⟨q,hq,e⟩:=Bp.1 m;simp only[Ee]at e;obtain⟨rfl,rfl⟩:=e;exact⟨(h7 q.1 q.2 hq).1,Bz.back l z Y_ (h7 q.1 q.2 hq).2⟩
 have key:∀{id:Nat}{e:Ft},(Vl H bs N)[id]?=Y e→e≠.dead→(N4 h H bs C).io id=Y B→
   (id∉bs/\H[id]?=Y e/\h.io id=Y B)\/∃j D_,id=Tt H bs j/\N[j]?=Y D_/\D_≠.dead/\C.io j=Y B:=by
  intro id e U ao c;rcases Zc l Y_ U with⟨y,k,E_⟩|⟨j,D_,rfl,F,a⟩;exact .inl ⟨y,E_,by simpa[N4,y,k]using c⟩;exact .inr ⟨j,D_,rfl,F,λh0=>ao (a.trans (AAV.2 h0)),by rw[<-(dG (h:=h) (hc:=C) l z j (lt F)).2.2.1];exact c⟩
 rcases key G ad I with⟨m1,a1,b1⟩|⟨j1,g1,e1,a1,d1,b1⟩<;>rcases key A al S with⟨m2,a2,b2⟩|⟨j2,g2,e2,a2,d2,b2⟩;exact s.inj _ _ _ _ B a1 a2 ad al b1 b2;exact((sc.out B (.inr ⟨_,_,m1,a1,ad,b1⟩)).2 ⟨j2,g2,a2,d2,b2⟩).elim;exact((sc.out B (.inr ⟨_,_,m2,a2,al,b2⟩)).2 ⟨j1,g1,a1,d1,b1⟩).elim;rw[e1,e2,sc.inj _ _ _ _ B a1 a2 d1 d2 b1 b2];rcases Zc l Y_ U with⟨y,k,E_⟩|⟨j,D_,rfl,F,rfl⟩;have b:=s.bld id e E_ O;have a:e.ren (λx=>x)=e:=by cases e<;>simp_all[Ft.ren,Ft.isB]
 have:=b.ren (h':=N4 h H bs C) (w':=d) (id':=id) (ρ:=λx=>x) (by simp[N4,y,k]) (by simp[N4,y,k]) (by simp[N4,y,k]) (λB o c hb=>(M y E_ (by rintro rfl;cases O) c hb).trans hb.symm);rwa [a]at this;rw[eN]at O;obtain⟨_,r1,r2,r3⟩:=dG (h:=h) (hc:=C) l z j (lt F);exact(sc.bld j D_ F O).ren r2 r1 r3 (λ_ _ _ _=>rfl)
end
def o7(env:Env)(c:Call)(first caps:Ψ Ad):Ψ Ad:=first++c.args.toList.map (BS env)++caps
def fI(P:Program)(s f:S):Ω (S×TypeId×S):=
 match P.underlying s with
 |some (.struct fs)=>
  match fs[f]? with
  |some fd=>
   match tI P fd.type with
   |some (_,n)=>Y (fd.offset,fd.type,n)
   |none=>D
  |none=>D
 |_=>D
def eI(P:Program)(t:TypeId):Ω (Ω S×TypeId×S):=
 match P.underlying t with
 |some (.array len e)=>(tI P e).map λi=>(Y len,e,i.2)
 |some (.slice e)=>(tI P e).map λi=>(D,e,i.2)
 |_=>D
inductive Kd where
 |bool|int (k:IntKind)|str|bytes|other
 deriving DecidableEq
def kd(P:Program)(t:TypeId):Kd:=
 match P.underlying t with
 |some .bool=>.bool
 |some (.int k)=>.int k
 |some .string=>.str
 |some (.slice e)=>match P.underlying e with|some (.int .u8)=>.bytes|_=>.other
 |_=>.other
def T7(H:Aw)(id g:S):Bool:=
 match H[id]? with
 |some (.live g' _)=>g'==g
 |_=>η
def JT.cur{w}(s:JT X h H w)(a:T7 H N n=E):h.gen N=n:=by unfold T7 at a;split at a;rename_i c b d;have:=(s.live N c b d).1;simp at a;exact this.trans a;cases a
def shift(H:Aw)(k:S):Ad->Ω Ad
 |.ptr id g off=>if T7 H id g then Y (.ptr id g (off+k))else D
 |.vptr cs=>if k<=W cs then Y (.vptr (cs.drop k))else D
 |_=>D
theorem xT(s:JT j h H d)(r:Bz (cx j h H d) k f)(b:shift H N k=Y U):
  ∃B a,f=.pointer (Y ⟨B,a,D⟩)/\Bz (cx j h H d) U (.pointer (Y ((⟨B,a,D⟩:Addr).add N))):=by
 cases r with
 | @ptr id g a f e o t l=>simp only[shift]at b;split at b;rename_i X;simp at b;subst b;obtain⟨B,i,rfl⟩:=l (s.cur X);refine⟨B,a,rfl,.ptr e o rfl λ_=>⟨B,i,by rw[PH]⟩⟩;cases b
 | @vptr q B a v n m l x=>simp only[shift]at b;split at b;simp at b;subst b;refine⟨B,a,rfl,?_⟩;rw[PH];refine .vptr (λw=>v (N+w)) n m (λw k p=>?_) λw k p=>?_;grind;grind;cases b
 |_=>grind[shift]
def Wm(P:Program)(H:Aw)(s f:S)(v:Ad):Ω Ad:=
 match fI P s f with
 |some (off,_,n)=>if n=0 then D else shift H off v
 |none=>D
def vv(sim:JT j h H d)(r:Bz (cx j h H d) k f)(w:Wm P H N n k=Y U):
  ∃i,(Instr.fieldAt N f n).run P d=.ok i d/\Bz (cx j h H d) U i:=by
 unfold Wm at w;split at w;rename_i X t v a;split at w;cases w;rename_i hn;obtain⟨B,o,rfl,hr⟩:=xT sim r w;unfold fI at a;split at a;rename_i p g;split at a;rename_i l e;split at a;rename_i b m s;obtain⟨rfl,rfl,rfl⟩:=a;refine⟨_,?_,hr⟩;simp[Instr.fieldAt,run_underlying g,e,Instr.sureAddr,fieldPlace,Lr s,hn];cases a;cases a;cases a;cases w
def Wr(P:Program)(H:Aw)(t:TypeId)(v:Ad)(i:Ad):Ω Ad:=
 match eI P t,i with
 |some (Y len,_,sz),.int _ i=>if 0<=i/\i<len then shift H (i.toNat*sz) v else D
 |some (D,_,sz),.int _ i=>
  match v with
  |.vs sz' rows=>if 0<=i/\sz=sz' then(rows[i.toNat]?).map λe=>.vptr e.cells else D
  |.sl id g sz' off len=>if 0<=i/\i<len/\sz=sz'/\T7 H id g=E then Y (.ptr id g (off+i.toNat*sz))else D
  |_=>D
 |_,_=>D
theorem wC(sim:JT j h H d){u:Ad}{Q:Value}(r:Bz (cx j h H d) k f)(T:Bz (cx j h H d) U Q)
  (l:Wr P H b k U=Y u):∃O,(Instr.indexAt b f Q).run P d=.ok O d/\Bz (cx j h H d) u O:=by
 unfold Wr at l;split at l;rename_i len e sz w n v;cases T;split at l;rename_i A;obtain⟨B,o,rfl,hr⟩:=xT sim r l;unfold eI at v;split at v;rename_i F y t;cases m:tI P y with
 |none=>rw[m]at v;cases v
 |some p=>rw[m]at v;simp only[Bu,Ar,Ee]at v;obtain⟨rfl,rfl,rfl⟩:=v;refine⟨_,?_,hr⟩;simp[Instr.indexAt,asIntOf,run_underlying t,Instr.sureAddr,A,Lr m]
 rename_i y t;cases m:tI P y<;>grind;cases v;cases l;rename_i e sz w n v;cases T;have t:∃U,P.underlying b=Y (.slice e)/\tI P e=Y U/\U.2=sz:=by
  unfold eI at v;split at v;rename_i F y t;cases m:tI P y with
  |none=>rw[m]at v;cases v
  |some p=>rw[m]at v;simp at v
  rename_i y t;cases m:tI P y with
  |none=>rw[m]at v;cases v
  |some p=>rw[m]at v;simp only[Bu,Ar,Ee]at v;obtain⟨_,rfl,rfl⟩:=v;exact⟨p,t,m,rfl⟩
  cases v
 obtain⟨p,t,m,rfl⟩:=t;cases r with
 | @vs N q a cap c C Y_ S W Z=>
  simp only at l;split at l;rename_i A;obtain⟨G,rfl⟩:=A;cases x:q[n.toNat]? with
  |none=>rw[x]at l;cases l
  |some R=>
   rw[x]at l;simp only[Bu,Ar]at l;subst l;have s:n.toNat<θ q:=by rcases Az n.toNat (θ q) with I|I;exact I;rw[Ct I]at x;cases x
   obtain⟨B,z,rfl,V,X,J⟩:=W (by intro e;rw[e]at s;simp at s);refine⟨.pointer (Y ⟨B,z+n.toNat*p.2,D⟩),?_,.vptr (c n.toNat ·) V X (λi k M=>?_) λi k M=>Z _ R _ k x M⟩;have E_:n<θ q:=o!
   simp[Instr.indexAt,asIntOf,run_underlying t,G,E_,Lr m,PH];have:=J _ R i k x M;rw[WX];exact this
  cases l
 | @sl id g N z len f K x h1 J=>simp only at l;split at l;rename_i A;obtain⟨G,s,rfl,D_⟩:=A;simp only[Ar]at l;subst l;rcases J (sim.cur D_)with⟨_,hl,_,_⟩|⟨B,cap,L,C,_,rfl⟩;omega;refine⟨.pointer (Y ⟨B,z+n.toNat*p.2,D⟩),?_,.ptr K x rfl λ_=>⟨B,L,rfl⟩⟩;simp[Instr.indexAt,asIntOf,run_underlying t,G,s,Lr m,PH];cases l
 |_=>cases l
 cases l
def vM(P:Program)(t:TypeId)(cs:Ψ Ad)(off:S):Ω Ad:=
 match tI P t with
 |some (E,n)=>if off+n<=W cs then Y (.agg ((cs.drop off).take n))else D
 |some (η,_)=>cs[off]?
 |none=>D
theorem AAN{P:Program}{w:World}(l:y.size=W g)(o:∀(j:S)(c:Value),y[j]?=Y c→c.oneCell'=E)
  (m:∀(j:S)(v:Ad)(c:Value),g[j]?=Y v->y[j]?=Y c->Bz r v c) (d:vM P b g N=Y k):∃c,(part b y N).run P w=.ok c w/\Bz r k c:=by
 unfold vM at d;split at d;rename_i n f;split at d;rename_i i;simp at d;subst d;refine⟨.agg (y.extract N (N+n)),by simp[part,Yj f,Lr f],.agg w! (λj c h=>?_) λj v c h t=>?_⟩;grind[Array.getElem?_extract];grind;cases d;rename_i n f;have x:N<W g:=k!
 have t:y[N]?=Y (y[N]' o!):=ON o!;exact⟨_,by simp[part,Yj f,t],m N k _ d t⟩;cases d
def uY(P:Program)(s f:S)(v:Ad):Ω Ad:=
 match fI P s f,v with
 |some (off,t,_),.agg cs=>vM P t cs off
 |_,_=>D
def ADN(x:Bz r k f)(s:uY P N n k=Y U):∃b,(Instr.field N f n).run P d=.ok b d/\Bz r U b:=by
 unfold uY at s;split at s;rename_i o t v i a;cases x with
 | @agg i j g w m=>obtain⟨b,l,hr⟩:=AAN (P:=P) (w:=d) g w m s;unfold fI at a;split at a;rename_i q h;split at a;rename_i p e;split at a;simp at a;obtain⟨rfl,rfl,rfl⟩:=a;exact⟨b,by simp[Instr.field,run_underlying h,e,asAgg,l],hr⟩;cases a;cases a;cases a
 cases s
def lU(P:Program)(t:TypeId)(v i:Ad):Ω Ad:=
 match v,i with
 |.agg cs,.int _ i=>
  match eI P t with
  |some (Y len,e,sz)=>if 0<=i/\i<len then vM P e cs (i.toNat*sz)else D
  |_=>D
 |.str s,.int _ i=>if kd P t=.str/\0<=i then(s[i.toNat]?).map λb=>.int .u8 b.toNat else D
 |_,_=>D
theorem uy{P}(h:kd P b=.str):P.underlying b=Y .string:=by unfold kd at h;grind
theorem AJD(h:kd P b=.int I):P.underlying b=Y (.int I):=by unfold kd at h;grind
theorem ADT{u:Ad}{q}(x:Bz r k f)(B:Bz r U q)(a:lU P b k U=Y u):∃i,(Instr.index b f q).run P d=.ok i d/\Bz r u i:=by
 unfold lU at a;split at a;rename_i C w n;cases B;split at a;rename_i len e sz t;split at a;rename_i g;cases x with
 | @agg C D_ m F J=>
  obtain⟨i,G,hr⟩:=AAN (P:=P) (w:=d) m F J a;unfold eI at t;split at t;rename_i A E_ o;cases z:tI P E_ with
  |none=>grind
  |some p=>rw[z]at t;simp only[Bu,Ar,Ee]at t;obtain⟨rfl,rfl,rfl⟩:=t;exact⟨i,by simp[Instr.index,asIntOf,run_underlying o,g,Lr z,G],hr⟩
  simp_all;cases t
 cases a;cases a;rename_i s w n;cases B;cases x with
 | @str s h I=>
  split at a;rename_i g;subst I;cases y:h.data.toList[n.toNat]? with
  |none=>grind
  |some v=>
   rw[y]at a;simp only[Bu,Ar]at a;subst a;have j:h[n.toNat]?=Y v:=by
    obtain⟨H,t⟩:=Ei.1 y;have l:n.toNat<h.size:=by simpa using H
    rw[getElem?_pos h n.toNat l];exact E! Y t
   exact⟨.int .u8 v.toNat,by simp[Instr.index,asIntOf,run_underlying (uy g.1),g.2,j],.int _ _⟩
  cases a
 cases a
def ADv(P:Program)(g:TypeId->Option (List Kd)):List Field->S->Option (List Kd)
 |[],_=>some []
 |f::r,off=>
  if f.offset=off/\(f.name== "_")=false then
   match g f.type with
   |some ks=>if ks.length=P.cellsOf f.type then(ADv P g r (off+ks.length)).map (ks++ ·)else none
   |none=>none
  else none
def xu(P:Program):S->TypeId->Ω (Ψ Kd)
 |0,_=>D
 |d+1,t=>
  match P.underlying t with
  |some .bool=>Y [.bool]
  |some (.int k)=>Y [.int k]
  |some .string=>Y [.str]
  |some (.array n e)=>
   match xu P d e with
   |some ks=>if W ks=P.cellsOf e/\(P.info? e).isSome then Y (ς n ks).flatten else D
   |none=>D
  |some (.struct fs)=>if P.stoodInHeld t then D else ADv P (xu P d) fs.toList 0
  |_=>D
def ABM:Kd->Ad->Bool
 |.bool,.bool _=>E
 |.int k,.int k' _=>decide (k=k')
 |.str,.str _=>E
 |_,_=>η
def typed:Ψ Kd->Ψ Ad->Bool
 |[],[]=>E
 |k::ks,v::vs=>ABM k v&&typed ks vs
 |_,_=>η
def sEq:Ad->Ad->Bool
 |.bool a,.bool b=>a==b
 |.int _ a,.int _ b=>a==b
 |.str a,.str b=>a==b
 |_,_=>η
def vu:Ψ Ad->Ψ Ad->Bool
 |[],[]=>E
 |a::as,b::bs=>sEq a b&&vu as bs
 |_,_=>η
def YX{k1 b:Ψ Kd}:∀{a},typed (k1++b) a=E->typed k1 (a.take (W k1))=E/\typed b (a.drop (W k1))=E:=by
 induction k1 with
 |nil=>intro a h;exact⟨by simp[typed],by simpa using h⟩
 |cons k f e=>
  intro a h;cases a with
  |nil=>simp[typed]at h
  |cons v a=>simp only[ET,typed,BZ]at h;obtain⟨c,d⟩:=e h.2;exact⟨by simp[typed,h.1,c],by simpa using d⟩
def Gu:∀{a}{b},typed a b=E->W b=W a
 |[],[],_=>rfl
 |_::_,_::_,h=>by simp only[typed,BZ]at h;simp[Gu h.2]
 |[],_::_,h=>by simp[typed]at h
 |_::_,[],h=>by simp[typed]at h
def qf:∀n(c bs:Ψ Ad),W c=W bs->vu c bs=(vu (c.take n) (bs.take n)&&vu (c.drop n) (bs.drop n))
 |0,c,bs,_=>by simp[vu]
 |n+1,[],[],_=>by simp[vu]
 |n+1,a::c,b::bs,h=>by simp only[Bh,Nat.add_right_cancel_iff]at h;simp only[vu,List.take_succ_cons,List.drop_succ_cons,qf n c bs h,Bool.and_assoc]
 |n+1,[],_::_,h=>by simp at h
 |n+1,_::_,[],h=>by simp at h
def Over(P:Program)(x:Cx)(t:TypeId)(as:List Ad)(a:Value):Prop:=
 ∃(b:Bool) (n:S) (cs:List Value),tI P t=some (b,n)/\as.length=n/\nW x as cs/\(if b then a= .agg cs.toArray else cs=[a])
def EqF(P:Program)(d:S)(t:TypeId)(ks:Ψ Kd):Prop:=
 ∀w x a b as bs,Over P x t as a->Over P x t bs b->typed ks as=E->typed ks bs=E->(Op.equalIn d t a b).run P w=.ok (vu as bs) w
def mY{P:Program}{off n:S}{w:World}(hr:nW r g e)(f:tI P b=some (O,n))(m:O=false→n=1)(o:off+n≤g.length):
  ∃a,(part b e.toArray off).run P w= .ok a w/\Over P r b ((g.drop off).take n) a:=by
 have x:nW r ((g.drop off).take n) ((e.drop off).take n):=by refine⟨by simp[hr.1],λj v c t i=>?_⟩;rw[dD]at t i;split at t;rename_i k;rw[if_pos k]at i;rw[KD]at t i;exact hr.2 _ v c t i;cases t
 cases O with
 |true=>refine⟨.agg (e.toArray.extract off (off+n)),by simp[part,Yj f,Lr f],true,n,(e.drop off).take n,f,w!,x,?_⟩;simp only[if_true,Value.agg.injEq];apply Array.toList_inj.1;simp only[Array.toList_extract,wM,Tp]
 |false=>
  obtain rfl:=m rfl;have l:off<e.length:=by rw[hr.1];omega
  refine⟨e[off],by simp[part,Yj f,l],false,1,(e.drop off).take 1,f,w!,x,?_⟩;rw[if_neg q!,OO l];rfl
def oT{d}{e:Ψ Kd}(h:xu P d b=Y e):∃t,tI P b=Y (t,P.cellsOf b)/\(t=η->W e=1):=by
 cases d with
 |zero=>simp[xu]at h
 |succ d=>
  unfold xu at h;unfold tI Program.cellsOf;cases f:P.info? b with
  |none=>
   have a:P.underlying b=D:=by simp[Program.underlying,f]
   rw[a]at h;cases h
  |some i=>
   cases a:P.underlying b with
   |none=>rw[a]at h;cases h
   |some c=>rw[a]at h;refine⟨_,rfl,?_⟩;cases c<;>simp_all<;>(subst h;rfl)
def AAY{P:Program}{d:S}{g:TypeId→Option (List Kd)}(C: ∀t i,g t=some i→EqF P d t i∧ ∃b,tI P t=some (b,P.cellsOf t)∧(b=false→i.length=1)){x:Cx}{w:World}{l bs:List Ad}{H I:List Value}
  (A:nW x l H) (B:nW x bs I) (j:l.length=bs.length): ∀(m:List Field) (h:S) (i:List Kd),ADv P g m h=some i->h<=l.length->typed i (l.drop h)=true->typed i (bs.drop h)=true->(Op.eqFields d H.toArray I.toArray m).run P w= .ok (vu (l.drop h) (bs.drop h)) w
 |[],h,i,hk,_,ta,tb=>by simp only[ADv,Ar]at hk;subst hk;have J:=Gu ta;have K:=Gu tb;rw[Eh J,Eh K];simp[Op.eqFields,vu]
 |f::m,h,i,hk,ho,ta,tb=>by
  simp only[ADv]at hk;split at hk;rename_i L;obtain⟨rfl,k⟩:=L;split at hk;rename_i k1 u;split at hk;rename_i o;cases hr:ADv P g m (f.offset+k1.length)with
  |none=>rw[hr]at hk;cases hk
  |some N=>
   rw[hr]at hk;simp only[Bu,Ar]at hk;subst hk;obtain⟨q,y⟩:=YX ta;obtain⟨r,z⟩:=YX tb;obtain⟨s,b,D_,n⟩:=C _ _ u;have E_:=Gu q;have O:=Gu r;have v:f.name≠ "_" :=by simpa using k
   obtain⟨a,Q,F⟩:=mY (P:=P) (w:=w) (off:=f.offset) A D_ (λe=>o▸n e) (by rw[<-o];simp at E_;omega);obtain⟨c,R,G⟩:=mY (P:=P) (w:=w) (off:=f.offset) B D_ (λe=>o▸n e) (by rw[<-o];simp at O;omega);rw[<-o]at F G;have p:=s w x a c _ _ F G q r;have M:=AAY C (w:=w) A B j m (f.offset+k1.length) N hr (by simp at E_;omega) (by simpa[LL]using y) (by simpa[LL]using z);rw[qf k1.length _ _ (by simp[j])];simp only[Op.eqFields,if_pos v,Sem.run_bind,Q,R,p,Result.andThen_ok];cases vu ((l.drop f.offset).take k1.length) ((bs.drop f.offset).take k1.length);simp;simp only[By,QH,if_false,Ya,M,LL]
  cases hk;cases hk;cases hk
def xP{P:Program}{d:S}{e:TypeId}{f:Ψ Kd}(o:EqF P d e f){b:Bool}(s:tI P e=Y (b,W f))(j:b=η→W f=1){x:Cx}{w:World}{h bs:Ψ Ad}{z A:Ψ Value}
  (u:nW x h z) (v:nW x bs A) (g:W h=W bs):∀(n i:S),i*W f<=W h->typed (ς n f).flatten (h.drop (i*W f))=E->typed (ς n f).flatten (bs.drop (i*W f))=E->(Op.eqItems d e (W f) z.toArray A.toArray (List.range' i n)).run P w=.ok (vu (h.drop (i*W f)) (bs.drop (i*W f))) w
 |0,i,_,ta,tb=>by have B:=Gu ta;have C:=Gu tb;rw[Eh (l:=h.drop _) (by simpa using B),Eh (l:=bs.drop _) (by simpa using C)];simp[Op.eqItems,vu]
 |n+1,i,ho,ta,tb=>by
  rw[ng,qO]at ta tb;obtain⟨q,k⟩:=YX ta;obtain⟨r,m⟩:=YX tb;have y:=Gu q;have E_:=Gu r;obtain⟨a,H,F⟩:=mY (P:=P) (w:=w) (off:=i*W f) u s j (by simp at y;omega);obtain⟨c,I,G⟩:=mY (P:=P) (w:=w) (off:=i*W f) v s j (by simp at E_;omega);have p:=o w x a c _ _ F G q r;rw[LL]at k m;have t:i*W f+W f=(i+1)*W f:=by rw[EJ];omega
  rw[t]at k m;have D_:=xP o s j (w:=w) u v g n (i+1) (by simp at y;omega) k m;rw[qf (W f) _ _ (by simp[g]),LL,LL,t];rw[List.range'_succ];simp only[Op.eqItems,Sem.run_bind,H,I,p,Result.andThen_ok];cases vu ((h.drop (i*W f)).take (W f)) ((bs.drop (i*W f)).take (W f));simp;simp[D_]
def xv{P}(d:Nat):∀m t(y:Ψ Kd),xu P m t=Y y->EqF P (d+m) t y
 |0,_,_,h=>by simp[xu]at h
 |m+1,t,y,h=>by
  obtain⟨bt,T,_⟩:=oT h;intro w x a b F bs X Y_ o p;obtain⟨O,n1,xs,c,U,ra,j⟩:=X;obtain⟨Z,n2,ys,r,V,E_,l⟩:=Y_;rw[c]at r;simp only[Ar,Ee]at r;obtain⟨rfl,rfl⟩:=r;have I:=Gu o;have J:=Gu p;have g:∀q,P.underlying t=Y q->O=(match q with|.struct _|.array _ _=>E|_=>η):=by intro q S;unfold tI at c;rw[S]at c;split at c;rename_i G;injection G with e;subst e;simp only[Ar,Ee]at c;exact c.1.symm;cases c
  unfold xu at h;split at h;rename_i f;simp only[Ar]at h;subst h;have:=g _ f;simp only at this;subst this;simp only[QH,if_false]at j l;subst j l;match F,I,bs,J with
  |[u],_,[v],_=>have C:=ra.2 0 u a rfl rfl;have D_:=E_.2 0 v b rfl rfl;simp only[typed,Rj]at o p;cases u<;>simp[ABM]at o;cases v<;>simp[ABM]at p;cases C;cases D_;rw[show d+(m+1)=(d+m)+1 from rfl,run_equalIn_bool' w (d+m) t _ _ f];simp[vu,sEq]
  rename_i k f;simp only[Ar]at h;subst h;have:=g _ f;simp only at this;subst this;simp only[QH,if_false]at j l;subst j l;match F,I,bs,J with
  |[u],_,[v],_=>have C:=ra.2 0 u a rfl rfl;have D_:=E_.2 0 v b rfl rfl;simp only[typed,Rj]at o p;cases u<;>simp[ABM]at o;cases v<;>simp[ABM]at p;cases C;cases D_;subst o p;rw[show d+(m+1)=(d+m)+1 from rfl,run_equalIn_int w (d+m) t _ _ _ _ f];simp[vu,sEq]
  rename_i f;simp only[Ar]at h;subst h;have:=g _ f;simp only at this;subst this;simp only[QH,if_false]at j l;subst j l;match F,I,bs,J with
  |[u],_,[v],_=>
   have C:=ra.2 0 u a rfl rfl;have D_:=E_.2 0 v b rfl rfl;simp only[typed,Rj]at o p;cases u<;>simp[ABM]at o;cases v<;>simp[ABM]at p;cases C with
   |str s1 Q=>
    cases D_ with
    |str s2 R=>subst Q R;rw[show d+(m+1)=(d+m)+1 from rfl,run_equalIn_string w (d+m) t _ _ f];simp[vu,sEq,ByteArray.toList_eq]
  rename_i n e f;split at h;rename_i k1 A;split at h;rename_i H;simp only[Ar]at h;subst h;have:=g _ f;simp only at this;subst this;simp only[if_true]at j l;subst j l;obtain⟨N,s⟩:=fw.1 H.2;obtain⟨b,L,B⟩:=oT A;rw[<-H.1]at L;have i:=xP (xv d m e k1 A) L B (w:=w) ra E_ o! n 0 q! (by simpa using o) (by simpa using p);rw[show d+(m+1)=(d+m)+1 from rfl,run_equalIn_array w (d+m) _ _ f s,<-H.1,List.range_eq_range'];simpa using i;cases h;cases h;rename_i K f;split at h;cases h;rename_i W;have:=g _ f;simp only at this;subst this;simp only[if_true]at j l;subst j l;have z:P.fieldsOf t=K:=by simp[Program.fieldsOf,f]
  have i:=AAY (d:=d+m) (λt y M=>⟨xv d m t y M,oT M⟩) (w:=w) ra E_ o! K.toList 0 y h q! (by simpa using o) (by simpa using p);rw[show d+(m+1)=(d+m)+1 from rfl,run_equalIn_struct w (d+m) t _ _ (by rw[z];exact f) (by simpa using W),z];simpa using i;cases h
def qQ(op:BinOp)(k:IntKind)(a b:Int):Ω Ad:=
 match op with
 |.add=>Y (.int k (k.wrap (a+b)))
 |.sub=>Y (.int k (k.wrap (a-b)))
 |.mul=>Y (.int k (k.wrap (a*b)))
 |.quo=>if b=0 then D else Y (.int k (k.wrap (a.tdiv b)))
 |.rem=>if b=0 then D else Y (.int k (a.tmod b))
 |.and=>Y (.int k (k.wrap (κ k.bits a&&&κ k.bits b).toNat))
 |.or=>Y (.int k (k.wrap (κ k.bits a|||κ k.bits b).toNat))
 |.xor=>Y (.int k (k.wrap (κ k.bits a^^^κ k.bits b).toNat))
 |.andNot=>Y (.int k (k.wrap (κ k.bits a&&& ~~~κ k.bits b).toNat))
 |.eql=>Y (.bool (a==b))
 |.neq=>Y (.bool (a !=b))
 |.lss=>Y (.bool (τ (a<b)))
 |.leq=>Y (.bool (τ (a<=b)))
 |.gtr=>Y (.bool (τ (a>b)))
 |.geq=>Y (.bool (τ (a>=b)))
 |.shl|.shr=>D
def AA2{d}{a}(w:World)(h:qQ d I i a=Y k):∃c,(binOp d b (.int I i) (.int I a)).run P w=.ok c w/\Bz r k c:=by
 cases d<;>simp only[qQ]at h<;>(try split at h)<;>first
  |cases h;done
  |(simp at h;subst h;first
    |exact⟨_,by simp[binOp,Op.intArith,Op.intDiv,Op.intBits, *],.int _ _⟩
    |exact⟨_,by simp[binOp,Op.intCmp],.bool _⟩)
def lm(op:BinOp)(k:IntKind)(a b:Int):Option Ad:=
 if b<0 then none else
 match op with
 | .shl=>some (.int k (k.wrap (a*2^min b.toNat k.bits)))
 | .shr=>some (.int k (a.fdiv (2^min b.toNat k.bits)))
 |_=>none
def AEe(P:Program)(t:TypeId):Ω (Ψ Kd):=
 if P.eqGuardType P.depth t then D else
 match xu P 12 t with
 |some ks=>if tI P t=Y (E,W ks)then Y ks else D
 |none=>D
def xm(op:BinOp)(a b:Ψ UInt8):Ω Ad:=
 match op with
 |.add=>if W a+W b<=9223372036854775807 then Y (.str (a++b))else D
 |.eql=>Y (.bool (a==b))
 |.neq=>Y (.bool (a !=b))
 |.lss=>Y (.bool (Op.bytesLess a b))
 |.leq=>Y (.bool (Op.bytesLess a b||a==b))
 |.gtr=>Y (.bool (!(Op.bytesLess a b||a==b)))
 |.geq=>Y (.bool (!Op.bytesLess a b))
 |_=>D
def zM(P:Program)(op:BinOp)(t:TypeId)(x y:Ad):Ω Ad:=
 match x,y with
 |.int k a,.int k' b=>
  match op with
  |.shl|.shr=>lm op k a b
  |_=>if k=k' then qQ op k a b else D
 |.bool a,.bool b=>
  match op with
  |.eql=>if kd P t=.bool then Y (.bool (a==b))else D
  |.neq=>if kd P t=.bool then Y (.bool (!(a==b)))else D
  |_=>D
 |.str a,.str b=>xm op a b
 |.agg as,.agg bs=>
  match AEe P t with
  |some ks=>
   if typed ks as=E/\typed ks bs=E then
    match op with
    |.eql=>Y (.bool (vu as bs))
    |.neq=>Y (.bool (!vu as bs))
    |_=>D
   else D
  |none=>D
 |_,_=>D
theorem ACc(h:kd P b=.bool):P.underlying b=Y .bool:=by unfold kd at h;grind
def toList_data(t:ByteArray):t.toList=t.data.toList:=ByteArray.toList_eq t
def AGj{e:BinOp}{u:Ad}{g:Value}(w:World)(ra:Bz r k f)(A:Bz r U g)(h:zM P e b k U=some u):
  ∃c,(do eqGuard e b q v f g;binOp e b f g:Sem Value).run P w= .ok c w/\Bz r u c:=by
 unfold zM at h;split at h;rename_i X n T t;cases ra;cases A;have m:(eqGuard e b q v (.int X n) (.int T t)).run P w= .ok () w:=by unfold eqGuard;cases e<;>simp
 simp only[Sem.run_bind,m,Result.andThen_ok];split at h;unfold lm at h;split at h;cases h;rename_i C;simp only[Ar]at h;subst h;exact⟨_,by simp[binOp,Op.shift,C],.int _ _⟩;unfold lm at h;split at h;cases h;rename_i C;simp only[Ar]at h;subst h;exact⟨_,by simp[binOp,Op.shift,C],.int _ _⟩;simp_all[AA2];rename_i p x;cases ra;cases A;have m:(eqGuard e b q v (.bool p) (.bool x)).run P w= .ok () w:=by unfold eqGuard;cases e<;>simp
 simp only[Sem.run_bind,m,Result.andThen_ok];split at h;split at h;rename_i I;simp only[Ar]at h;subst h;exact⟨_,run_eql_bool w b p x (ACc I),.bool _⟩;cases h;split at h;rename_i I;simp only[Ar]at h;subst h;refine⟨_,?_,.bool _⟩;simp only[binOp];simp[run_equal_bool w b p x (ACc I)];cases h;cases h
 ·rename_i s1 s2;cases ra with
  |str s L=>
   cases A with
   |str z O=>
    have m:(eqGuard e b q v (.string s) (.string z)).run P w= .ok () w:=by unfold eqGuard;cases e<;>simp
    simp only[Sem.run_bind,m,Result.andThen_ok];subst L O;unfold xm at h;split at h;split at h;rename_i S;simp only[Ar]at h;subst h;have o: ¬(((s.size+z.size:Nat):Int)>IntKind.i64.max):=by
     have Z:s.data.toList.length=s.size:=q!
     have e2:z.data.toList.length=z.size:=q!
     have K:IntKind.i64.max=9223372036854775807:=g!
     rw[K];omega
    exact⟨.string (s++z),by simp only[binOp];simp only[Op.stringOp,if_neg o];rfl,.str _ q!⟩;cases h;all_goals first
     |cases h;done
     |(simp only[Ar]at h
       subst h;exact⟨_,by simp only[binOp];simp[Op.stringOp,toList_data,bne],.bool _⟩)
 rename_i B bs;cases ra with
 | @agg B f V M Y_=>
  cases A with
  | @agg bs g W N vb=>
   split at h;rename_i ks d;unfold AEe at d;split at d;cases d;rename_i G;split at d;rename_i J E_;split at d;rename_i a;simp only[Ar]at d;subst d;split at h;rename_i i;have F:=xv (P:=P) 9988 12 b J E_;have Q:=Gu i.1;have R:=Gu i.2;have l:(Op.equalIn 10000 b (.agg f) (.agg g)).run P w= .ok (vu B bs) w:=
    F w r (.agg f) (.agg g) B bs ⟨true,_,f.toList,a,o!,⟨by simpa using V,λj y c H D_=>Y_ j y c H (by simpa using D_)⟩,q!⟩
     ⟨true,_,g.toList,a,o!,⟨by simpa using W,λj y c H D_=>vb j y c H (by simpa using D_)⟩,q!⟩ i.1 i.2
   have m:(eqGuard e b q v (.agg f) (.agg g)).run P w= .ok () w:=run_eqGuard_agg w e b q v f g (by simpa using G);simp only[Sem.run_bind,m,Result.andThen_ok];split at h;simp only[Ar]at h;subst h;exact⟨_,by rw[run_eql_struct,l];rfl,.bool _⟩;simp only[Ar]at h;subst h;exact⟨_,by rw[run_neq_struct,l];rfl,.bool _⟩;cases h;cases h;cases d;cases d;cases h
 cases h
def unV(op:UnOp)(v:Ad):Ω Ad:=
 match op,v with
 |.neg,.int k n=>Y (.int k (k.wrap (0-n)))
 |.xor,.int k n=>Y (.int k (k.wrap (κ k.bits (if k.signed then-1 else k.max)^^^κ k.bits n).toNat))
 |.not,.bool b=>Y (.bool !b)
 |_,_=>D
def AJm{b}(w:World)(v:Bz r k f)(h:unV b k=Y U):∃a,(Op.unary b f).run P w=.ok a w/\Bz r U a:=by unfold unV at h;split at h;cases v;simp at h;subst h;exact⟨_,by simp[Op.unary,Op.intArith],.int _ _⟩;cases v;simp at h;subst h;exact⟨_,by simp only[Op.unary];rfl,.int _ _⟩;cases v;simp at h;subst h;exact⟨_,by simp[Op.unary],.bool _⟩;cases h
def rowsOf(H:Aw):Ad->Ω (Ψ Ad)
 |.vs sz rows=>if sz=1 then Y (rows.flatMap Ad.cells)else D
 |.sl id g sz off len=>
  match H[id]? with
  |some (.live g' cs)=>if g=g'/\sz=1/\off+len<=W cs then Y ((cs.drop off).take len)else D
  |_=>D
 |.nils=>Y []
 |_=>D
def u8s:Ψ Ad->Ω (Ψ UInt8)
 |[]=>Y []
 |.int .u8 n::r=>(u8s r).map (UInt8.ofNat n.toNat:: ·)
 |_=>D
def X4(P:Program)(H:Aw)(src dst:TypeId)(v:Ad):Ω Ad:=
 match kd P dst,v with
 |.int k,.int _ n=>if(P.underlying src).isSome then Y (.int k (k.wrap n))else D
 |.str,.str s=>if(P.underlying src).isSome then Y (.str s)else D
 |.str,v=>
  if kd P src=.bytes then
   match rowsOf H v with
   |some cs=>(u8s cs).map Ad.str
   |none=>D
  else D
 |_,_=>D
theorem rS{sz:S}:∀{rows:Ψ Ad},(∀(j:S)(e:Ad),rows[j]?=Y e->W e.cells=sz)->(rows.flatMap Ad.cells).length=W rows*sz
 |[],_=>q!
 |e::r,h=>by have b:=h 0 e rfl;have d:=rS (rows:=r) λj a c=>h (j+1) a k!;grind
theorem flat_get{sz:S}(c:0<sz):∀{rows:Ψ Ad},(∀(j:S)(e:Ad),rows[j]?=Y e→W e.cells=sz)→ ∀(i:S)(v:Ad),(rows.flatMap Ad.cells)[i]?=Y v→
  ∃e,rows[i/sz]?=Y e/\e.cells[i%sz]?=Y v
 |e::r,h,i,v,hi=>by
  have d:=h 0 e rfl;simp at hi;rcases Az i sz with f|a;grind[Nat.div_eq_of_lt,Nat.mod_eq_of_lt];rw[Cn o!,d]at hi;obtain⟨b,l,m⟩:=flat_get c (rows:=r) (λj b n=>h (j+1) b k!) (i-sz) v hi;have g:i/sz=(i-sz)/sz+1:=by rw[<-Nat.add_div_right _ c,Nat.sub_add_cancel a]
  have k:i%sz=(i-sz)%sz:=by rw[<-Nat.add_mod_right (i-sz),Nat.sub_add_cancel a]
  grind
def ABq{P:Program}(s:JT j h H d)(r:Bz (cx j h H d) k f)(hr:rowsOf H k=Y g):
  ∃a n cap V,f=.slice a n cap/\n=θ g/\nW (cx j h H d) g V/\((a=D/\n=0)\/∃C,a=Y C/\(loadCells C n).run P d=.ok V.toArray d):=by
 cases r with
 |nils=>simp only[rowsOf,Ar]at hr;subst hr;exact⟨D,0,0,[],rfl,rfl,⟨rfl,λ_ _ _ h=>by cases h⟩,.inl ⟨rfl,rfl⟩⟩
 | @vs sz b a cap K D_ ar m Z hv=>
  simp only[rowsOf]at hr;split at hr;rename_i R;subst R;simp only[Ar]at hr;subst hr;have l:=rS m;rw[Nat.mul_one]at l;cases b with
  |nil=>
   cases a with
   |none=>exact⟨D,0,cap,[],rfl,rfl,⟨rfl,λ_ _ _ h=>by cases h⟩,.inl ⟨rfl,rfl⟩⟩
   |some C=>exact⟨Y C,0,cap,[],rfl,rfl,⟨rfl,λ_ _ _ h=>by cases h⟩,.inr ⟨C,rfl,by simp[loadCells,loadCellsFrom]⟩⟩
  |cons Y_ I=>
   obtain⟨B,i,rfl,hO,hB,L⟩:=Z q!;generalize Y_::I=b at*;refine⟨_,θ b,cap,(List.range (θ b)).map λc=>K c 0,rfl,l.symm,⟨by simp[l],λc k w A o=>?_⟩,.inr ⟨_,rfl,?_⟩⟩;obtain⟨e,p,E_⟩:=flat_get o! m c k A;rw[Nat.div_one]at p;rw[Nat.mod_one]at E_;have t:c<θ b:=by rcases Az c (θ b) with y|y;exact y;rw[Ct y]at p;cases p
   rw[CT,Rn t]at o;simp only[Bu,Ar]at o;subst o;exact hv c e 0 k p E_;have:=run_loadCells (P:=P) d ⟨B,i,D⟩ (θ b) (K · 0) λc A=>by have J:b[c]?=Y (b[c]):=Au A;have hl:=m c _ J;have M:(b[c]).cells[0]?=Y ((b[c]).cells[0]' o!):=Au o!;rw[PH];have:=(L c _ 0 _ J M).1;simpa[cx]using this
   exact this
  cases hr
 | @sl id v sz i len f ao hg R L=>
  simp only[rowsOf]at hr;split at hr;rename_i g' x J;split at hr;rename_i z;obtain⟨rfl,rfl,ap⟩:=z;simp only[Ar]at hr;subst hr;obtain⟨G,F⟩:=s.live id v x J;rcases L G with⟨q,rfl,rfl,rfl⟩|⟨B,cap,q,D_,N,rfl⟩;exact⟨D,0,0,[],rfl,q!,⟨q!,λ_ _ _ _ h=>by cases h⟩,.inl ⟨rfl,rfl⟩⟩;rcases F with⟨hn,_⟩|⟨Q,W,T,fz,K,u,hb,S,U,al,X⟩;rw[hn]at q;cases q;have:Q=B:=by rw[q]at u;injection u with e;exact e.symm
  subst this;refine⟨_,len,cap,(List.range len).map λc=>K (i+c),rfl,w!,⟨w!,λc k w A o=>?_⟩,.inr ⟨_,rfl,?_⟩⟩;have t:c<len:=by rcases Az c len with y|y;exact y;rw[Ct (by simpa using y)]at o;cases o
  rw[dD,C! t,KD]at A;rw[CT,Rn t]at o;simp only[Bu,Ar]at o;subst o;exact(X _ k A).2.2;exact run_loadCells (P:=P) d ⟨Q,i,D⟩ len (λc=>K (i+c)) λc A=>by have O:x[i+c]?=Y (x[i+c]' o!):=Au o!;rw[PH,QK (w:=d) hb];exact(X _ _ O).1
  cases hr;cases hr
 |_=>simp only[rowsOf]at hr;cases hr
theorem AAh{x}:∀{d}{b}{bs:Ψ UInt8},nW x d b->u8s d=Y bs->∃e:Ψ Int,b=e.map (Value.int .u8)/\bs=e.map λn=>UInt8.ofNat n.toNat
 |[],b,bs,hr,hb=>by simp only[u8s]at hb;rw[Eh hr.1];simp_all
 |v::d,b,bs,hr,hb=>by
  match b,hr with
  |u::b,hr=>
   have h:=hr.2 0 v u rfl rfl;have l:nW x d b:=⟨by have:=hr.1;simpa using this,λj a c p o=>hr.2 (j+1) a c k! k!⟩
   unfold u8s at hb;split at hb<;>rename_i f<;>(try cases f)<;>try (cases hb;done)
   cases k:u8s d with
   |none=>grind
   |some g=>obtain⟨e,i,m⟩:=AAh l k;cases h;exact⟨_::e,by rw[i];rfl,k!⟩
def ABG(a:Ψ Int):∀s:ByteArray,(a.foldl (λr n=>r.push (UInt8.ofNat n.toNat)) s).data.toList=s.data.toList++a.map λn=>UInt8.ofNat n.toNat:=by induction a<;>simp_all
theorem AE9{P}(h:kd P b=.bytes):∃e,P.underlying b=Y (.slice e)/\P.underlying e=Y (.int .u8):=by unfold kd at h;grind
theorem AEl(s:JT j h H d)(r:Bz (cx j h H d) k f)(o:X4 P H b Z k=Y U):
  ∃y,(convert b Z f).run P d=.ok y d/\Bz (cx j h H d) U y:=by
 unfold X4 at o;split at o;rename_i X I n l;split at o;rename_i i;obtain⟨C,i⟩:=fw.1 i;simp only[Ar]at o;subst o;cases r;exact⟨_,by simp[convert,run_underlying i,run_underlying (AJD l),Conv.intToInt],.int _ _⟩;cases o;rename_i J l;split at o;rename_i i;obtain⟨C,i⟩:=fw.1 i;simp only[Ar]at o;subst o;cases r with
 |str t F=>exact⟨_,by simp[convert,run_underlying i,run_underlying (uy l)],.str _ F⟩
 cases o;rename_i L l _;split at o;rename_i D_;split at o;rename_i B p;cases q:u8s B with
 |none=>rw[q]at o;cases o
 |some bs=>
  rw[q]at o;simp only[Bu,Ar]at o;subst o;obtain⟨e,m,z⟩:=AE9 D_;obtain⟨a,n,cap,K,rfl,hn,w,v⟩:=ABq (P:=P) s r p;obtain⟨x,rfl,rfl⟩:=AAh w q;rcases v with⟨rfl,E_⟩|⟨A,rfl,g⟩;have:x=[]:=by have G:=w.1;grind[List.length_map,List.eq_nil_of_length_eq_zero]
  subst this;exact⟨.string .empty,by simp[convert,run_underlying m,run_underlying (uy l),run_underlying z,Conv.bytesToString],.str _ rfl⟩;refine⟨_,?_,.str _ (ABG x ByteArray.empty)⟩;simp only[convert,Sem.run_bind,run_underlying m,run_underlying (uy l),run_underlying z,Result.andThen_ok];exact run_bytesToString d A n cap x (by simpa using g)
 cases o;cases o;cases o
def qz(P:Program)(H:Aw)(t:TypeId)(v:Ad):Ω Ad:=
 match P.underlying t,v with
 |some .string,.str s=>Y (.int .i64 (W s))
 |some (.array n _),_=>Y (.int .i64 n)
 |some (.slice _),.vs _ rows=>Y (.int .i64 (W rows))
 |some (.slice _),.sl _ _ _ _ len=>Y (.int .i64 len)
 |some (.slice _),.nils=>Y (.int .i64 0)
 |_,_=>D
def AHK{P}{w}{t ty:TypeId}(s:JT j h H w)(r:Bz (cx j h H w) k f)(b:qz P H t k=Y U):
  ∃u,(Builtin.len_ #[t] ty #[f]).run P w=.ok u w/\Bz (cx j h H w) U u:=by
 unfold qz at b;split at b;rename_i p d;simp only[Ar]at b;subst b;cases r with
 |str v m=>
  refine⟨.int .i64 v.size,by simp[Builtin.len_,run_underlying d,goInt],?_⟩;have:W p=v.size:=by rw[<-m];simp
  rw[this];exact .int _ _
 rename_i n e d;simp only[Ar]at b;subst b;exact⟨.int .i64 n,by simp[Builtin.len_,run_underlying d,goInt],.int _ _⟩;rename_i sz i d;simp only[Ar]at b;subst b;cases r;exact⟨_,by simp[Builtin.len_,run_underlying d,goInt],.int _ _⟩;rename_i id g sz o len d;simp only[Ar]at b;subst b;cases r with
 |sl l x X q=>obtain⟨a,cap,rfl⟩:=X;exact⟨_,by simp[Builtin.len_,run_underlying d,goInt],.int _ _⟩
 rename_i d;simp only[Ar]at b;subst b;cases r;exact⟨_,by simp[Builtin.len_,run_underlying d,goInt],.int _ _⟩;cases b
def mmV(mx:Bool):Ψ Ad->Ω Ad
 |[.int k a,.int _ b]=>Y (.int k (if mx then(if b>a then b else a)else(if b<a then b else a)))
 |_=>D
def AFK{P:Program}{w:World}{mx}{ts:Array TypeId}{ty:TypeId}{u:Ad}{c}(g:Bz r k f)(h:Bz r U c)(a:mmV mx [k,U]=Y u):
  ∃x,((if mx then Builtin.max_ ts ty #[f,c]else Builtin.min_ ts ty #[f,c]):Sem Value).run P w=.ok x w/\Bz r u x:=by
 cases k<;>try (simp[mmV]at a;done)
 cases U<;>try (simp[mmV]at a;done)
 cases g;cases h;simp only[mmV,Ar]at a;subst a;cases mx;exact⟨_,by simp[Builtin.min_,Builtin.min2],.int _ _⟩;exact⟨_,by simp[Builtin.max_,Builtin.max2],.int _ _⟩
def mm3:Ad->Ad->Ad->Ω Ad
 |.int k a,.int _ b,.int _ c=>Y (.int k (if c<(if b<a then b else a)then c else(if b<a then b else a)))
 |_,_,_=>D
def AHP{P:Program}{w:World}{ts:Array TypeId}{ty:TypeId}{h u:Ad}{d e}(i:Bz r k f)(j:Bz r U d)(x:Bz r h e)(a:mm3 k U h=Y u):
  ∃b,(Builtin.min_ ts ty #[f,d,e]).run P w=.ok b w/\Bz r u b:=by
 unfold mm3 at a;split at a;cases i;cases j;cases x;simp at a;subst a;exact⟨_,by simp[Builtin.min_,Builtin.min2],.int _ _⟩;cases a
def vF:Ad->Ω S
 |.int _ i=>if 0<=i then Y i.toNat else D
 |_=>D
def Xf(d:S):Ω Ad->Ω S
 |none=>Y d
 |some v=>vF v
def jJ(P:Program)(H:Aw)(t:TypeId)(v:Ad)(lo hi mx:Ω Ad):Ω Ad:=
 match v with
 |.str s=>
  match Xf 0 lo,Xf (W s) hi,mx with
  |some l,Y h,D=>if kd P t=.str/\l<=h/\h<=W s then Y (.str ((s.drop l).take (h-l)))else D
  |_,_,_=>D
 |.vs sz rows=>
  match Xf 0 lo,Xf (W rows) hi,Xf (W rows) mx,eI P t with
  |some l,Y h,Y m,Y (D,_,sz')=>if sz=sz'/\l<=h/\h<=m/\m<=W rows/\(mx.isSome=E->hi.isSome=E)then Y (.vs sz ((rows.drop l).take (h-l)))else D
  |_,_,_,_=>D
 |.sl id g sz off len=>
  match Xf 0 lo,Xf len hi,Xf len mx,eI P t with
  |some l,Y h,Y m,Y (D,_,sz')=>
   if sz=sz'/\0<sz/\l<=h/\h<=m/\m<=len/\T7 H id g=E/\(mx.isSome=E->hi.isSome=E)then
    if l=0 then Y (.sl id g sz off h)else if l=h then Y (.vs sz [])else Y (.sl id g sz (off+l*sz) (h-l))
   else D
  |_,_,_,_=>D
 |.nils=>
  match Xf 0 lo,Xf 0 hi,Xf 0 mx,eI P t with
  |some 0,Y 0,Y 0,Y (D,_,_)=>if mx.isSome=E->hi.isSome=E then Y .nils else D
  |_,_,_,_=>D
 |_=>D
theorem ADa(x:Bz r k f)(h:vF k=Y n):∃v i,f=.int v i/\0<=i/\i.toNat=n:=by
 cases k<;>try (simp[vF]at h;done)
 cases x;grind[vF]
def run_sliceBound{P:Program}{w:World}{code}(x:Bz r k f)(h:vF k=Y n)(b:n<=N):(Instr.sliceBound f N code).run P w=.ok n w:=by
 obtain⟨v,i,rfl,a,rfl⟩:=ADa x h;have:i<=N:=o!
 simp[Instr.sliceBound,asIntOf,a,this]
def Zg{P:Program}{w:World}{isSlice:Bool}{len cap l h m:S}{k j mx:Ω Ad}{e b cmx:Ω Value}(i:∀v,k=Y v→ ∃c,e=Y c∧Bz r v c)(g:k=D→e=D)
  (o:∀v,j=Y v->∃c,b=Y c/\Bz r v c) (t:j=D->b=D) (z:∀v,mx=Y v->∃c,cmx=Y c/\Bz r v c) (u:mx=D->cmx=D)
  (a:Xf 0 k=Y l) (q:Xf len j=Y h) (D_:Xf len mx=Y m) (s:l<=h) (E_:h<=m) (J:m<=len) (K:len<=cap) (F:mx.isSome=E->j.isSome=E):
  (Instr.sliceBounds isSlice len cap e b cmx).run P w=.ok (l,h,if mx.isSome then m else cap) w:=by
 unfold Instr.sliceBounds;cases mx with
 |none=>
  obtain rfl:=u rfl;cases j with
  |none=>
   obtain rfl:=t rfl;simp only[Xf,Ar]at q;subst q;cases k with
   |none=>obtain rfl:=g rfl;simp only[Xf,Ar]at a;simp[a]
   |some v=>obtain⟨d,rfl,x⟩:=i v rfl;have n:=λc=>run_sliceBound (P:=P) (w:=w) (code:=c) x a s;simp[n]
  |some A=>
   obtain⟨B,rfl,y⟩:=o A rfl;have p:=λc=>run_sliceBound (P:=P) (w:=w) (code:=c) y q (show h<=cap by omega);cases k with
   |none=>obtain rfl:=g rfl;simp only[Xf,Ar]at a;simp[a,p]
   |some v=>obtain⟨d,rfl,x⟩:=i v rfl;have n:=λc=>run_sliceBound (P:=P) (w:=w) (code:=c) x a s;simp[p,n]
 |some H=>
  obtain⟨I,rfl,G⟩:=z H rfl;have f:=F rfl;cases j with
  |none=>simp at f
  |some A=>
   obtain⟨B,rfl,y⟩:=o A rfl;have C:=λc=>run_sliceBound (P:=P) (w:=w) (code:=c) G D_ (show m<=cap by omega);have p:=λc=>run_sliceBound (P:=P) (w:=w) (code:=c) y q E_;simp only[Sem.run_bind,C,p,Result.andThen_ok,Option.isSome_some,if_true];cases k with
   |none=>obtain rfl:=g rfl;simp only[Xf,Ar]at a;simp[a]
   |some v=>obtain⟨d,rfl,x⟩:=i v rfl;have n:=λc=>run_sliceBound (P:=P) (w:=w) (code:=c) x a s;simp[n]
theorem RI{P}(a:eI P b=Y (D,Z,N)):P.underlying b=Y (.slice Z)/\∃t,tI P Z=Y (t,N):=by unfold eI at a;split at a;simp_all;rename_i c d;cases f:tI P c<;>grind;cases a
theorem ADs{lo V q:Ω Ad}{N L A:Ω Value}(s:JT j h H d)(r:Bz (cx j h H d) k f)
  (K:∀k,lo=Y k->∃f,N=Y f/\Bz (cx j h H d) k f) (G:lo=D->N=D)
  (J:∀k,V=Y k->∃f,L=Y f/\Bz (cx j h H d) k f) (F:V=D->L=D) (R:∀k,q=Y k->∃f,A=Y f/\Bz (cx j h H d) k f) (I:q=D->A=D)
  (t:jJ P H b k lo V q=Y U):∃c',(Instr.sliceAt b f N L A).run P d=.ok c' d/\Bz (cx j h H d) U c':=by
 unfold jJ at t;split at t;rename_i s';split at t;rename_i l p S O;split at t;rename_i o;obtain⟨hk,h1,X⟩:=o;simp only[Ar]at t;subst t;obtain rfl:=I rfl;cases r with
 |str t' ht=>
  have x:θ s'=t'.size:=by rw[<-ht];simp
  rw[x]at O X;have o:=Zg (P:=P) (w:=d) (isSlice:=η) (len:=t'.size) (cap:=t'.size) (mx:=D) (cmx:=D) K G J F (λ_ h=>by cases h) (λ_=>rfl) S O rfl h1 X (Al _) (Al _) (λh=>by cases h);refine⟨.string (t'.extract l p),?_,.str _ ?_⟩;simp only[Instr.sliceAt,Instr.slice,Sem.run_bind,run_underlying (uy hk),Result.andThen_ok,Option.isSome_none,QH,if_false,o,Sem.run_pure];simp_all[wM]
 cases t;cases t;rename_i sz w;split at t;rename_i l p m e a1 S O Z he;split at t;rename_i o;obtain⟨rfl,h1,X,h3,h4⟩:=o;simp only[Ar]at t;subst t;obtain⟨z,v,y⟩:=RI he;cases r with
 | @vs sz w a cap c C Y_ ao ha t=>
  have o:=Zg (P:=P) (w:=d) (isSlice:=E) (len:=θ w) (cap:=cap) K G J F R I S O Z h1 X h3 C h4;have E_:∀{u:Nat}{e:Ad},((w.drop l).take (p-l))[u]?=Y e->w[l+u]?=Y e:=k!
  have x:((w.drop l).take (p-l)).length=p-l:=w!
  refine⟨.slice (if(if q.isSome then m else cap)=l then a else a.map (·.add (l*sz))) (p-l) ((if q.isSome then m else cap)-l),?_,?_⟩;simp only[Instr.sliceAt,Instr.slice,Sem.run_bind,run_underlying z,Result.andThen_ok,o,Lr y,Sem.run_pure];have hM:p<=(if q.isSome then m else cap):=by split<;>omega
  generalize (if q.isSome then m else cap)=M at hM;have T:Bz (cx j h H d) (.vs sz ((w.drop l).take (p-l))) (.slice (if M=l then a else a.map (·.add (l*sz))) ((w.drop l).take (p-l)).length (M-l)):=?_;rw[x]at T;exact T;refine .vs (λu i=>c (l+u) i) (by rw[x];omega) Y_ (λu e hj=>ao _ e (E_ hj)) (λa4=>?_) λu e i k hj V=>t _ e i k (E_ hj) V;have a3:l<p:=by rcases Az l p with h5|h5;exact h5;simp_all[Eh]
  obtain⟨B,n,rfl,hO,hB,hc⟩:=ha (by intro e;rw[e]at h3;simp at h3;omega);refine⟨B,n+l*sz,?_,hO,hB,λu e i k hj V=>?_⟩;grind[PH];have:=hc _ e i k (E_ hj) V;rw[EJ]at this;rw[show n+l*sz+(u*sz+i)=n+(l*sz+u*sz+i)from by omega];exact this
 cases t;cases t;rename_i id g sz n len;split at t;rename_i l p m e a1 S O Z he;split at t;rename_i o;obtain⟨rfl,Y_,h1,X,h3,ad,h4⟩:=o;obtain⟨z,v,y⟩:=RI he;cases r with
 | @sl id g sz n len f W hg a2 hc=>
  rcases hc (s.cur ad)with⟨Q,rfl,rfl,rfl⟩|⟨B,cap,Q,C,D_,rfl⟩;have o:=Zg (P:=P) (w:=d) (isSlice:=E) (len:=0) (cap:=0) K G J F R I S O Z h1 X h3 (Al _) h4;have ax:l=0:=o!
  have ar:p=0:=o!
  have a0:m=0:=o!
  subst ax ar a0;simp only[if_true,Ar]at t;subst t;refine⟨.slice D 0 0,?_,.sl W hg ⟨_,_,rfl⟩ λ_=>.inl ⟨Q,rfl,rfl,rfl⟩⟩;simp only[Instr.sliceAt,Instr.slice,Sem.run_bind,run_underlying z,Result.andThen_ok,o,Lr y,Sem.run_pure];cases q<;>simp;have o:=Zg (P:=P) (w:=d) (isSlice:=E) (len:=len) (cap:=cap) K G J F R I S O Z h1 X h3 C h4
  have ap:(Instr.sliceAt b (.slice (Y ⟨B,n,D⟩) len cap) N L A).run P d=
    .ok (.slice (if(if q.isSome then m else cap)=l then Y ⟨B,n,D⟩else(Y ⟨B,n,D⟩:Ω Addr).map (·.add (l*sz))) (p-l) ((if q.isSome then m else cap)-l)) d:=by
   simp only[Instr.sliceAt,Instr.slice,Sem.run_bind,run_underlying z,Result.andThen_ok,o,Lr y,Sem.run_pure]
  refine⟨_,ap,?_⟩;have hM:p<=(if q.isSome then m else cap)/\(if q.isSome then m else cap)<=cap:=by split<;>omega
  generalize (if q.isSome then m else cap)=M at hM;split at t;rename_i hl;subst hl;simp only[Ar]at t;subst t;refine .sl W hg ⟨_,_,rfl⟩ λ_=>.inr ⟨B,M,Q,hM.1,?_,?_⟩;exact Cq (Nat.add_le_add_left (NU _ hM.2) _) D_;simp[PH];rename_i hl;split at t;rename_i al;subst al;simp only[Ar]at t;subst t;rw[G2];exact Bz.vs (rows:=[]) (λ_ _=>undef) (BU _) Y_ (λ_ _ h=>by simp at h) (λh=>(h rfl).elim) λ_ _ _ _ h=>by simp at h
  rename_i al;simp only[Ar]at t;subst t;refine .sl W hg ⟨_,_,rfl⟩ λ_=>.inr ⟨B,M-l,Q,o!,?_,?_⟩;rw[WX,<-EJ];have:l+(M-l)=M:=o!
  rw[this];exact Cq (Nat.add_le_add_left (NU _ hM.2) _) D_;rw[D! o!];simp[PH]
 cases t;cases t;split at t;rename_i e sz S O Z he;split at t;rename_i h4;simp only[Ar]at t;subst t;obtain⟨z,v,y⟩:=RI he;cases r;have o:=Zg (P:=P) (w:=d) (isSlice:=E) (len:=0) (cap:=0) K G J F R I S O Z (Al _) (Al _) (Al _) (Al _) h4;refine⟨.slice D 0 0,?_,.nils⟩;simp only[Instr.sliceAt,Instr.slice,Sem.run_bind,run_underlying z,Result.andThen_ok,o,Lr y,Sem.run_pure];cases q<;>simp;cases t;cases t;cases t
def Ad.solid:Ad->Bool
 |.any=>η
 |.tup _=>η
 |_=>E
def cells_one(h:f.oneCell'=E):f.cells= #[f]:=by cases f<;>first|rfl|(simp[Value.oneCell']at h;done)
theorem XW(v:Bz r k f)(h:k.solid=E):Bz r (.agg k.cells) (.agg f.cells):=by
 have one:∀{u}{d},Bz r u d->d.oneCell'=E->d.cells= #[d]->u.cells=[u]->Bz r (.agg u.cells) (.agg d.cells):=by intro u d A g q z;rw[q,z];refine .agg rfl (λj f s=>?_) λj k f s l=>?_;grind;grind
 cases v with
 |agg o g p=>exact .agg o g p
 |any f=>simp[Ad.solid]at h
 |tup o p=>simp[Ad.solid]at h
 |ptr i m g l=>exact one (.ptr i m g l) g (cells_one g) rfl
 |sl i m g l=>obtain⟨a,cap,rfl⟩:=g;exact one (.sl i m ⟨a,cap,rfl⟩ l) rfl (cells_one rfl) rfl
 |bool b=>exact one (.bool b) rfl rfl rfl
 |int c n=>exact one (.int c n) rfl rfl rfl
 |str t y=>exact one (.str t y) rfl rfl rfl
 |nilp=>exact one .nilp rfl rfl rfl
 |vptr x a b f d=>exact one (.vptr x a b f d) rfl rfl rfl
 |nils=>exact one .nils rfl rfl rfl
 |vs x a b f d e=>exact one (.vs x a b f d e) rfl rfl rfl
 |fn a b f d=>exact one (.fn a b f d) rfl rfl rfl
 |yf i g l=>exact one (.yf i g l) g (cells_one g) rfl
 |mp i g l=>exact one (.mp i g l) g (cells_one g) rfl
 |itp i w g l=>exact one (.itp i w g l) g (cells_one g) rfl
 |nilf=>exact one .nilf rfl rfl rfl
def XV(cs:Ψ Ad)(off:S)(vs:Ψ Ad):Ψ Ad:=cs.take off++vs++cs.drop (off+W vs)
theorem lj(h:N+W x<=W g):(XV g N x).length=W g:=by grind[XV]
theorem vU(h:N+W x<=W g)(j:S):(XV g N x)[j]?=if N<=j/\j<N+W x then x[j-N]? else g[j]? :=by grind[XV,List.getElem?_append_left]
inductive ak where
 |arr (sz:S)
 |str (l:List (S×S))
def ak.at_:ak->S->Ω (S×S)
 |.arr sz,i=>Y (i*sz,sz)
 |.str l,i=>l[i]?
def Zk(P:Program)(t:TypeId):Ω (Ψ Ad):=
 match (P.info? t).bind (·.zero)with
 |some z=>if z.cells.toList.all (·.oneCell')then Y (z.cells.toList.map sC)else D
 |none=>D
def vP(P:Program)(t:TypeId):Ω ak:=
 match P.underlying t with
 |some (.struct fs)=>(fs.toList.mapM λf=>(P.info? f.type).map λi=>(f.offset,i.size)).map ak.str
 |some (.array _ e)=>(P.info? e).map λi=>ak.arr i.size
 |_=>D
def sH(p:ak):Ψ Ad->Ψ (S×Ad)->Ω (Ψ Ad)
 |cs,[]=>Y cs
 |cs,(i,v)::r=>
  match p.at_ i with
  |some (off,size)=>if v.solid=E/\W v.cells=size/\off+size<=W cs then sH p (XV cs off v.cells) r else D
  |none=>D
def uF(P:Program)(t:TypeId)(parts:Ψ (S×Ad)):Ω Ad:=
 match Zk P t,vP P t with
 |some z,Y p=>(sH p z parts).map Ad.agg
 |_,_=>D
theorem ff(x:Cx)(h:Zk P b=Y g):∃i v,P.info? b=Y i/\i.zero=Y v/\Bz x (.agg g) (.agg v.cells):=by
 unfold Zk at h;cases d:P.info? b with
 |none=>grind
 |some i=>
  cases t:i.zero with
  |none=>grind
  |some v=>rw[d]at h;simp only[AD,t]at h;split at h;rename_i a;simp at h;subst h;refine⟨i,v,rfl,t,.agg q! (λj c e=>?_) λj u c e f=>?_⟩;grind;grind[qb];cases h
theorem foldl_set(a:S):∀(l:Ψ Value)(k:S)(b:Array Value),a+k+W l≤b.size→
  ((l.zipIdx k).foldl (λb (p:Value×S)=>b.setIfInBounds (a+p.2) p.1) b).size=b.size/\∀j,((l.zipIdx k).foldl (λb (p:Value×S)=>b.setIfInBounds (a+p.2) p.1) b)[j]?=if a+k<=j/\j<a+k+W l then l[j-(a+k)]? else b[j]?
 |[],k,b,_=>by simp;intro j c d;omega
 |v::l,k,b,h=>by simp at h⊢;obtain⟨c,d⟩:=foldl_set a l (k+1) (b.setIfInBounds (a+k) v) w!;grind
theorem AFv{d:Array Value}{off:S}(e:Bz r (.agg x) (.agg y))(p:Bz r (.agg g) (.agg d))(h:off+W g≤W x)(a:Array Value)
  (f:a.size=y.size) (i:∀j,a[j]?=if off<=j/\j<off+d.size then d[j-off]? else y[j]?):Bz r (.agg (XV x off g)) (.agg a):=by
 cases e with
 |agg m q t=>
  cases p with
  |agg n k o=>refine .agg (by rw[f,m,lj h]) (λj c l=>?_) λj v c l s=>?_;grind;grind[vU]
theorem wg{x}(p:ak):∀(b:Ψ (S×Ad))(a:Ψ (S×Value))f d(n:Ψ Ad),a.map (·.1)=b.map (·.1)→
  (∀(j:S)(q:S×Ad)(o:S×Value),b[j]?=Y q->a[j]?=Y o->Bz x q.2 o.2)->Bz x (.agg f) (.agg d)->sH p f b=Y n->
  ∃l,Instr.fill p.at_ d a=Y l/\Bz x (.agg n) (.agg l)
 |[],a,f,d,n,m,_,r,h=>by
  have:a=[]:=t!
  subst this;simp only[sH,Ar]at h;subst h;exact⟨d,rfl,r⟩
 |(i,v)::b,(i',c)::a,f,d,n,m,hr,r,h=>by
  simp at m;obtain⟨rfl,m⟩:=m;simp only[sH]at h;split at h;rename_i e size E_;split at h;rename_i u;obtain⟨g,rfl,s⟩:=u;have t:=XW (hr 0 (i',v) (i',c) rfl rfl) g;have z:c.cells.size=W v.cells:=by cases t with|agg h _ _=>exact h
  have w:d.size=W f:=by cases r with|agg h _ _=>exact h
  have k:=foldl_set e c.cells.toList 0 d k!;have B:c.cells.zipIdx.foldl (λf (p:Value×S)=>f.setIfInBounds (e+p.2) p.1) d=(c.cells.toList.zipIdx 0).foldl (λf (p:Value×S)=>f.setIfInBounds (e+p.2) p.1) d:=by rw[<-Array.foldl_toList,Array.toList_zipIdx]
  have A:=AFv (off:=e) r t s ((c.cells.toList.zipIdx 0).foldl (λf (p:Value×S)=>f.setIfInBounds (e+p.2) p.1) d) k.1 (λj=>k!);obtain⟨l,C,D_⟩:=wg p b a _ _ n m (λj q o F y=>hr (j+1) q o k! k!) A h;grind[Instr.fill];cases h;cases h
theorem AC9{u:Ψ (S×Ad)}{a:Array (S×Value)}(E_:a.toList.map (·.1)=u.map (·.1))
  (hr:∀(j:S)(q:S×Ad)(A:S×Value),u[j]?=Y q->a.toList[j]?=Y A->Bz r q.2 A.2) (h:uF P b u=Y k):∃c,(Instr.build b a).run P d=.ok c d/\Bz r k c:=by
 unfold uF at h;split at h;rename_i z p F t;cases y:sH p z u with
 |none=>grind
 |some H=>
  rw[y]at h;simp at h;subst h;obtain⟨i,v,D_,w,G⟩:=ff r F;obtain⟨m,s,C⟩:=wg p u a.toList z v.cells H E_ hr G y;refine⟨.agg m,run_build d b a m ?_,C⟩;unfold Program.built;rw[D_];unfold vP at t;split at t;rename_i B x;rw[x];cases o:B.toList.mapM (λf=>(P.info? f.type).map λi=>(f.offset,i.size))with
  |none=>grind
  |some l=>simp only[w,o];rw[<-s];congr 1;grind[ak.at_]
  rename_i n e x;rw[x];cases g:P.info? e with
  |none=>grind
  |some I=>rw[g]at t;simp at t;subst t;simp only[w,g];exact s
  cases t
 cases h
def Ci(P:Program)(env:Env)(H:Aw):Op->Ω Ad
 |.move x|.assign x=>Y (BS env x)
 |.pick c a b=>
  match BS env c with
  |.bool t=>Y (if t then BS env a else BS env b)
  |_=>D
 |.load t a=>jU P t H (BS env a)
 |.nilCheck x=>
  match BS env x with
  |.ptr id g off=>if T7 H id g then Y (.ptr id g off)else D
  |.vptr cs=>Y (.vptr cs)
  |.fn (.func f) a b=>Y (.fn (.func f) a b)
  |_=>D
 |.binOp op t x y _=>zM P op t (BS env x) (BS env y)
 |.unOp op _ x=>unV op (BS env x)
 |.convert s d x=>X4 P H s d (BS env x)
 |.fieldAddr s x f=>Wm P H s f (BS env x)
 |.field s x f=>uY P s f (BS env x)
 |.indexAddr t x i=>Wr P H t (BS env x) (BS env i)
 |.index t x i=>lU P t (BS env x) (BS env i)
 |.slice t x lo hi mx=>jJ P H t (BS env x) (lo.map (BS env)) (hi.map (BS env)) (mx.map (BS env))
 |.extract x i=>
  match BS env x with
  |.tup vs=>vs[i]?
  |_=>D
 |.makeFunc f a b=>Y (.fn f (a.toList.map (BS env)) (b.toList.map (BS env)))
 |.build t parts=>uF P t (parts.toList.map λp=>(p.1,BS env p.2))
 |.call {callee:=.builtin .len,args:=⟨[x]⟩,argTypes:=⟨[t]⟩}=>qz P H t (BS env x)
 |.call {callee:=.builtin .max,args:=⟨[x,y]⟩,.. }=>mmV E [BS env x,BS env y]
 |.call {callee:=.builtin .min,args:=⟨[x,y]⟩,.. }=>mmV η [BS env x,BS env y]
 |.call {callee:=.builtin .min,args:=⟨[x,y,z]⟩,.. }=>mm3 (BS env x) (BS env y) (BS env z)
 |_=>D
def ADi{P}{N}{X:Nat→Prop}{h}{env}{H}{a}{w}{o:Oper}{v:Ad}(s:St X h N env H a w)(b:Ci P env H o.op=Y v):
  ∃c,(execOp a.eval o).run P w=.ok (.value c) w/\Bz (cx X h H w) v c:=by
 have k:=λx=>Dp s.env x;have d:∀{m:Sem Value},(∃c,m.run P w=.ok c w/\Bz (cx X h H w) v c)->∃c,(do pure (Next.value (<-m)):Sem Next).run P w=.ok (.value c) w/\Bz (cx X h H w) v c:=by rintro m ⟨c,u,hr⟩;exact⟨c,by simp[u],hr⟩
 unfold execOp;cases e:o.op with
 |move x=>rw[e]at b;simp only[Ci,Ar]at b;subst b;exact⟨_,rfl,k x⟩
 |assign x=>rw[e]at b;simp only[Ci,Ar]at b;subst b;exact⟨_,rfl,k x⟩
 |pick c x y=>rw[e]at b;simp only[Ci]at b;split at b;rename_i t ht;have u:=k c;rw[ht]at u;simp only[Ar]at b;subst b;generalize W:a.eval c=cv at u;cases u;simp only[W,asBool];cases t;exact⟨_,q!,k y⟩;exact⟨_,q!,k x⟩;cases b
 |load t x=>rw[e]at b;simp only[Ci]at b;obtain⟨B,ad,D_,E_,hl,hr⟩:=zz s.sim (k x) b;exact d ⟨D_,by rw[E_];simp[Instr.loadAt,Instr.sureAddr,hl],hr⟩
 |nilCheck x=>
  rw[e]at b;simp only[Ci]at b;have z:=k x;split at b;rename_i id g ad E_;rw[E_]at z;split at b;rename_i M;simp only[Ar]at b;subst b;generalize A:a.eval x=c at z;cases z with
  |ptr Y_ S n u=>obtain⟨B,al,rfl⟩:=u (s.sim.cur M);exact⟨_,by simp only[A];rfl,.ptr Y_ S n u⟩
  cases b;rename_i cs E_;rw[E_]at z;simp only[Ar]at b;subst b;generalize A:a.eval x=c at z;cases z with
  |vptr f n r U V=>exact⟨_,by simp only[A];rfl,.vptr f n r U V⟩
  rename_i f p q E_;rw[E_]at z;simp only[Ar]at b;subst b;generalize A:a.eval x=c at z;cases z with
  |fn n r U V=>exact⟨_,by simp only[A];rfl,.fn n r U V⟩
  cases b
 |binOp op t x y yt=>rw[e]at b;simp only[Ci]at b;exact d (AGj w (k x) (k y) b)
 |unOp op t x=>rw[e]at b;simp only[Ci]at b;exact d (AJm w (k x) b)
 |convert p q x=>rw[e]at b;simp only[Ci]at b;exact d (AEl s.sim (k x) b)
 |fieldAddr p x f=>rw[e]at b;simp only[Ci]at b;exact d (vv s.sim (k x) b)
 |field p x f=>rw[e]at b;simp only[Ci]at b;exact d (ADN (k x) b)
 |indexAddr t x i=>rw[e]at b;simp only[Ci]at b;exact d (wC s.sim (k x) (k i) b)
 |index t x i=>rw[e]at b;simp only[Ci]at b;exact d (ADT (k x) (k i) b)
 |slice t x lo hi T=>
  rw[e]at b;simp only[Ci]at b;have G:∀(y:Ω Operand)(v:Ad),y.map (BS env)=Y v->∃c,y.map a.eval=Y c/\Bz (cx X h H w) v c:=by
   intro y v Q;cases y with
   |none=>cases Q
   |some y=>simp only[Bu,Ar]at Q;subst Q;exact⟨_,rfl,k y⟩
  have C:∀(y:Ω Operand),y.map (BS env)=D->y.map a.eval=D:=by
   intro y Q;cases y with
   |none=>rfl
   |some y=>cases Q
  exact d (ADs s.sim (k x) (G lo) (C lo) (G hi) (C hi) (G T) (C T) b)
 |extract x i=>
  rw[e]at b;simp only[Ci]at b;have z:=k x;split at b;rename_i vs E_;rw[E_]at z;generalize u:a.eval x=c at z;cases z with
  | @tup vs R hs Z=>
   have ao:i<θ vs:=by rcases Az i (θ vs) with r|r;exact r;rw[Ct r]at b;cases b
   have S:R[i]?=Y (R[i]' o!):=ON o!;refine d ⟨_,?_,Z i v _ b S⟩;simp only[Instr.extract,u,S];rfl
  cases b
 |makeFunc f p q=>
  rw[e]at b;simp only[Ci,Ar]at b;subst b;have L:∀(p:Array Operand)(j:Nat)(v:Ad)(c:Value),(p.toList.map (BS env))[j]?=Y v->(p.map a.eval)[j]?=Y c->Bz (cx X h H w) v c:=by
   intro p j v c J u;rw[CT,QG]at J;rw[dE]at u;cases O:p[j]? with
   |none=>rw[O]at J;cases J
   |some y=>rw[O]at J u;simp only[Bu,Ar]at J u;subst J u;exact k y
  exact d ⟨_,rfl,.fn q! q! (L p) (L q)⟩
 |build t I=>
  rw[e]at b;simp only[Ci]at b;refine d (AC9 ?_ ?_ b);simp;intro j q q' K F;rw[CT,QG]at K;rw[QG,dE]at F;cases O:I[j]? with
  |none=>rw[O]at K;cases K
  |some y=>rw[O]at K F;simp only[Bu,Ar]at K F;subst K F;exact k y.2
 |call c=>
  rw[e]at b;simp only[Ci]at b;split at b<;>rename_i l<;>first
   |(cases b;done)
   |(cases l;done)
   |skip
  injection l with l;subst l;simp only[resolve,invoke,builtin,Sem.run_bind,Sem.run_pure,Result.andThen_ok,Q3,B4,Hi];obtain⟨D_,n,r⟩:=AHK (ty:=o.type) s.sim (k _) b;exact⟨D_,by rw[n];rfl,r⟩;injection l with l;subst l;simp only[resolve,invoke,builtin,Sem.run_bind,Sem.run_pure,Result.andThen_ok,Q3,B4,Hi];obtain⟨D_,n,r⟩:=AFK (P:=P) (w:=w) (mx:=E) (ts:=_) (ty:=o.type) (k _) (k _) b;exact⟨D_,by simp only[if_true]at n;rw[n];rfl,r⟩;injection l with l;subst l;simp only[resolve,invoke,builtin,Sem.run_bind,Sem.run_pure,Result.andThen_ok,Q3,B4,Hi];obtain⟨D_,n,r⟩:=AFK (P:=P) (w:=w) (mx:=η) (ts:=_) (ty:=o.type) (k _) (k _) b;exact⟨D_,by simp only[QH,if_false]at n;rw[n];rfl,r⟩;injection l with l;subst l;simp only[resolve,invoke,builtin,Sem.run_bind,Sem.run_pure,Result.andThen_ok,Q3,B4,Hi];obtain⟨D_,n,r⟩:=AHP (P:=P) (w:=w) (ts:=_) (ty:=o.type) (k _) (k _) (k _) b;exact⟨D_,by rw[n];rfl,r⟩
 |_=>rw[e]at b;simp[Ci]at b
def Du{P}{N}{H}{v:Ad}(b:Ci P m H o.op=Y v)(e:R v H):Jw P N o m H R:=by apply C9 (by cases f:o.op<;>first|rfl|(rw[f]at b;simp[Ci]at b));intro X h a w s Q;obtain⟨c,d,hr⟩:=ADi s b;unfold Oper.wp;rw[d,Oper.upon_value];exact⟨c,v,h,H,rfl,e,hr,s.sim,HM.refl _ _ _⟩
section
variable {X:Nat->Prop}{h:Gh}{H:Aw}{w:World}
def Gh.at_(h:Gh)(id:S)(io:Ω S)(gen cap:S):Gh:=
 ⟨λi=>if i=id then io else h.io i,λi=>if i=id then gen else h.gen i,λi=>if i=id then cap else h.cap i⟩
def Holds(x:Cx)(cs:Ψ Ad)(arr:Array Value)(fz:S×S):Prop:=
 ∃f:S->Value,W cs<=arr.size/\(∀i,i<arr.size->(τ (fz.1<=i)&&τ (i<fz.2))=η)/\
  ∀(j:S)(v:Ad),cs[j]?=Y v->arr[j]?=Y (f j)/\(f j).oneCell'=E/\Bz x v (f j)
def Qi(c:Bz r (.agg g) (.agg y)):Holds r g y (0,0):=by
 cases c with
 |agg l h k=>
  refine⟨λj=>y.getD j undef,o!,λi _=>q!,λj v f=>?_⟩;have b:j<y.size:=by rcases Az j (W g) with x|x;omega;rw[Ct x]at f;cases f
  have d:y[j]?=Y (y[j]):=ON b;have e:y.getD j undef=y[j]:=by simp[b]
  show y[j]?=Y (y.getD j undef)/\(y.getD j undef).oneCell'=E/\Bz r v (y.getD j undef);rw[e];exact⟨d,h j _ d,k j v _ f d⟩
def JT.of_ext'{i:Gh}{p:Aw}(s:JT X h H w)(V:HM h H w i p d)
  (key:∀(id:Nat)(e:Ft),p[id]?=Y e->e≠.dead->(H[id]?=Y e/\i.gen id=h.gen id/\i.io id=h.io id/\i.cap id=h.cap id/\∀B,h.io id=Y B->d.heap[B]?=w.heap[B]?)\/((∃g K,e=.live g K/\AB5 (cx X i p d) id g K)\/(∃L,e=.lp L/\xc (cx X i p d) id L)\/(e.isB=E/\BAt i d id e)))
  (inj:∀(id x:Nat)(e W:Ft)(B:Nat),p[id]?=Y e->p[x]?=Y W->e≠.dead->W≠.dead->i.io id=Y B->i.io x=Y B->id=x):JT X i p d:=by
 have hl:=V.later X;refine⟨λB l=>⟨DM (s.out B l).1 V.size,λN=>?_⟩,λid g K I=>?_,λid L I=>?_,inj,λid e I l=>?_⟩;rcases V.fresh B N with N|N;exact(s.out B l).2 N;have:=(s.out B l).1;omega;rcases key id _ I q! with⟨c,y,q,M,z⟩|⟨Y_,D_,e,hn⟩|⟨L,e,_⟩|⟨e,_⟩;obtain⟨T,J⟩:=s.live id g K c;refine⟨y.trans T,?_⟩;rcases J with⟨hn,rfl⟩|⟨B,C,T',P,f,A,R,G,U,S,o⟩;exact .inl ⟨q.trans hn,rfl⟩;refine .inr ⟨B,C,T',P,f,q.trans A,(z B A).trans R,G.trans M.symm,U,S,λj v hj=>?_⟩;obtain⟨p1,p2,p3⟩:=o j v hj;exact⟨p1,p2,p3.later hl⟩;injection e with a b;subst a b;exact hn;cases e;cases e;rcases key id _ I q! with⟨c,y,q,M,z⟩|⟨Y_,D_,e,hn⟩|⟨L',e,hn⟩|⟨e,_⟩;obtain⟨T,B,r,A,R,u,E_,F,Q,h5,h6,Z⟩:=s.lp id L c;exact⟨y.trans T,B,r,q.trans A,(z B A).trans R,u,E_,F,Q,h5,h6,λt v m=>⟨(Z t v m).1,(Z t v m).2.later hl⟩⟩;cases e;injection e with a;subst a;exact hn;cases e;rcases key id _ I (by rintro rfl;cases l)with⟨c,y,q,M,z⟩|⟨Y_,D_,e,hn⟩|⟨L',e,hn⟩|⟨_,hn⟩;cases e with
 |mp k es=>obtain⟨B,O,u,E_,F,Q⟩:=s.bld id _ c l;exact⟨B,O,q.trans u,y.trans E_,(z B u).trans F,Q⟩
 |it n seen=>obtain⟨B,u,E_,F⟩:=s.bld id _ c l;exact⟨B,q.trans u,y.trans E_,by rw[M];exact(z B u).trans F⟩
 |_=>cases l
 subst e;cases l;subst e;cases l;exact hn
def JT.of_ext{a:Gh}{b:Aw}(s:JT X h H w)(m:HM h H w a b d)
  (key:∀(id:S)(e:Ft),b[id]?=Y e->e≠.dead->(H[id]?=Y e/\a.gen id=h.gen id/\a.io id=h.io id/\a.cap id=h.cap id/\∀B,h.io id=Y B->d.heap[B]?=w.heap[B]?)\/((∃g j,e=.live g j/\AB5 (cx X a b d) id g j)\/∃L,e=.lp L/\xc (cx X a b d) id L))
  (inj:∀(id c:S)(e k:Ft)(B:S),b[id]?=Y e->b[c]?=Y k->e≠.dead->k≠.dead->a.io id=Y B->a.io c=Y B->id=c):JT X a b d:=
 s.of_ext' m (λi e l f=>(key i e l f).imp id λh=>h.imp id .inl) inj
def JR{e:Ft}(a:(H++[B])[N]?=Y e):(N<W H/\H[N]?=Y e)\/(N=W H/\e=B):=by rcases Q9 N (W H) with b|rfl|c;rw[CZ b]at a;exact .inl ⟨b,a⟩;rw[Cn (Al _),G2]at a;simp at a;exact .inr ⟨rfl,a.symm⟩;rw[Ct w!]at a;cases a
def Jv{e:Ft}(c:N<W H)(a:(H.set N B)[n]?=Y e):(n≠N/\H[n]?=Y e)\/(n=N/\e=B):=by by_cases b:n=N;subst b;rw[HB c]at a;simp at a;exact .inr ⟨rfl,a.symm⟩;rw[Dc (b ·.symm)]at a;exact .inl ⟨b,a⟩
def HM.push(o:Obj)(cap:S)(E_:Ft):
  HM h H w (h.at_ (W H) (Y w.heap.size) 0 cap) (H++[E_]) {w with heap:=w.heap.push o}where
 os:=rfl
 tape:=rfl
 output:=rfl
 size:=q!
 keep B hB _:=by simp[UB,Bq hB]
 n:=q!
 gen id hid:=by simp[Gh.at_,Bq hid]
 same id hid _:=by simp[Gh.at_,Bq hid]
 fresh B ho:=by obtain⟨id,e,b,d,a⟩:=ho;rcases JR b with⟨c,b⟩|⟨rfl,rfl⟩;exact .inl ⟨id,e,b,d,by simpa[Gh.at_,Bq c]using a⟩;simp[Gh.at_]at a;exact .inr o!
 loops B r hB:=⟨r,by have:=P1 hB;simp[UB,Bq this,hB]⟩
def JT.push_any(s:JT X h H w)(o:Obj)(cap:S)(E_:Ft)
  (t:E_≠.dead->((∃g l,E_=.live g l/\AB5 (cx X (h.at_ (W H) (Y w.heap.size) 0 cap) (H++[E_]) {w with heap:=w.heap.push o}) (W H) g l)\/∃L,E_=.lp L/\xc (cx X (h.at_ (W H) (Y w.heap.size) 0 cap) (H++[E_]) {w with heap:=w.heap.push o}) (W H) L)):
  JT X (h.at_ (W H) (Y w.heap.size) 0 cap) (H++[E_]) {w with heap:=w.heap.push o}:=by
 refine s.of_ext (HM.push o cap E_) (λid e f d=>?_) λid u e v B p q b c i j=>?_;rcases JR f with⟨a,f⟩|⟨rfl,rfl⟩;refine .inl ⟨f,by simp[Gh.at_,Bq a],by simp[Gh.at_,Bq a],by simp[Gh.at_,Bq a],λB k=>?_⟩;have:=s.io_at f d k;simp[UB,Bq this];exact .inr (t d);rcases JR p with⟨l1,m⟩|⟨rfl,_⟩<;>rcases JR q with⟨l2,n⟩|⟨rfl,_⟩;exact s.inj _ _ _ _ B m n b c (by simpa[Gh.at_,Bq l1]using i) (by simpa[Gh.at_,Bq l2]using j);have r:=s.io_at m b (by simpa[Gh.at_,Bq l1]using i);simp[Gh.at_]at j;omega;have r:=s.io_at n c (by simpa[Gh.at_,Bq l2]using j);simp[Gh.at_]at i;omega;rfl
def JT.push(s:JT X h H w)(a:Array Value)(T:TypeId)(c:S×S)(g:List Ad)(i:Holds (cx X h H w) g a c):
  JT X (h.at_ H.length (some w.heap.size) 0 a.size) (H++[.live 0 g]) {w with heap:=w.heap.push (.cells a T c)}:=by
 refine s.push_any _ _ _ λ_=>.inl ⟨0,g,rfl,?_⟩;obtain⟨f,e,d,b⟩:=i;refine⟨by simp[cx,Gh.at_],.inr ⟨w.heap.size,a,T,c,f,by simp[cx,Gh.at_],by show(w.heap.push (.cells a T c))[w.heap.size]? =_;simp,by simp[cx,Gh.at_],e,d,λj v k=>?_⟩⟩;obtain⟨l,m,n⟩:=b j v k;exact⟨l,m,n.later ((HM.push _ _ _).later X)⟩
def JT.upd(s:JT X h H w){id g g' B:Nat}{K cs':List Ad}{arr:Array Value}{T:TypeId}{fz:Nat×Nat}{w':World}(y:H[id]? =some (Ft.live g K))(hg:g≤g')
  (z:g'=g->h.io id=some B/\h.cap id=arr.size) (a:h.io id=some B\/w.heap.size<=B) (hb:w'.heap[B]? =some (.cells arr T fz)) (N: ∀k,k<w.heap.size->k≠B->w'.heap[k]? =w.heap[k]?)
  (R:w'.os=w.os) (C:w'.tape=w.tape) (G:w'.output=w.output) (A:w.heap.size<=w'.heap.size) (hh:Holds (cx X h H w) cs' arr fz):
  JT X (h.at_ id (some B) g' arr.size) (H.set id (.live g' cs')) w'/\HM h H w (h.at_ id (some B) g' arr.size) (H.set id (.live g' cs')) w':=by
 have q:id<H.length:=by rcases Az id H.length with o|o;exact o;rw[Ct o]at y;cases y
 have u:h.gen id=g:=(s.live id g K y).1;have S:HM h H w (h.at_ id (some B) g' arr.size) (H.set id (.live g' cs')) w':=by refine⟨R,C,G,A,λk O hn=>?_,q!,λi n=>?_,λi n e=>?_,λk ho=>?_,λk r hr=>⟨r,?_⟩⟩;refine N k O λe=>?_;subst e;rcases a with a|a;exact hn ⟨id,_,y,q!,a⟩;omega;by_cases e:i=id;subst e;simp[Gh.at_,u,hg];simp[Gh.at_,e];by_cases Z:i=id;subst Z;simp only[Gh.at_,if_true]at e⊢;have:=z (e.trans u);exact⟨this.1.symm,this.2.symm⟩;simp[Gh.at_,Z];obtain⟨i,d,t,b,o⟩:=ho;rcases Jv q t with⟨n,l⟩|⟨rfl,_⟩;exact .inl ⟨i,d,l,b,by simpa[Gh.at_,n]using o⟩;simp[Gh.at_]at o;subst o;rcases a with a|a;exact .inl ⟨i,_,y,q!,a⟩;exact .inr a;have Q:=P1 hr;refine(N k Q λe=>?_).trans hr;subst e;rcases a with a|a;rcases(s.live id g K y).2 with⟨hn,_⟩|⟨W,Y_,T',ad,f',x,D_,_⟩;rw[show(cx X h H w).io id=h.io id from rfl,a]at hn;cases hn;rw[show(cx X h H w).io id=h.io id from rfl,a]at x;injection x with e;subst e;rw[show(cx X h H w).w.heap=w.heap from rfl,hr]at D_;cases D_;omega
 have hl:=S.later X;have c: ∀{i:Nat} {d:Ft},i≠id->H[i]? =some d->d≠ .dead->h.io i=some B->False:=by intro i d n t b m;rcases a with a|a;exact n (s.inj i id d _ B t y b q! m a);have:=s.io_at t b m;omega
 refine⟨s.of_ext S (λi d t b=>?_) (λi i' d L k t o E_ F I J=>?_),S⟩;rcases Jv q t with⟨n,l⟩|⟨rfl,rfl⟩;refine .inl ⟨l,by simp[Gh.at_,n],by simp[Gh.at_,n],by simp[Gh.at_,n],λW m=>N W (s.io_at l b m) λe=>?_⟩;subst e;exact c n l b m;obtain⟨f,P,M,p⟩:=hh;refine .inr (.inl ⟨g',cs',rfl,by simp[cx,Gh.at_],.inr ⟨B,arr,T,fz,f,by simp[cx,Gh.at_],hb,by simp[cx,Gh.at_],P,M,λj v hj=>?_⟩⟩);obtain⟨p1,p2,p3⟩:=p j v hj;exact⟨p1,p2,p3.later hl⟩;rcases Jv q t with⟨U,d⟩|⟨rfl,_⟩<;>rcases Jv q o with⟨V,L⟩|⟨rfl,_⟩;exact s.inj _ _ _ _ k d L E_ F (by simpa[Gh.at_,U]using I) (by simpa[Gh.at_,V]using J);simp[Gh.at_]at J;subst J;exact(c U d E_ (by simpa[Gh.at_,U]using I)).elim;simp[Gh.at_]at I;subst I;exact(c V L F (by simpa[Gh.at_,V]using J)).elim;rfl
end
def ADP{c:S×S}(h:d.heap[N]?=Y (.cells y b c))(a:S):d.frozen? ⟨N,a,D⟩=(τ (c.1<=a)&&τ (a<c.2)):=by unfold World.frozen?;rw[h]
def Vo{P:Program}{B off:S}{T:TypeId}{h:S×S}:∀(g:Ψ Value)(i:S)a(w:World),w.heap[B]?=Y (.cells a T h)→off+i+W g≤a.size→
  (∀j,j<a.size->(τ (h.1<=j)&&τ (j<h.2))=η)->(∀v∈g,v.oneCell'=E)->
  ∃d b,(storeCells ⟨B,off,D⟩ g i).run P w=.ok () d/\d.heap[B]?=Y (.cells b T h)/\b.size=a.size/\(∀j,b[j]?=if off+i<=j/\j<off+i+W g then g[j-(off+i)]? else a[j]?)/\(∀k,k≠B->d.heap[k]?=w.heap[k]?)/\d.os=w.os/\d.tape=w.tape/\d.output=w.output/\d.heap.size=w.heap.size
 |[],i,a,w,hb,_,_,_=>⟨w,a,rfl,hb,rfl,λj=>by rw[D! q!],λ_ _=>rfl,rfl,rfl,rfl,rfl⟩
 |v::g,i,a,w,hb,hle,hfz,h1=>by
  simp only[Bh]at hle;have o:w.cell? ⟨B,off+i,D⟩=Y (a[off+i]' o!):=by rw[QK (w:=w) hb];exact ON o!
  have p:w.frozen? ⟨B,off+i,D⟩=η:=by rw[ADP hb];exact hfz _ o!
  have c:(store ⟨B,off+i,D⟩ v).run P w=.ok () (w.setCell ⟨B,off+i,D⟩ v):=by rw[run_store P w _ v .plain (h1 v q!),o];simp[p]
  have l:(w.setCell ⟨B,off+i,D⟩ v).heap[B]?=Y (.cells (a.setIfInBounds (off+i) v) T h):=by simp[World.setCell,cw,hb]
  obtain⟨d,b,r,s,t,x,y,z,A,C,D_⟩:=Vo (P:=P) (off:=off) g (i+1) (a.setIfInBounds (off+i) v) (w.setCell ⟨B,off+i,D⟩ v) l w!
   (by simpa using hfz) (λu q=>h1 u (Ca _ q))
  refine⟨d,b,?_,s,by rw[t];simp,λj=>?_,λk n=>?_,z,A,C,by rw[D_];simp[World.setCell]⟩;simp only[storeCells,PH,Sem.run_bind,c,Result.andThen_ok];exact r;rw[x];by_cases m:j=off+i;subst m;rw[D! o!,C! q!,Array.getElem?_setIfInBounds_self_of_lt o!];simp;by_cases f:off+(i+1)<=j/\j<off+(i+1)+W g;rw[C! f,C! w!,show j-(off+i)=(j-(off+(i+1)))+1 from by omega];rfl;rw[D! f,D! w!,wK (m ·.symm)];rw[y k n];simp[World.setCell,cw,PM n]
section
variable {P:Program}{N:Nat}{o:Oper}{env:Env}{H:Aw}{K:Ad->Aw->Prop}
def Jw.alloc(d:o.op=.alloc b)(t:Zk P b=Y g)(f:K (.ptr (W H) 0 0) (H++[.live 0 g])):Jw P N o env H K:=by
 apply C9 (by rw[d];rfl);intro X h a w s Q;obtain⟨i,v,e,c,j⟩:=ff (cx X h H w) t;have z:(execOp a.eval o).run P w=.ok (.value (.pointer (Y ⟨w.heap.size,0,D⟩))) {w with heap:=w.heap.push (.cells v.cells b)}:=by unfold execOp;rw[d];simp[Instr.alloc,zeroValue,typeInfo,e,c,newVar,newRow]
 unfold Oper.wp;rw[z,Oper.upon_value];refine⟨_,_,_,_,rfl,f,?_,s.sim.push v.cells b (0,0) g (Qi j),HM.push _ _ _⟩;exact .ptr (by simp[cx]) (by simp[cx,Gh.at_]) rfl λ_=>⟨w.heap.size,by simp[cx,Gh.at_],rfl⟩
def Jw.box(c:o.op=.box b q)(g:BS env q=k)(f:k.solid=E)(e:K (.ptr (W H) 0 0) (H++[.live 0 k.cells])):Jw P N o env H K:=by
 apply C9 (by rw[c];rfl);intro X h a w s Q;have d:=Dp s.env q;rw[g]at d;have i:=XW d f;have t:(execOp a.eval o).run P w=.ok (.value (.pointer (Y ⟨w.heap.size,0,D⟩))) {w with heap:=w.heap.push (.cells (a.eval q).cells b)}:=by unfold execOp;rw[c];simp[Instr.box,newVar,newRow]
 unfold Oper.wp;rw[t,Oper.upon_value];refine⟨_,_,_,_,rfl,e,?_,s.sim.push _ b (0,0) k.cells (Qi i),HM.push _ _ _⟩;exact .ptr (by simp[cx]) (by simp[cx,Gh.at_]) rfl λ_=>⟨w.heap.size,by simp[cx,Gh.at_],rfl⟩
def Jw.store{y:Operand}{id g off:Nat}{v:Ad}{cs:Ψ Ad}{b:Bool}(ho:o.op=.store Z q y)(hx:BS env q=.ptr id g off)(hy:BS env y=v)(hs:v.solid=E)
  (he:H[id]?=Y (Ft.live g cs)) (ht:tI P Z=Y (b,θ v.cells)) (J:off+θ v.cells<=θ cs) (V:K .any (H.set id (.live g (XV cs off v.cells)))):Jw P N o env H K:=by
 apply C9 (by rw[ho];rfl);intro X h a w s Q;have t:=Dp s.env q;rw[hx]at t;have Y_:=Dp s.env y;rw[hy]at Y_;have rz:=XW Y_ hs;obtain⟨I,F⟩:=s.sim.live id g cs he;obtain⟨B,i,S⟩:∃B,h.io id=Y B/\a.eval q=.pointer (Y ⟨B,off,D⟩):=by
  generalize a.eval q=c at t;cases t with
  |ptr al O h1 hc=>obtain⟨B,i,rfl⟩:=hc I;exact⟨B,i,rfl⟩
 rcases F with⟨hn,_⟩|⟨B',D_,T,R,f,z,hb,E_,ad,G,m⟩;rw[show(cx X h H w).io id=h.io id from rfl,i]at hn;cases hn;rw[show(cx X h H w).io id=h.io id from rfl,i]at z;injection z with e;subst e;generalize U:a.eval y=c at Y_ rz;obtain⟨M,A,W⟩:c.cells.size=θ v.cells/\(∀(j:Nat)(d:Value),c.cells[j]?=Y d->d.oneCell'=E)/\(∀(j:Nat)(u:Ad)(d:Value),v.cells[j]?=Y u->c.cells[j]?=Y d->Bz (cx X h H w) u d):=by cases rz with|agg p x r=>exact⟨p,x,r⟩
 obtain⟨w',n,p1,p2,p3,p4,p5,p6,p7,p8,p9⟩:=Vo (P:=P) (off:=off) c.cells.toList 0 D_ w hb w! G (λd hd=>by obtain⟨j,C⟩:=Db hd;exact A j d (by simpa using C));have L:(execOp a.eval o).run P w=.ok .skip w':=by unfold execOp;rw[ho];simp only[S,U,Instr.storeAt,Instr.sureAddr,Sem.run_bind,Sem.run_pure,Result.andThen_ok,storeVar,Lr ht];rw[D! (by simp[M])];simp only[Result.andThen_ok,p1]
 have hh:Holds (cx X h H w) (XV cs off v.cells) n R:=by
  refine⟨λj=>if off<=j/\j<off+θ v.cells then c.cells.getD (j-off) undef else f j,by rw[lj J];omega,by rw[p3];exact G,λj u C=>?_⟩;rw[vU J]at C;rw[p4];simp only[NT,Dy,M,QG];split at C;rename_i l;rw[C! l,C! l];have hl:j-off<c.cells.size:=o!
  have O:c.cells[j-off]?=Y (c.cells[j-off]):=ON hl;have e:c.cells.getD (j-off) undef=c.cells[j-off]:=by simp[hl]
  rw[e];exact⟨O,A _ _ O,W _ u _ C O⟩;rename_i l;rw[D! l,D! l];exact m j u C
 obtain⟨q1,q2⟩:=s.sim.upd (g':=g) (B:=B) (arr:=n) (T:=T) (fz:=R) (w':=w') he (Al _) (λ_=>⟨i,by rw[p3];exact E_.symm⟩) (.inl i) p2 (λk _ V=>p5 k V) p6 p7 p8 (by rw[p9];exact Al _) hh;unfold Oper.wp;rw[L,Oper.upon_skip];exact⟨_,_,_,_,rfl,V,.any _,q1,q2⟩
end
section
variable {X:Nat->Prop}{h:Gh}{H:Aw}{w w':World}
def HM.grow(b:w'.os=w.os)(f:w'.tape=w.tape)(d:w'.output=w.output)(e:w.heap.size<=w'.heap.size)(c:∀k,k<w.heap.size->w'.heap[k]?=w.heap[k]?):HM h H w h H w':=⟨b,f,d,e,λB a _=>c B a,Al _,λ_ _=>Al _,λ_ _ _=>⟨rfl,rfl⟩,λ_ h=>.inl h,λB r a=>⟨r,(c B (P1 a)).trans a⟩⟩
def JT.grow(s:JT X h H w)(c:w'.os=w.os)(i:w'.tape=w.tape)(f:w'.output=w.output)(g:w.heap.size<=w'.heap.size)(e:∀k,k<w.heap.size->w'.heap[k]?=w.heap[k]?):JT X h H w':=s.of_ext (HM.grow c i f g e) (λ_ _ d b=>.inl ⟨d,rfl,rfl,rfl,λB a=>e B (s.io_at d b a)⟩) s.inj
def HM.virt:HM h H w (h.at_ (W H) D 0 0) (H++[.live 0 []]) w where
 os:=rfl
 tape:=rfl
 output:=rfl
 size:=Al _
 keep B _ _:=rfl
 n:=q!
 gen id hid:=by simp[Gh.at_,Bq hid]
 same id hid _:=by simp[Gh.at_,Bq hid]
 fresh B ho:=by obtain⟨id,e,b,d,a⟩:=ho;rcases JR b with⟨c,b⟩|⟨rfl,rfl⟩;exact .inl ⟨id,e,b,d,by simpa[Gh.at_,Bq c]using a⟩;simp[Gh.at_]at a
 loops B r hB:=⟨r,hB⟩
theorem JT.virt(s:JT X h H w):JT X (h.at_ (W H) D 0 0) (H++[.live 0 []]) w:=by refine s.of_ext HM.virt (λid e f m=>?_) λid n e o B j k a b c d=>?_;rcases JR f with⟨l,f⟩|⟨rfl,rfl⟩;grind[Gh.at_];exact .inr (.inl ⟨0,[],rfl,by simp[cx,Gh.at_],.inl ⟨by simp[cx,Gh.at_],rfl⟩⟩);rcases JR j with⟨l1,g⟩|⟨rfl,_⟩<;>rcases JR k with⟨l2,i⟩|⟨rfl,_⟩;exact s.inj _ _ _ _ B g i a b (by simpa[Gh.at_,Bq l1]using c) (by simpa[Gh.at_,Bq l2]using d);simp[Gh.at_]at d;simp[Gh.at_]at c;rfl
def JT.bump(s:JT X h H w){id g:S}{cs}(n:H[id]?=Y (Ft.live g cs))(hn:h.io id=D):
  JT X (h.at_ id D (g+1) (h.cap id)) (H.set id (.live (g+1) [])) w/\HM h H w (h.at_ id D (g+1) (h.cap id)) (H.set id (.live (g+1) [])) w:=by
 have a:id<W H:=by rcases Az id (W H) with b|b;exact b;rw[Ct b]at n;cases n
 have c:h.gen id=g:=(s.live id g cs n).1;have own:∀B,owned (h.at_ id D (g+1) (h.cap id)) (H.set id (.live (g+1) [])) B->owned h H B:=by rintro B ⟨i,e,j,l,b⟩;rcases Jv a j with⟨f,d⟩|⟨rfl,_⟩;exact⟨i,e,d,l,by simpa[Gh.at_,f]using b⟩;simp[Gh.at_]at b
 have u:HM h H w (h.at_ id D (g+1) (h.cap id)) (H.set id (.live (g+1) [])) w:=by refine⟨rfl,rfl,rfl,Al _,λk A hn=>rfl,q!,λi f=>?_,λi f e=>?_,λB C=>.inl (own B C),λB r y=>⟨r,y⟩⟩;by_cases e:i=id;subst e;simp[Gh.at_,c];simp[Gh.at_,e];by_cases m:i=id;subst m;simp[Gh.at_,c]at e;simp[Gh.at_,m]
 refine⟨s.of_ext u (λi e j l=>?_) (λi F e m k j b o p q t=>?_),u⟩;rcases Jv a j with⟨f,d⟩|⟨rfl,rfl⟩;exact .inl ⟨d,by simp[Gh.at_,f],by simp[Gh.at_,f],by simp[Gh.at_,f],λB z=>rfl⟩;exact .inr (.inl ⟨g+1,[],rfl,by simp[cx,Gh.at_],.inl ⟨by simp[cx,Gh.at_],rfl⟩⟩);rcases Jv a j with⟨D_,v⟩|⟨rfl,_⟩<;>rcases Jv a b with⟨E_,x⟩|⟨rfl,_⟩;exact s.inj _ _ _ _ k v x o p (by simpa[Gh.at_,D_]using q) (by simpa[Gh.at_,E_]using t);simp[Gh.at_]at t;simp[Gh.at_]at q;rfl
end
def Kg(H:Aw)(sz:S):Ad->Ω (S×Ψ Ad)
 |.vs sz' rows=>if sz=sz' then Y (W rows,rows.flatMap Ad.cells)else D
 |.sl id g sz' off len=>
  match H[id]? with
  |some (.live g' cs)=>if g=g'/\sz=sz'/\off+len*sz<=W cs then Y (len,(cs.drop off).take (len*sz))else D
  |_=>D
 |.nils=>Y (0,[])
 |_=>D
theorem O9{P:Program}{X:Nat→Prop}{h}{H}{w}{v}{c}{sz m:Nat}{J:Ψ Ad}(s:JT X h H w)(r:Bz (cx X h H w) v c)(N:0<sz)(hr:Kg H sz v=Y (m,J)):
  ∃a cap S,c=.slice a m cap/\θ J=m*sz/\nW (cx X h H w) J S/\(∀u∈S,u.oneCell'=E)/\(Builtin.lenOf c).run P w=.ok m w/\(Builtin.firstCells sz m c).run P w=.ok S.toArray w:=by
 cases r with
 |nils=>simp only[Kg,Ar,Ee]at hr;obtain⟨rfl,rfl⟩:=hr;exact⟨D,0,[],rfl,q!,⟨rfl,λ_ _ _ h=>by cases h⟩,(λ_ h=>by cases h),rfl,rfl⟩
 | @vs R b a cap f y Z D_ ha hv=>
  simp only[Kg]at hr;split at hr;rename_i F;subst F;simp only[Ar,Ee]at hr;obtain⟨rfl,rfl⟩:=hr;have q:=rS D_;cases b with
  |nil=>refine⟨a,cap,[],rfl,q!,⟨rfl,λ_ _ _ h=>by cases h⟩,(λ_ h=>by cases h),rfl,?_⟩;cases a<;>simp[Builtin.firstCells,loadCells,loadCellsFrom]
  |cons e0 E_=>
   obtain⟨B,k,rfl,hO,hB,L⟩:=ha q!;generalize e0::E_=b at*;have K:∀j,j<θ b*sz->∃e v,b[j/sz]?=Y e/\e.cells[j%sz]?=Y v:=by intro j o;have F:j/sz<θ b:=(Nat.div_lt_iff_lt_mul N).2 o;have I:b[j/sz]?=Y (b[j/sz]):=Au F;grind[Nat.mod_lt,m?]
   refine⟨_,cap,(List.range (θ b*sz)).map λj=>f (j/sz) (j%sz),rfl,q,⟨by simp[q],λj v d o G=>?_⟩,λu O=>?_,rfl,?_⟩;grind[flat_get,Nat.lt_or_ge,u?,List.getElem?_range,Option.some.injEq];grind;have:=run_loadCells (P:=P) w ⟨B,k,D⟩ (θ b*sz) (λj=>f (j/sz) (j%sz)) λj o=>by obtain⟨e,v,I,Q⟩:=K j o;rw[PH];have V:=(L _ e _ v I Q).1;rw[Nat.div_add_mod' j sz]at V;exact V
   grind[Builtin.firstCells]
  cases hr
 | @sl id g R k len c ao hg F L=>
  simp only[Kg]at hr;split at hr;rename_i g' l I;split at hr;rename_i x;obtain⟨rfl,rfl,ap⟩:=x;simp only[Ar,Ee]at hr;obtain⟨rfl,rfl⟩:=hr;obtain⟨A,z⟩:=s.live id g l I;rcases L A with⟨n,rfl,rfl,rfl⟩|⟨B,cap,n,y,M,rfl⟩;exact⟨D,0,[],rfl,q!,⟨q!,λ_ _ _ _ h=>by cases h⟩,(λ_ h=>by cases h),rfl,rfl⟩;rcases z with⟨hn,_⟩|⟨U,ad,T,fz,f,p,hb,W,Y_,al,i⟩;rw[hn]at n;cases n;have:U=B:=by rw[n]at p;injection p with e;exact e.symm
  subst this;refine⟨_,cap,(List.range (len*sz)).map λj=>f (k+j),rfl,w!,⟨w!,λj v d o G=>?_⟩,λu O=>?_,rfl,?_⟩;have C:j<len*sz:=by grind[Nat.lt_or_ge,u?]
  rw[dD,C! C,KD]at o;rw[CT,Rn C]at G;simp only[Bu,Ar]at G;subst G;exact(i _ v o).2.2;simp only[Bp,IJ]at O;obtain⟨j,o,rfl⟩:=O;have t:l[k+j]?=Y (l[k+j]' o!):=Au o!;exact(i _ _ t).2.1;have:=run_loadCells (P:=P) w ⟨U,k,D⟩ (len*sz) (λj=>f (k+j)) λj o=>by have t:l[k+j]?=Y (l[k+j]' o!):=Au o!;rw[PH,QK (w:=w) hb];exact(i _ _ t).1
  simpa[Builtin.firstCells]using this;cases hr;cases hr
 |_=>simp only[Kg]at hr;cases hr
theorem ABW(a b:S)(h:b<a):Builtin.nextslicecap a b<=2*a+2048:=by grind[Builtin.nextslicecap,Builtin.growBy]
def Sq(P:Program)(e:TypeId):Bool:=
 match P.info? e with
 |some i=>decide (i.bytes<=1048576)&&(match i.zero with|some z=>decide (z.cells.size=i.size)|none=>η)
 |none=>η
section
variable {P:Program}{N:Nat}{o:Oper}{env:Env}{H:Aw}{K:Ad->Aw->Prop}
theorem Uw(h:Sq P b=E):∃i z,P.info? b=Y i/\i.bytes<=1048576/\i.zero=Y z/\z.cells.size=i.size:=by grind[Sq]
theorem mi(h:tI P b=Y (O,n))(a:P.info? b=Y V):V.size=n:=by unfold tI at h;grind
theorem Jw.buildSlice{t e:TypeId}{len sz:Nat}{f:Array (Nat×Operand)}{W:Ψ Ad}(ho:o.op=.buildSlice t len f)(he:eI P t=Y (D,e,sz))(a0:0<sz)(a5:Sq P e=E)
  (C:f.toList.map (·.1)=List.range len) (a7:f.toList.map (BS env ·.2)=W) (O:∀v∈W,v.solid=E/\θ v.cells=sz) (L:len<=4096/\sz<=4096) (hk:K (.vs sz W) H):Jw P N o env H K:=by
 apply C9 (by rw[ho];rfl);intro X h a w s Q;obtain⟨a1,b,hi⟩:=RI he;obtain⟨i,z,D_,_,hz,a8⟩:=Uw a5;have A:=mi hi D_;have V:θ W=len:=by have n:=E! θ C;grind[θ]
 let g:Ψ Value:=f.toList.map λp=>a.eval p.2;have U:θ g=len:=by grind[θ]
 have M:∀(j:Nat)(v:Ad)(c:Value),W[j]?=Y v->g[j]?=Y c->Bz (cx X h H w) (.agg v.cells) (.agg c.cells)/\θ v.cells=sz:=by
  intro j v c G Y_;have hm:=O v (BP G);refine⟨?_,hm.2⟩;subst a7;simp only[g,CT]at G Y_;cases Z:f.toList[j]? with
  |none=>rw[Z]at G;cases G
  |some p=>rw[Z]at G Y_;simp only[Bu,Ar]at G Y_;subst G Y_;exact XW (Dp s.env p.2) hm.1
 have y:∀c∈g,c.cells.size=sz:=by
  intro c Y_;obtain⟨j,B⟩:=Db Y_;have E_:j<θ W:=by grind[Nat.lt_or_ge,u?]
  obtain⟨n,r⟩:=M j _ c (Au E_) B;cases n<;>grind
 have R:(f.map λq=>(q.1,a.eval q.2)).toList=(g.zipIdx 0).map λx=>(x.2,x.1):=by
  apply JW;intro j;simp only[Array.toList_map,CT,List.getElem?_zipIdx,DY,g];cases Z:f.toList[j]? with
  |none=>rfl
  |some p=>
   have n:(f.toList.map (·.1))[j]?=Y p.1:=by rw[CT,Z];rfl
   rw[C]at n;have E_:j<len:=by rcases Az j len with r|r;exact r;rw[Ct (by simpa using r)]at n;cases n
   rw[Rn E_]at n;simp only[Ar]at n;simp[n]
 have a4:(g.flatMap λc=>c.cells.toList).length=len*sz:=by
  clear R;have:∀l:Ψ Value,(∀c∈l,c.cells.size=sz)->(l.flatMap λc=>c.cells.toList).length=θ l*sz:=by
   intro l;induction l with
   |nil=>simp
   |cons c l ih=>intro V;simp only[Ih,AZ,Dy,V c q!,ih (λd I=>V d (Ca _ I)),Bh,EJ];omega
  rw[this g y,U]
 have al:∀(j:Nat)(c:Value)(q:Nat)(d:Value),g[j]?=Y c->c.cells[q]?=Y d->(g.flatMap λc=>c.cells.toList)[j*sz+q]?=Y d:=by
  have:∀(l:Ψ Value),(∀c∈l,c.cells.size=sz)->∀(j:Nat)(c:Value)(q:Nat)(d:Value),l[j]?=Y c->c.cells[q]?=Y d->(l.flatMap λc=>c.cells.toList)[j*sz+q]?=Y d:=by
   intro l;induction l with
   |nil=>intro _ j c q d B;simp at B
   |cons c0 l ih=>
    intro V j c q d B I;simp only[Ih];have h0:=V c0 q!;cases j with
    |zero=>simp at B;subst B;rw[Yv,DY,CZ (by rcases Az q c0.cells.size with r|r;simpa using r;rw[uD r]at I;cases I)];simpa using I
    |succ j=>rw[Cn (by rw[Dy,h0,EJ];omega),Dy,h0];rw[show(j+1)*sz+q-sz=j*sz+q from by rw[EJ];omega];exact ih (λd I=>V d (Ca _ I)) j c q d (by simpa using B) I
  exact this g y
 have F:∃m:Array Value,(execOp a.eval o).run P w=.ok (.value (.slice (Y ⟨w.heap.size,0,D⟩) len len)) {w with heap:=w.heap.push (.cells m e)}/\m.toList=g.flatMap λc=>c.cells.toList:=by
  unfold execOp;rw[ho];by_cases h0:len=0;subst h0;have:g=[]:=Eh U;refine⟨#[],?_,by rw[this];rfl⟩;have Z:f= #[]:=by have n:=E! θ C;simp at n;exact n
  simp[Instr.buildSlice,run_underlying a1,Lr hi,Z,Instr.fill,newRow,show Array.range 0= #[]from rfl];refine⟨(g.flatMap λc=>c.cells.toList).toArray,?_,rfl⟩;have ap:¬len*i.size=0:=by rw[A];exact Nat.mul_ne_zero h0 o!
  have a6:¬len*i.size>2^24:=by rw[A];have:=nj L.1 L.2;omega
  have hf:=Go.Great.fill_whole (s:=sz) a0 g ((Array.range (len*i.size)).map (z.cells[· %z.cells.size]!)) y (by simp[U,A]);have:=run_buildSlice (P:=P) w t e len (f.map λq=>(q.1,a.eval q.2)) _ i z a1 D_ hz a6 ap (by rw[R,A]at*;exact hf);simp only[Sem.run_bind];rw[show(f.map λx=>match x with|(i,x)=>(i,a.eval x))=(f.map λq=>(q.1,a.eval q.2))from rfl,this];rfl
 obtain⟨m,F,ad⟩:=F;unfold Oper.wp;rw[F,Oper.upon_value];have ax:=s.sim.grow (w':={w with heap:=w.heap.push (.cells m e)}) rfl rfl rfl q! (λk hk=>by simp[UB,Bq hk]);have J:=HM.grow (h:=h) (H:=H) (w:=w) (w':={w with heap:=w.heap.push (.cells m e)}) rfl rfl rfl q! (λk hk=>by simp[UB,Bq hk]);refine⟨_,_,h,H,rfl,hk,?_,ax,J⟩;subst V;refine .vs (λj q=>((g.getD j undef).cells.getD q undef)) (Al _) a0 (λj v B=>(O v (BP B)).2) (λao=>⟨w.heap.size,0,rfl,?_,by simp[cx],λj v q u B hq=>?_⟩) λj v q u B hq=>?_;rintro(hX|ho);have:=(s.sim.out _ hX).1;omega;obtain⟨id,e1,n,ao,r⟩:=ho;have:=s.sim.io_at n ao r;omega;all_goals
  have E_:j<θ g:=by rcases Az j (θ W) with r|r;omega;rw[Ct r]at B;cases B
  have S:g[j]?=Y (g[j]):=Au E_;have a3:g.getD j undef=g[j]:=by simp[Rm,S]
  obtain⟨r1,r2⟩:=M j v _ B S;rw[a3];cases r1 with
  |agg hs n G=>
   have ar:q<(g[j]).cells.size:=by rcases Az q (θ v.cells) with r|r;omega;rw[Ct r]at hq;cases hq
   have T:(g[j]).cells[q]?=Y ((g[j]).cells[q]):=ON ar;have a2:(g[j]).cells.getD q undef=(g[j]).cells[q]:=by simp[ar]
   rw[a2];first
    |exact(G q u _ hq T).later (J.later X)
    |(refine⟨?_,n q _ T⟩
      have hb:(w.heap.push (.cells m e))[w.heap.size]?=Y (.cells m e (0,0)):=q!
      rw[DY];show World.cell? {w with heap:=w.heap.push (.cells m e)} _=_;rw[QK (w:={w with heap:=w.heap.push (.cells m e)}) hb,<-QG,ad];exact al j _ q _ S T)
end
section
variable {P:Program}
def Zl(z:Array Value)(n:S):(Builtin.zeroCells z n).size=n*z.size:=by simp[Builtin.zeroCells]
def nq{t ty i:TypeId}(g:P.underlying t=Y (.slice i))(j:P.info? i=Y V){base:Ω Addr}{n cap m:S}{w w':World}
  (d:(Builtin.lenOf f).run P w=.ok m w) (x:(Builtin.firstCells V.size m f).run P w=.ok e.toArray w) (c:n+m<=cap)
  (b:(match base with
   |some a=>storeCells (a.add (n*V.size)) e
   |none=>pure ():Sem Unit).run P w=.ok () w'):
  (Builtin.append_ #[t,t] ty #[.slice base n cap,f]).run P w=.ok (.slice base (n+m) cap) w':=by
 cases base<;>simp only at b<;>simp[Builtin.append_,run_underlying g,sizeOf,typeInfo,j,d,x,c,b];simp at b;exact b
def re{t ty e:TypeId}(g:P.underlying t=Y (.slice e))(p:P.info? e=Y V)(r:V.zero=Y f)(l:V.bytes≤1048576){base:Ω Addr}{n cap m:S}{x:Value}{os j:Ψ Value}
  (i:(Builtin.lenOf x).run P d=.ok m d) (q:(Builtin.firstCells V.size n (.slice base n cap)).run P d.drew=.ok os.toArray d.drew) (hn:(Builtin.firstCells V.size m x).run P d.drew=.ok j.toArray d.drew)
  (b:cap<n+m) (h:n+m<=16777216):
  ∃a,n+m<=a/\(Builtin.append_ #[t,t] ty #[.slice base n cap,x]).run P d=.ok (.slice (Y ⟨d.heap.size,0,D⟩) (n+m) a) {d.drew with heap:=d.drew.heap.push (.cells (os.toArray++j.toArray++Builtin.zeroCells f.cells (a-(n+m))) e)}:=by
 have z:¬(Builtin.nextslicecap (n+m) cap*V.bytes>2^48):=by have s:=ABW (n+m) cap b;have u:Builtin.nextslicecap (n+m) cap*V.bytes<=33556480*1048576:=nj o! l;omega
 refine⟨(Question.appendCap (n+m) cap e).cut (d.tape d.drawn (.appendCap (n+m) cap e)),by simp[Question.cut],?_⟩;have k:IntKind.i64.max=9223372036854775807:=g!
 have c:¬((9223372036854775807:Int)<(n:Int)+(m:Int)/\V.bytes=0):=o!
 have o:(Question.appendCap (n+m) cap e).forced=η:=rfl;simp[Builtin.append_,sizeOf,typeInfo,zeroValue,run_underlying g,p,r,i,z,newRow,k];rw[D! o!,D! c,D! (by rw[o];simp),q];simp only[Result.andThen_ok];rw[hn];simp only[Result.andThen_ok,Result.ok.injEq];refine⟨rfl,?_⟩;rw[<-List.append_toArray,Array.append_assoc];rfl
end
section
variable {P:Program}{N:Nat}{o:Oper}{env:Env}{H:Aw}{K:Ad->Aw->Prop}
def Ri{a:Operand→Value}{c:World}(e:o.op=.call {callee:=.builtin .append,args:= #[q,v],argTypes:= #[b,b]})
  (h:(Builtin.append_ #[b,b] o.type #[a q,a v]).run P d=.ok f c):(execOp a o).run P d=.ok (.value f) c:=by
 unfold execOp;rw[e];simp only[resolve,invoke,builtin,Sem.run_bind,Sem.run_pure,Result.andThen_ok,Q3,B4,Hi];rw[h];rfl
def JT.drew{X:S->Prop}{h}{H}{w}(s:JT X h H w):JT X h H w.drew:=s.grow rfl rfl rfl (Al _) λ_ _=>rfl
def HM.drew{h}{H}{w}:HM h H w h H w.drew:=HM.grow rfl rfl rfl (Al _) λ_ _=>rfl
def wq{as bs}{os a}{n:Array Value}(ra:nW r as os)(g:nW r bs a)(k:∀u∈os,u.oneCell'=E)(l:∀u∈a,u.oneCell'=E):
  Holds r (as++bs) (os.toArray++a.toArray++n) (0,0):=by
 refine⟨λj=>(os++a).getD j undef,?_,λi _=>q!,λj v d=>?_⟩;simp[ra.1,g.1];have f:j<(os++a).length:=by rcases Az j (as++bs).length with b|b;simp[ra.1,g.1]at*;omega;rw[Ct b]at d;cases d
 have c:(os++a)[j]?=Y ((os++a)[j]):=Au f;have e:(os++a).getD j undef=(os++a)[j]:=by rw[Rm,c];rfl
 show _=Y ((os++a).getD j undef)/\((os++a).getD j undef).oneCell'=E/\Bz r v ((os++a).getD j undef);rw[e];refine⟨?_,?_,?_⟩;rw[Yw (by simpa using f),List.append_toArray,fh];exact c;have m:(os++a)[j]∈os++a:=Gz f;rcases Ak.1 m with h|h;exact k _ h;exact l _ h;rcases Az j (W as) with b|b;rw[CZ b]at d;rw[CZ (by rw[ra.1];exact b)]at c;exact ra.2 j v _ d c;rw[Cn b]at d;rw[Cn (by rw[ra.1];exact b),ra.1]at c;exact g.2 _ v _ d c
theorem Jw.append_nil{D_ T:Operand}{t e:TypeId}{sz m:Nat}{d:Ψ Ad}(I:o.op=.call {callee:=.builtin .append,args:= #[D_,T],argTypes:= #[t,t]})(he:eI P t=Y (D,e,sz))(v:0<sz)(J:Sq P e=E)
  (hs:BS env D_=.nils) (M:Kg H sz (BS env T)=Y (m,d)) (V:m<=16777216) (U:K (.sl (θ H) 0 sz 0 m) (H++[.live 0 d])):Jw P N o env H K:=by
 apply C9 (by rw[I];rfl);intro X h a w s Q;obtain⟨B,b,hi⟩:=RI he;obtain⟨i,z,f,G,hz,O⟩:=Uw J;have j:=mi hi f;have R:=Dp s.env D_;rw[hs]at R;have y:a.eval D_=.slice D 0 0:=by generalize a.eval D_=c at R;cases R;rfl
 have S:=Dp s.env T;unfold Oper.wp;rcases WY m with W|W;subst W;obtain⟨Z,x,E_,F,A,g,p,l,q⟩:=O9 (P:=P) s.sim S v M;have u:d=[]:=Eh o!;subst u;have L:E_=[]:=Eh g.1;subst L;have k:=nq (ty:=o.type) (base:=D) (n:=0) (cap:=0) (w':=w) B f l (by rw[j];exact q) o! rfl;rw[Ri I (by rw[y];exact k),Oper.upon_value];exact⟨_,_,_,_,rfl,U,.sl (by simp[cx]) k! ⟨_,_,rfl⟩ λ_=>.inl ⟨by simp[cx,Gh.at_],rfl,rfl,rfl⟩,s.sim.virt,HM.virt⟩;have Y_:=s.sim.drew;obtain⟨Z,x,E_,F,A,g,p,l,q⟩:=O9 (P:=P) Y_ (S.later (HM.drew.later X)) v M;obtain⟨_,_,_,_,_,_,_,r,_⟩:=O9 (P:=P) s.sim S v M;obtain⟨C,hC,k⟩:=re (ty:=o.type) (base:=D) (n:=0) (cap:=0) (os:=[]) B f hz G r (by rfl) (by rw[j];exact q) o! o!;rw[Ri I (by rw[y];exact k),Oper.upon_value];have hh:Holds (cx X h H w.drew) d (#[]++E_.toArray++Builtin.zeroCells z.cells (C-(0+m))) (0,0):=wq (as:=[]) (os:=[]) ⟨rfl,λ_ _ _ h=>by cases h⟩ g (λ_ h=>by cases h) p;refine⟨_,_,_,_,rfl,U,?_,Y_.push _ e (0,0) d hh,HM.drew.trans (HM.push _ _ _)⟩;rw[DY];refine .sl (by simp[cx]) k! ⟨_,_,rfl⟩ λ_=>.inr ⟨w.heap.size,C,by simp[cx,Gh.at_],o!,?_,rfl⟩;have e1:θ E_=m*sz:=by rw[g.1,A]
 simp only[cx,Gh.at_,if_true,Array.size_append,fk,Zl,O,j,e1];have:(C-(0+m))*sz+m*sz=C*sz:=by rw[<-EJ];congr 1;omega
 grind
end
section
variable {X:Nat->Prop}{h:Gh}{H:Aw}{w:World}{N:Nat}{env env2:Env}
def FX.trans{g}{l m n}{i j k}(a:FX N g l i m j)(b:FX N g m j n k):FX N g l i n k:=⟨b.1,λX h d w s=>by obtain⟨o,u,e,r⟩:=a.2 X h d w s;obtain⟨p,v,f,t⟩:=b.2 X o d w u;exact⟨p,v,λid c=>⟨(f id c).1.trans (e id c).1,(f id c).2.1.trans (e id c).2.1,(f id c).2.2.trans (e id c).2.2⟩,λB q=>r B (t B q)⟩⟩
def FX.of_le{n0 j:S}{i}{e}(a:FX N j m H i e)(h:n0<=j):FX N n0 m H i e:=⟨Cq h a.1,λX g b w s=>by obtain⟨l,n,k,f⟩:=a.2 X g b w s;exact⟨l,n,λid c=>k id (DM c h),f⟩⟩
def FX.virt{t sz:S}(n:env.get t=.nils):FX N (W H) env H (env.put t (.sl (W H) 0 sz 0 0)) (H++[.live 0 []]):=by
 refine⟨q!,λX g d w s=>⟨g.at_ (W H) D 0 0,⟨s.sim.virt,?_,s.size⟩,λid f=>by simp[Gh.at_,Bq f],λB l=>?_⟩⟩;have r:(t,Ad.nils)∈env:=by rcases OR (env:=env) (t:=t)with e|m;rw[n]at e;cases e;rw[n]at m;exact m
 have x:=HM.virt (h:=g) (H:=H) (w:=w);have a:=s.env.later (x.later X);intro u v m;unfold Env.put at m;rcases Av.1 m with e|m;injection e with o p;subst o p;obtain⟨q,k⟩:=s.env _ _ r;refine⟨q,?_⟩;generalize d.tmps.getD u undef=c at k;cases k;exact .sl (by simp[cx]) (by simp[cx,Gh.at_]) ⟨_,_,rfl⟩ λ_=>.inl ⟨by simp[cx,Gh.at_],rfl,rfl,rfl⟩;exact a u v (BR.1 m).1;rcases(HM.virt (h:=g) (H:=H) (w:=w)).fresh B l with h|h;exact h;obtain⟨id,e,a,j,b⟩:=l;rcases JR a with⟨i,a⟩|⟨rfl,rfl⟩;exact⟨id,e,a,j,by simpa[Gh.at_,Bq i]using b⟩;simp[Gh.at_]at b
end
def AB9(sz:S)(cs:Ψ Ad)(rows:Ψ Ad):Prop:=0<sz/\(∀e∈rows,W e.cells=sz)/\rows.flatMap Ad.cells=cs
theorem pK{sz:S}:∀{a:Ψ Ad},(∀e∈a,W e.cells=sz)->∀(j:S)(e:Ad)(i:S)(v:Ad),a[j]?=Y e->e.cells[i]?=Y v->(a.flatMap Ad.cells)[j*sz+i]?=Y v
 |e0::r,h,j,e,i,v,hj,hi=>by
  have b:=h e0 q!;simp;cases j with
  |zero=>grind
  |succ j=>rw[Cn k!,b,show(j+1)*sz+i-sz=j*sz+i from by grind];exact pK (λe c=>h e (Ca _ c)) j e i v k! hi
def Bz.froze{id g sz n:Nat}{a:Ψ Ad}(s:JT j h H d)(P:H[id]?=Y (Ft.live g x))(hr:AB9 sz x a)(hn:θ a=n)
  (R:(cx j h H d).Later r) (I:r.w=d) (M:∀B,h.io id=Y B->¬r.O B) (X:Bz (cx j h H d) (.sl id g sz 0 n) f):Bz r (.vs sz a) f:=by
 obtain⟨w,k,rfl⟩:=hr;obtain⟨t,o⟩:=s.live id g _ P;cases X with
 |sl p q Y_ N=>
  rcases N t with⟨F,U,_,rfl⟩|⟨B,cap,F,m,C,rfl⟩;have:a=[]:=Eh o!;subst this;exact Bz.vs (rows:=[]) (cap:=0) (λ_ _=>undef) (Al _) w (λ_ _ h=>by simp at h) (λh=>(h rfl).elim) λ_ _ _ _ h=>by simp at h
  rcases o with⟨E_,_⟩|⟨z,J,T,W,y,l,G,A,S,Q,b⟩;rw[E_]at F;cases F;have:z=B:=by rw[F]at l;injection l with e;exact e.symm
  subst this;subst hn;refine .vs (λc i=>y (c*sz+i)) m w (λc e u=>k e (BP u)) (λV=>⟨z,0,rfl,M z F,?_,λc e i v u D_=>?_⟩) λc e i v u D_=>?_;rw[I];exact P1 G;obtain⟨K,L,_⟩:=b _ v (pK k c e i v u D_);rw[DY,I,QK (w:=d) G];exact⟨K,L⟩;exact(b _ v (pK k c e i v u D_)).2.2.later R
section
variable {X:Nat->Prop}{h:Gh}{H:Aw}{w:World}
theorem fZ(b:(H.take N)[n]?=Y B):n<N/\H[n]?=Y B:=k!
def jE{n0 B}(d:owned h (H.take n0) B):owned h H B:=by obtain⟨id,e,c,b,a⟩:=d;exact⟨id,e,(fZ c).2,b,a⟩
def Bz.trunc(hn:N<=W H)(r:Bz (cx X h H w) k f)(d:(k.idsAll λid=>decide (id<N))=E):Bz (cx X h (H.take N) w) k f:=by have:=Bz.ren (x:=cx X h H w) (y:=cx X h (H.take N) w) (ρ:=λi=>i) (p:=λid=>decide (id<N)) (λi e _=>⟨by simp[cx]at*;omega,rfl,rfl,rfl⟩) rfl (λB b=>by rcases b with b|b;exact .inl b;exact .inr (jE b)) r d;rwa [ABm (p:=λid=>decide (id<N)) (λ_ _=>rfl) k d]at this
theorem JT.trunc(s:JT X h H w)(hn:N<=W H)(E_:∀e∈H.take N,(e.idsAll λid=>decide (id<N))=E):JT X h (H.take N) w:=by refine⟨λB D_=>⟨(s.out B D_).1,λO=>(s.out B D_).2 (jE O)⟩,λid g G c=>?_,λid L c=>?_,λid A e I B i k=>s.inj id A e I B (fZ i).2 (fZ k).2,s.bldKeep λid e c _=>⟨(fZ c).2,rfl,rfl,rfl,λ_ _ _ _ _=>rfl⟩⟩;obtain⟨x,n⟩:=s.live id g G (fZ c).2;refine⟨x,?_⟩;rcases n with⟨z,rfl⟩|⟨B,p,T,J,f,d,a,l,y,u,b⟩;exact .inl ⟨z,rfl⟩;refine .inr ⟨B,p,T,J,f,d,a,l,y,u,λj v F=>?_⟩;obtain⟨i,k,q⟩:=b j v F;exact⟨i,k,q.trunc hn (NR (by simpa[Ft.idsAll]using E_ _ (BP c)) F)⟩;obtain⟨x,B,r,d,a,i,k,q,K,M,o,C⟩:=s.lp id L (fZ c).2;refine⟨x,B,r,d,a,i,k,q,K,M,o,λt v m=>⟨(C t v m).1,(C t v m).2.trunc hn ?_⟩⟩;have P:=E_ _ (BP c);grind[Ft.idsAll]
end
def Iq:Ψ Oper->Ψ S->Ψ S
 |[],acc=>acc
 |o::r,acc=>Iq r (acc++[o.after.toList.foldl (λs e=>if Region.binds .any e=E then s|||2^e.on|||acc.getD e.on 0 else s) 0])
def Py(m:Ψ S)(i j:S):Bool:=(m.getD j 0).testBit i
def wl{b:Ψ S}{i:S}:∀(l:Ψ Edge)s,(l.foldl (λs e=>if Region.binds .any e=E then s|||2^e.on|||b.getD e.on 0 else s) s).testBit i=E→
  s.testBit i=E\/∃e∈l,Region.binds .any e=E/\(e.on=i\/(b.getD e.on 0).testBit i=E)
 |[],s,h=>.inl h
 |e::l,s,h=>by simp only[Yf]at h;rcases wl l _ h with a|⟨f,d,c,g⟩;split at a;rename_i c;simp only[Nat.testBit_or,QI,Nat.testBit_two_pow]at a;rcases a with(a|a)|a;exact .inl a;exact .inr ⟨e,q!,c,.inl (by simpa using a)⟩;exact .inr ⟨e,q!,c,.inr a⟩;exact .inl a;exact .inr ⟨f,Ca _ d,c,g⟩
theorem Yh:∀l(a:Ψ S),(∀k,k<W a→(Iq l a)[k]?=a[k]?)∧
  ∀(p i:S)(o:Oper),l[p]?=Y o->Py (Iq l a) i (W a+p)=E->∃e∈o.after.toList,Region.binds .any e=E/\(e.on=i\/(e.on<W a+p/\Py (Iq l a) i e.on=E))
 |[],a=>⟨λ_ _=>rfl,λp i o h=>by simp at h⟩
 |o::l,a=>by
  simp only[Iq];generalize g:o.after.toList.foldl (λs e=>if Region.binds .any e=E then s|||2^e.on|||a.getD e.on 0 else s) 0=x;obtain⟨m,c⟩:=Yh l (a++[x]);refine⟨λk r=>?_,λp i j t b=>?_⟩;grind;cases p with
  |zero=>
   have f:(Iq l (a++[x])).getD (W a) 0=x:=k!
   simp only[Py,NT]at b;rw[f,<-g]at b;rcases wl _ _ b with d|⟨e,q,n,d⟩;grind;grind[Py]
  |succ p=>have:=c p i j k! k!;rw[show(a++[x]).length+p=W a+(p+1)from by simp;omega]at this;exact this
section
variable {ops:Array Oper}
def xY(ops:Array Oper)(L:Array Bool):Prop:=∀(j:S)(o:Oper),ops[j]?=Y o->L.getD j η=E->∀e∈o.after,Region.binds .any e=E->L.getD e.on η=E
def fU{L}(k:xY ops L){i}:∀(n j:S)(o:Oper),j<n->ops[j]?=Y o->(∀e∈o.after,Region.binds .any e=E->L.getD e.on η=E)->Py (Iq ops.toList []) i j=E->L.getD i η=E
 |0,_,_,h,_,_,_=>o!
 |n+1,j,o,hj,ho,hp,hm=>by
  obtain⟨e,r,q,h⟩:=(Yh ops.toList []).2 j i o (by simpa using ho) (by simpa using hm);have a:=hp e (by simpa using r) q;rcases h with rfl|⟨g,c⟩;exact a;have l:e.on<j:=by simpa using g
  cases b:ops[e.on]? with
  |none=>have:Py (Iq ops.toList []) i e.on=E:=c;obtain⟨s,_⟩:=dC.1 ho;rw[zG]at b;omega
  |some m=>exact fU k n e.on m o! b (λp f d=>k e.on m b a p f d) c
def tmpsOf(o:Oper):Ψ S:=o.op.operands.toList.filterMap λ|.tmp t=>Y t|_=>D
def aL(P:Program)(N:S)(o:Oper)(env:Env)(H:Aw)(rd:Ψ S)(v:Ad):Prop:=
 ∀(env':Env)(H':Aw),(∀t∈tmpsOf o,env'.get t=env.get t)->(∀id∈rd,H'[id]?=H[id]?)->Jw P N o env' H' λu H''=>u=v/\H''=H'
def Eff(P:Program)(N:S)(o:Oper)(env:Env)(H:Aw)(F:Ψ S)(K:Ad->Aw->Prop):Prop:=
 (∀env':Env,(∀t∈tmpsOf o,env'.get t=env.get t)->Jw P N o env' H K)/\∀v H',K v H'->∀id,id<W H->id∉F->H'[id]?=H[id]?
def If(ops:Array Oper)(j:S):Bool:=
 match ops[j]? with
 |some o=>match o.op with|.alloc _=>E|_=>η
 |none=>η
def RA(P:Program)(N:S)(ops:Array Oper):Ψ S->Ψ (S×Ψ S)->Env->Aw->(Env->Aw->Prop)->Prop
 |[],_,env,H,Q=>Q env H
 |i::r,pend,env,H,Q=>
  match ops[i]? with
  |none=>False
  |some o=>
   Yn ops o.guard env
    ((If ops i=η/\∃v rd,aL P N o env H rd v/\(∀id∈rd,id<W H)/\RA P N ops r ((i,rd)::pend) (env.putO o.dst v) H Q)\/
     (If ops i=η/\∃F,(∀j∈r,Py (Iq ops.toList []) i j=E\/If ops j=E)/\(∀p∈pend,Py (Iq ops.toList []) p.1 i=E\/∀id∈p.2,id∉F)/\
      ∃K,Eff P N o env H F K/\(∀v H',K v H'->W H<=W H')/\∀v H',K v H'->RA P N ops r pend (env.putO o.dst v) H' Q)\/
     ∃t z,o.op=.alloc t/\Zk P t=Y z/\(∀j∈r,Py (Iq ops.toList []) i j=E\/If ops j=E)/\RA P N ops r pend (env.putO o.dst (.ptr (W H) 0 0)) (H++[.live 0 z]) Q)
    (If ops i=η/\RA P N ops r ((i,[])::pend) (env.putO o.dst (.tup [])) H Q)
def Wy(P:Program)(ops:Array Oper):Bool:=ops.toList.all λo=>match o.op with|.alloc t=>(Zk P t).isSome&&o.guard.isNone|_=>E
def V5(ops:Array Oper)(i:S):Ω S:=(ops[i]?).bind (·.dst)
def ACm(ops:Array Oper)(N:S)(l:Ψ S):Bool:=
 let m:=Iq ops.toList []
 let n:=ops.size
 PW N ops.toList&&
 (decide l.Nodup&&((List.range n).all λi=>l.contains i)&&l.all (λi=>decide (i<n)))&&
 ((List.range n).all λi=>match ops[i]? with
  |some o=>(o.after.toList.all λe=>!Region.binds .any e||decide (e.on<i))&&
    (match o.guard with|some (j,_)=>Py m j i&&τ (j<n)&&(V5 ops j).isSome|none=>E)&&
    (match o.dst with
     |some d=>(List.range n).all λj=>decide (j=i)||(match ops[j]? with
       |some o'=>! τ (o'.dst=Y d)&&(!(tmpsOf o').contains d||Py m i j||Py m j i)
       |none=>E)
     |none=>E)
  |none=>E)&&
 (l.zipIdx.all λ(i,p)=>l.zipIdx.all λ(j,q)=>! τ (p<q)|| !Py m j i)
theorem GQ(env:Env)(t u:S)(v:Ad):(env.put t v).get u=if u=t then v else env.get u:=by unfold Env.put;simp only[Env.get];by_cases h:t=u;grind;rw[D! h,D! (h ·.symm)];induction env<;>grind[Env.get]
def KN(env:Env):Prop:=∀t v,(t,v)∈env->env.get t=v
theorem KN.put(h:KN m)(t:S)(v:Ad):KN (m.put t v):=by
 intro u x c;rw[GQ];rcases Av.1 c with e|c;grind;obtain⟨a,b⟩:=BR.1 c;have:u≠t:=k!
 rw[D! this];exact h u x a
def KN.putO(h:KN m)(t:Ω S)(v:Ad):KN (m.putO t v):=by
 cases t with
 |none=>exact h
 |some t=>exact h.put t v
theorem eO:∀{env:Env},(env.map (·.1)).Nodup->KN env
 |[],_=>λ_ _ h=>by cases h
 |(k,w)::r,h=>by
  simp at h;intro t v m;simp only[Env.get];rcases Av.1 m with e|m;grind;have:k≠t:=k!
  rw[D! this];exact eO h.2 t v m
end
structure X0(ops:Array Oper)(N:S)(l:List S):Prop where
 dsts:PW N ops.toList=true
 nodup:l.Nodup
 all:∀i,i<ops.size->i∈l
 lt:∀i∈l,i<ops.size
 back:∀(i:S)(o:Oper),ops[i]?=some o->∀e∈o.after,Region.binds .any e=true->e.on<i
 guard:∀(i:S)(o:Oper)(j:S)(b:Bool),ops[i]?=some o->o.guard=some (j,b)->Py (Iq ops.toList []) j i=true/\j<ops.size/\∃d,V5 ops j=some d
 uniq:∀(i j d:S),V5 ops i=some d->V5 ops j=some d->i=j
 haz:∀(i j d:S)(o:Oper),V5 ops i=some d->ops[j]?=some o->d∈tmpsOf o->i≠j->Py (Iq ops.toList []) i j=true\/Py (Iq ops.toList []) j i=true
 ord:∀(l1 l2:List S),l=l1++l2->∀i∈l1,∀j∈l2,Py (Iq ops.toList []) j i=false
theorem Y4(h:V5 J N=Y n):∃o,J[N]?=Y o/\o.dst=Y n:=by grind[V5]
theorem Wq{i:S}(h:J[i]?=Y o):i<J.size:=k!
theorem ABl(h:ACm J N t=E):X0 J N t:=by
 unfold ACm at h;simp only[BZ]at h;obtain⟨⟨⟨x,⟨y,M⟩,z⟩,A⟩,B⟩:=h;have a:∀(i:S)(o:Oper),J[i]?=Y o->_:=λi o f=>by have:=GK.1 A i (IJ.2 (Wq f));rw[f]at this;simp only[BZ]at this;exact this
 refine⟨x,by simpa using y,λi c=>?_,λi c=>by simpa using List.all_eq_true.1 z i c,λi o f e E_ C=>?_,λi o j b f F=>?_,λi j d c k=>?_,λi j d o c k n G=>?_,λl1 l2 w i c j k=>?_⟩;simp_all;have:=GK.1 (a i o f).1.1 e (by simpa using E_);simpa[C]using this;have:=(a i o f).1.2;rw[F]at this;simp only[BZ,K!]at this;exact⟨this.1.1,this.1.2,fw.1 this.2⟩;obtain⟨o,f,n⟩:=Y4 c;obtain⟨O,m,r⟩:=Y4 k;have:=(a i o f).2;rw[n]at this;have:=GK.1 this j (IJ.2 (Wq m));rw[m]at this;simp only[r,decide_true,By,qD,Bool.or_false,K!]at this;exact this.symm;obtain⟨L,u,s⟩:=Y4 c;have:=(a i L u).2;rw[s]at this;have:=GK.1 this j (IJ.2 (Wq k));rw[k]at this;have D_:(tmpsOf o).contains d=E:=by simpa using n
 simp only[D_,By,Bool.false_or,QI,K!,BZ]at this;rcases this with h|⟨_,h⟩;omega;exact h;obtain⟨p,H⟩:=Db c;obtain⟨q,I⟩:=Db k;have v:p<W l1:=k!
 have g:(i,p)∈t.zipIdx:=by rw[uA];rw[w,CZ v];exact H
 have K:(j,W l1+q)∈t.zipIdx:=by rw[uA];rw[w,Cn o!];simpa using I
 have:=GK.1 (GK.1 B _ g) _ K;have l:p<W l1+q:=o!
 simpa[l]using this
section
variable {P:Program}{N:Nat}{ops:Array Oper}{l:Ψ Nat}{Q:Env->Aw->Prop}{env0:Env}{X:Nat->Prop}{h0:Gh}{H0:Aw}{w0:World}{ds0:Ψ Deferred}
def Opd(ops:Array Oper)(env0:Env)(v:S->Ad)(i:S)(o:Oper)(ei:Env):Prop:=
 ∀t∈tmpsOf o,(∀k,k≠i->V5 ops k=Y t->Py (Iq ops.toList []) k i=E->ei.get t=v k)/\
  ((∀k,k≠i->V5 ops k=Y t->Py (Iq ops.toList []) k i=η)->ei.get t=env0.get t)
def U1(v:S->Ad)(o:Oper)(r:Bool):Prop:=
 match o.guard with
 |none=>r=E
 |some (j,want)=>(∃b,v j=.bool b/\r=(b==want))\/(v j=.tup []/\r=η)
def XR(X:S->Prop)(early:S->Ω S)(B:S):Prop:=X B\/∃i,early i=Y B
structure Inv(P:Program)(N:S)(ops:Array Oper)(l:List S)(Q:Env→Aw→Prop)(env0:Env)(X:S→Prop)(h0:Gh)(H0:Aw)(w0:World)(ds0:List Deferred)
  (l1 l2:List S) (v:S->Ad) (pend:List (S×List S)) (env:Env) (H:Aw) (h:Gh) (early:S->Option S) (L:Array Bool) (a:Act) (w:World):Prop where
 split:l=l1++l2
 ra:RA P N ops l2 pend env H Q
 kn:KN env
 keys:∀t u,(t,u)∈env->t<N
 env1:∀k∈l1,∀t,V5 ops k=some t->env.get t=v k
 env2:∀t,(∀k∈l1,V5 ops k≠some t)->env.get t=env0.get t
 sim:JT (XR X early) h H w
 nodefer:a.defers=ds0
 size:a.tmps.size=N
 slot1:∀k t,L.getD k false=true->early k=none->V5 ops k=some t->Bz (cx (XR X early) h H w) (v k) (a.tmps.getD t undef)
 slot2:∀t,(∀k,L.getD k false=true->V5 ops k≠some t)->Bz (cx (XR X early) h H w) (env0.get t) (a.tmps.getD t undef)
 sub:∀i,L.getD i false=true->early i=none->i∈l1
 lsz:L.size=ops.size
 closed:xY ops L
 pendq:∀i∈l1,L.getD i false=false->∃o,ops[i]?=some o/\If ops i=false/\((U1 v o false/\v i=.tup [])\/
  (U1 v o true/\∃rd ei,(i,rd)∈pend/\(∀id∈rd,id<H.length)/\KN ei/\(∀t u,(t,u)∈ei->t<N)/\Opd ops env0 v i o ei/\aL P N o ei H rd (v i)))
 ext:HM h0 H0 w0 h H w
 early1:∀i B,early i=some B->i∈l2/\L.getD i false=true/\w0.heap.size<=B/\B<w.heap.size/\∃(o:Oper)(t:TypeId)(z:List Ad)(arr:Array Value),ops[i]?=some o/\o.op=.alloc t/\Zk P t=some z/\
  w.heap[B]?=some (.cells arr t (0,0))/\Bz (cx (XR X early) h H w) (.agg z) (.agg arr)/\∀d,o.dst=some d->a.tmps.getD d undef=.pointer (some ⟨B,0,none⟩)
 early2:∀i j B,early i=some B->early j=some B->i=j
def look(o:Oper)(ei:Env):Env:=ei.filter λp=>(tmpsOf o).contains p.1
theorem AAA(o:Oper)(a:Env):∀t∈tmpsOf o,(look o a).get t=a.get t:=by unfold look;induction a<;>grind[Env.get]
variable {l1 l2:Ψ Nat}{v:Nat->Ad}{pend:Ψ (Nat×Ψ Nat)}{env:Env}{H:Aw}{h:Gh}{early:Nat->Ω Nat}{L:Array Bool}{a:Act}{w:World}
def Inv.opd(ok:X0 ops N l)(I:Inv P N ops l Q env0 X h0 H0 w0 ds0 l1 l2 v pend env H h early L a w)(m:l2=n::t)(s:ops[n]?=Y o):Opd ops env0 v n o env:=by
 intro r u;have i:n∉l1:=by intro b;have:=ok.nodup;rw[I.split,m]at this;exact(Q6.1 this).2.2 n b n q! rfl
 refine⟨λk q c g=>?_,λp=>?_⟩;refine I.env1 k ?_ r c;obtain⟨x,f,_⟩:=Y4 c;have b:=ok.all k (Wq f);rw[I.split,Ak]at b;rcases b with b|b;exact b;rw[m]at b;rcases Av.1 b with e|b;exact(q e).elim;have:=ok.ord (l1++[n]) t (by rw[I.split,m];simp) n q! k b;rw[g]at this;cases this;refine I.env2 r λk b c=>?_;have d:k≠n:=λe=>i (e▸b);rcases ok.haz k n r o c s u d with j|j;rw[p k d c]at j;cases j;have:=ok.ord l1 l2 I.split k b n (by rw[m];simp);rw[j]at this;cases this
def Inv.look(ok:X0 ops N l)(I:Inv P N ops l Q env0 X h0 H0 w0 ds0 l1 l2 v pend env H h early L a w)(y:ops[n]?=Y o)(p:L.getD n η=η)
  (J:∀e∈o.after,Region.binds .any e=E->L.getD e.on η=E) (x:∀k,Py (Iq ops.toList []) k n=E->early k=D)  (kn:KN m) (G:∀t u,(t,u)∈m->t<N) (q:Opd ops env0 v n o m):PB (cx (XR X early) h H w) (look o m) a:=by
 intro t u i;obtain⟨B,K⟩:=BR.1 i;have z:t∈tmpsOf o:=by simpa using K
 refine⟨by rw[I.size];exact G t u B,?_⟩;rw[<-kn t u B];obtain⟨D_,E_⟩:=q t z;by_cases A:∃k,k≠n/\V5 ops k=Y t/\Py (Iq ops.toList []) k n=E;obtain⟨k,b,d,c⟩:=A;rw[D_ k b d c];exact I.slot1 k t (fU I.closed (n+1) n o o! y J c) (x k c) d;have g:∀k,k≠n->V5 ops k=Y t->Py (Iq ops.toList []) k n=η:=by
  intro k b d;cases s:Py (Iq ops.toList []) k n with
  |false=>rfl
  |true=>exact(A ⟨k,b,d,s⟩).elim
 rw[E_ g];refine I.slot2 t λk f d=>?_;by_cases b:k=n;subst b;rw[p]at f;cases f;rcases ok.haz k n t o d y z b with r|r;rw[g k b d]at r;cases r;obtain⟨C,j,_⟩:=Y4 d;have:=fU I.closed (k+1) k C o! j (λe F s=>I.closed k C j f e F s) r;rw[p]at this;cases this
theorem Inv.wanted(ok:X0 ops N l)(I:Inv P N ops l Q env0 X h0 H0 w0 ds0 l1 l2 v pend env H h early L a w)(y:ops[n]?=Y o)(s:∀k,Py (Iq ops.toList []) k n=E→early k=D)
  (C:∀e∈o.after,Region.binds .any e=E->L.getD e.on η=E)  (u:U1 v o O):Region.wanted o (yielded ops a.tmps)=O:=by
 unfold U1 at u;unfold Region.wanted;cases x:o.guard with
 |none=>grind
 |some p=>
  obtain⟨j,want⟩:=p;rw[x]at u;obtain⟨f,F,d,i⟩:=ok.guard n o j want y x;have q:=fU I.closed (n+1) n o o! y C f;have hr:=I.slot1 j d q (s j f) i;have A:d<a.tmps.size:=by obtain⟨E_,B,z⟩:=Y4 i;have:=GK.1 ok.dsts E_ k!;grind[I.size]
  rcases u with⟨b,t,rfl⟩|⟨t,rfl⟩
  case inr=>
   rw[t]at hr;obtain⟨m,g⟩:∃m,a.tmps.getD d undef=.tuple m:=by generalize a.tmps.getD d undef=c at hr;cases hr;grind
   have D_:yielded ops a.tmps j=D:=by unfold yielded;rw[show(ops[j]?).bind (·.dst)=Y d from i];simp_all
   grind
  rw[t]at hr;have g:a.tmps.getD d undef=.bool b:=by generalize a.tmps.getD d undef=c at hr;cases hr;rfl
  have D_:yielded ops a.tmps j=Y b:=by unfold yielded;rw[show(ops[j]?).bind (·.dst)=Y d from i];simp_all
  grind
def Inv.noEarly(ok:X0 ops N l)(I:Inv P N ops l Q env0 X h0 H0 w0 ds0 l1 l2 v pend env H h early L a w)(d:n∈l1\/∃r,l2=n::r):∀k,Py (Iq ops.toList []) k n=E->k≠n->early k=D:=by
 intro k c f;cases g:early k with
 |none=>rfl
 |some B=>have b:=(I.early1 k B g).1;rcases d with d|⟨r,rfl⟩;have:=ok.ord l1 l2 I.split n d k b;rw[c]at this;cases this;rcases Av.1 b with e|b;exact(f e).elim;have:=ok.ord (l1++[n]) r (by rw[I.split];simp) n q! k b;rw[c]at this;cases this
theorem HU{i:S}(a:i<L.size)(j:S):(L.setIfInBounds i E).getD j η=if j=i then E else L.getD j η:=by rw[RE,RE];grind
theorem TX(b:∀t,u=Y t->t<s.tmps.size)(t:S):(s.put u f).tmps.getD t undef=if u=Y t then f else s.tmps.getD t undef:=by
 cases u with
 |none=>simp[Act.put]
 |some u=>simp only[Act.put];rw[RE,RE];grind
theorem oA(f:xY ops L)(h:N<L.size)(l:ops[N]?=Y o)(m:∀e∈o.after,Region.binds .any e=E->L.getD e.on η=E):xY ops (L.setIfInBounds N E):=by intro j k c a e g d;rw[HU h]at a⊢;by_cases b:j=N;grind;rw[D! b]at a;rw[f j k c a e g d];simp
end
section
variable {P:Program}{N:Nat}{ops:Array Oper}{l:Ψ Nat}{Q:Env->Aw->Prop}{env0:Env}{X:Nat->Prop}{h0:Gh}{H0:Aw}{w0:World}{ds0:Ψ Deferred}
variable {l1 l2:Ψ Nat}{v:Nat->Ad}{pend:Ψ (Nat×Ψ Nat)}{env:Env}{H:Aw}{h:Gh}{early:Nat->Ω Nat}{L:Array Bool}{a:Act}{w:World}
theorem qe(ok:X0 ops N l)(a:ops[n]?=Y o):∀t,o.dst=Y t->t<N:=by have:=GK.1 ok.dsts o k!;grind
theorem GH(a:ops[N]?=Y o):V5 ops N=o.dst:=by grind[V5]
def Inv.done(ok:X0 ops N l)(I:Inv P N ops l Q env0 X h0 H0 w0 ds0 l1 l2 v pend env H h early L a w){i:Nat}(p:ops[i]?=δ o)(r:i∈l1)(ad:L.getD i η=η)
  (hp:∀e∈o.after,Region.binds .any e=ζ->L.getD e.on η=ζ)  {A:Gh}  (sim:JT (XR X early) A H d) (x:HM h H w A H d) (hv:Bz (cx (XR X early) A H d) (v i) f):
  Inv P N ops l Q env0 X h0 H0 w0 ds0 l1 l2 v pend env H A early (L.setIfInBounds i ζ) (a.put o.dst f) d:=by
 have n:i<L.size:=by rw[I.lsz];exact Wq p
 have F:∀t,o.dst=δ t->t<a.tmps.size:=λt ht=>by rw[I.size];exact qe ok p t ht
 have O:=x.later (XR X early);have s:i∉l2:=by intro hm;have:=ok.nodup;rw[I.split]at this;exact(Q6.1 this).2.2 i r i hm rfl
 refine{split:=I.split,ra:=I.ra,kn:=I.kn,keys:=I.keys,env1:=I.env1,env2:=I.env2,sim:=sim,nodefer:=?_,size:=(fW _ _ _).trans I.size,slot1:=λk t m M c=>?_,slot2:=λt y=>?_,sub:=λj G J=>?_,lsz:=by rw[qB];exact I.lsz,closed:=oA I.closed n p hp,pendq:=λk K g=>?_,ext:=I.ext.trans x,early1:=λk B m=>?_,early2:=I.early2};rw[show(a.put o.dst f).defers=a.defers by cases o.dst<;>rfl];exact I.nodefer;rw[TX F];rw[HU n]at m;by_cases b:k=i;subst b;rw[GH p]at c;rw[C! c];exact hv;rw[D! b]at m;rw[D! (λe=>b (ok.uniq k i t c (by rw[GH p];exact e)))];exact(I.slot1 k t m M c).later O;rw[TX F];have R:o.dst≠δ t:=by have:=y i (by rw[HU n,C! rfl]);rwa [GH p]at this
 rw[D! R];refine(I.slot2 t λk m=>y k ?_).later O;rw[HU n];split;rfl;exact m;rw[HU n]at G;by_cases u:j=i;subst u;exact r;rw[D! u]at G;exact I.sub j G J;rw[HU n]at g;by_cases b:k=i;subst b;simp at g;rw[D! b]at g;exact I.pendq k K g;obtain⟨S,V,W,T,o',t,z,D,U,Y,Z,e8,e9,E⟩:=I.early1 k B m;have b:k≠i:=λe=>s (e▸S);refine⟨S,by rw[HU n,D! b];exact V,W,DM T x.size,o',t,z,D,U,Y,Z,?_,e9.later O,λC q=>?_⟩;exact(x.keep B T (I.sim.out B (.inr ⟨k,m⟩)).2).trans e8;rw[TX F,D! (λe=>b (ok.uniq k i C (by rw[GH U];exact q) (by rw[GH p];exact e)))];exact E C q
def Inv.next(ok:X0 ops N l)(I:Inv P N ops l Q env0 X h0 H0 w0 ds0 l1 l2 v pend env H h early L a w){i:Nat}(hl:l2=i::t)(U:ops[i]?=Y o){pend':Ψ (Nat×Ψ Nat)}
  (F:If ops i=η) (bl:RA P N ops t pend' (env.putO o.dst k) H Q) (bb:∀p∈pend,p∈pend')
  (hq:(U1 v o η/\k=.tup [])\/(U1 v o E/\∃rd,(i,rd)∈pend'/\(∀id∈rd,id<θ H)/\aL P N o env H rd k)):
  ∃S,Inv P N ops l Q env0 X h0 H0 w0 ds0 (l1++[i]) t S pend' (env.putO o.dst k) H h early L a w:=by
 have a0:=I.opd ok hl U;have ar:=ok.nodup;rw[I.split,hl]at ar;have Y_:i∉l1:=λhm=>(Q6.1 ar).2.2 i hm i q! rfl;have ao:early i=D:=by
  cases he:early i with
  |none=>rfl
  |some B=>obtain⟨_,_,_,_,o',u,z,bz,e5,e6,_⟩:=I.early1 i B he;unfold If at F;rw[e5]at F;simp only[e6]at F;cases F
 have bt:L.getD i η=η:=by
  cases O:L.getD i η with
  |false=>rfl
  |true=>exact(Y_ (I.sub i O ao)).elim
 let S:Nat->Ad:=λr=>if r=i then k else v r;have E_:∀r,r≠i->S r=v r:=λr f=>by simp[S,f]
 have a1:S i=k:=by simp[S]
 have T:∀u,(env.putO o.dst k).get u=if o.dst=Y u then k else env.get u:=by
  intro u;cases o.dst with
  |none=>simp[Env.putO]
  |some d=>simp only[Env.putO,GQ,Ar];by_cases h:d=u;subst h;simp;rw[D! h,D! (h ·.symm)]
 have ad:Py (Iq ops.toList []) i i=E->False:=by
  intro O;obtain⟨e,he,bG,J⟩:=(Yh ops.toList []).2 i i o (by simpa using U) (by simpa using O);have al:∀(n j r:Nat),j<n->Py (Iq ops.toList []) r j=E->r<j:=by
   intro n;induction n with
   |zero=>intro j r h;omega
   |succ n ih=>
    intro j r hj O;cases Z:ops[j]? with
    |none=>
     have bm:ops.size<=j:=zG.1 Z;have ap:∀l M,(Iq l M).length=θ M+θ l:=by
      intro l;induction l with
      |nil=>intro M;rfl
      |cons o l ih=>intro M;simp only[Iq,ih];simp;omega
     have:(Iq ops.toList []).getD j 0=0:=by rw[Rm,Ct (by rw[ap];simpa using bm)];rfl
     unfold Py at O;rw[this]at O;simp at O
    |some oj=>obtain⟨e,he,a3,y⟩:=(Yh ops.toList []).2 j r oj (by simpa using Z) (by simpa using O);have bN:=ok.back j oj Z e (by simpa using he) a3;rcases y with y|⟨y,h3⟩;omega;have:=ih e.on r o! h3;omega
  have:=al (i+1) i i o! O;omega
 have a2:∀{r:Nat}{s:Oper}{ei},r∈l1->ops[r]?=Y s->Opd ops env0 v r s ei->Opd ops env0 S r s ei:=by intro r s ei a5 R a' u ht;obtain⟨c1,c2⟩:=a' u ht;refine⟨λq hq K A=>?_,c2⟩;rw[c1 q hq K A,E_];rintro rfl;have:=ok.ord l1 l2 I.split r a5 q (by rw[hl];simp);rw[A]at this;cases this
 have c:∀{o':Oper}{b},(∀j want,o'.guard=Y (j,want)->j≠i)->U1 v o' b->U1 S o' b:=by
  intro o' b a9 hw;unfold U1 at hw⊢;cases W:o'.guard with
  |none=>rw[W]at hw;exact hw
  |some p=>obtain⟨j,want⟩:=p;rw[W]at hw;simp only at hw⊢;rw[E_ j (a9 j want W)];exact hw
 refine⟨S,{split:=by rw[I.split,hl];simp,ra:=bl,kn:=I.kn.putO _ _,keys:=λu x m=>?_,env1:=λr f u K=>?_,env2:=λu ax=>?_,sim:=I.sim,nodefer:=I.nodefer,size:=I.size,slot1:=λr u f a7 K=>?_,slot2:=I.slot2,sub:=λj hj a4=>F8 _ (I.sub j hj a4),lsz:=I.lsz,closed:=I.closed,pendq:=λr f a8=>?_,ext:=I.ext,early1:=λr B f=>?_,early2:=I.early2}⟩;cases G:o.dst with
 |none=>rw[G]at m;exact I.keys u x m
 |some d=>rw[G]at m;simp only[Env.putO,Env.put]at m;rcases Av.1 m with e|m;injection e with e1 _;subst e1;exact qe ok U u G;exact I.keys u x (BR.1 m).1
 rw[T];rcases Ak.1 f with f|f;have C:r≠i:=λe=>Y_ (e▸f);rw[E_ r C,D! (λe=>C (ok.uniq r i u K (by rw[GH U];exact e)))];exact I.env1 r f u K;have:r=i:=by simpa using f
 subst this;rw[GH U]at K;rw[C! K,a1];rw[T];have J:o.dst≠Y u:=by have:=ax i q!;rwa [GH U]at this
 rw[D! J];exact I.env2 u λr f=>ax r (F8 _ f);have C:r≠i:=by rintro rfl;rw[bt]at f;cases f
 rw[E_ r C];exact I.slot1 r u f a7 K;rcases Ak.1 f with D_|D_;have C:r≠i:=λe=>Y_ (e▸D_);obtain⟨s,R,a6,V⟩:=I.pendq r D_ a8;have g:∀j want,s.guard=Y (j,want)->j≠i:=by rintro j want W rfl;have:=(ok.guard r s j want R W).1;have y:=ok.ord l1 l2 I.split r D_ j (by rw[hl];simp);rw[this]at y;cases y
 refine⟨s,R,a6,?_⟩;rw[E_ r C];rcases V with⟨J,y⟩|⟨J,rd,ei,y,h3,h4,h5,h6,h7⟩;exact .inl ⟨c g J,y⟩;exact .inr ⟨c g J,rd,ei,bb _ y,h3,h4,h5,a2 D_ R h6,h7⟩;have:r=i:=by simpa using D_
 subst this;have g:∀j want,o.guard=Y (j,want)->j≠r:=by rintro j want W rfl;exact ad (ok.guard j o j want U W).1
 refine⟨o,U,F,?_⟩;rw[a1];rcases hq with⟨J,y⟩|⟨J,rd,y,h3,h4⟩;exact .inl ⟨c g J,y⟩;refine .inr ⟨c g J,rd,env,y,h3,I.kn,I.keys,λu ht=>?_,h4⟩;obtain⟨c1,c2⟩:=a0 u ht;exact⟨λq hq K A=>by rw[c1 q hq K A,E_ q hq],c2⟩;obtain⟨e1,e2⟩:=I.early1 r B f;rw[hl]at e1;rcases Av.1 e1 with e|e1;rw[e,ao]at f;cases f;exact⟨e1,e2⟩
def Inv.guardW(ok:X0 ops N l)(I:Inv P N ops l Q env0 X h0 H0 w0 ds0 l1 l2 v pend env H h early L a w)(F:l2=n::t)(C:ops[n]?=Y o){A B:Prop}(c:Yn ops o.guard env A B):
  (U1 v o E/\A)\/(U1 v o η/\B):=by
 unfold Yn at c;unfold U1;cases s:o.guard with
 |none=>rw[s]at c;exact .inl ⟨rfl,c⟩
 |some p=>
  obtain⟨j,want⟩:=p;rw[s]at c;simp only at c⊢;obtain⟨f,R,d,J⟩:=ok.guard n o j want C s;have E_:j∈l1:=by
   have g:=ok.all j R;rw[I.split,Ak]at g;rcases g with g|g;exact g;rw[F]at g;rcases Av.1 g with e|g;subst e;have G:=ok.back;exfalso;have z:=I.opd ok F C;obtain⟨e,K,O,U⟩:=(Yh ops.toList []).2 j j o (by simpa using C) (by simpa using f);have u:∀(i q k:Nat),q<i->q<=j->Py (Iq ops.toList []) k q=E->k<q:=by
    intro i;induction i with
    |zero=>intro q k h;omega
    |succ i T=>
     intro q k V S r;have x:q<ops.size:=by have:=Wq C;omega
     obtain⟨e,K,D_,z⟩:=(Yh ops.toList []).2 q k ops[q] (by simp[x]) (by simpa using r);have G:=ok.back q ops[q] (by simp[x]) e (by simpa using K) D_;rcases z with z|⟨z,M⟩;omega;have:=T e.on k o! o! M;omega
   have:=u (j+1) j j o! (Al _) f;omega;have:=ok.ord (l1++[n]) t (by rw[I.split,F];simp) n q! j g;rw[f]at this;cases this
  have y:XO ops env j=v j:=by unfold XO;rw[show(ops[j]?).bind (·.dst)=Y d from J];exact I.env1 j E_ d J
  rw[y]at c;split at c;rename_i b r;by_cases m:b=want;exact .inl ⟨.inl ⟨b,r,by simp[m]⟩,c.1 m⟩;exact .inr ⟨.inl ⟨b,r,by simp[m]⟩,c.2 (by cases b<;>cases want<;>simp_all)⟩;rename_i r;exact .inr ⟨.inr ⟨r,P!⟩,c⟩;exact c.elim
end
section
variable {P:Program}{N:Nat}{ops:Array Oper}{l:Ψ Nat}{Q:Env->Aw->Prop}{env0:Env}{X:Nat->Prop}{h0:Gh}{H0:Aw}{w0:World}{ds0:Ψ Deferred}
theorem XP(a:ops[N]?=Y o):If ops N=E↔∃t,o.op=.alloc t:=by grind[If]
theorem fy(h:Wy P ops=E)(i:ops[N]?=Y o)(a:o.op=.alloc b):(∃z,Zk P b=Y z)/\o.guard=D:=by have:=GK.1 h o (by rw[Array.mem_toList_iff];exact wL i);rw[a]at this;simp at this;grind[Option.isSome_iff_exists]
def Inv.adopt(ok:X0 ops N l)(ha:Wy P ops=E)(hX:∀B,X B→B<w0.heap.size){l1:Ψ Nat}{v:Nat→Ad}{a6:Ψ (Nat×Ψ Nat)}{env:Env}{H:Aw}{h:Gh}{early:Nat→Ω Nat}{L:Array Bool}{a:Act}{w:World}
  {i:Nat}{r:Ψ Nat} (I:Inv P N ops l Q env0 X h0 H0 w0 ds0 l1 (i::r) v a6 env H h early L a w) {B:Nat} (hB:early i=Y B):
  ∃v' Z H' h' c,Inv P N ops l Q env0 X h0 H0 w0 ds0 (l1++[i]) r v' a6 Z H' h' c L a w:=by
 obtain⟨e1,e2,e3,e4,o,t,z,T,O,ao,hz,bG,b8,bm⟩:=I.early1 i B hB;have cm:If ops i=E:=(XP O).2 ⟨t,ao⟩;have hg:=(fy ha O ao).2;have a1:=I.ra;simp only[RA,O,hg,Yn,cm,Bool.true_eq_false,false_and,false_or]at a1;obtain⟨K,z',a4,cb,_,a1⟩:=a1;rw[ao]at a4;injection a4 with et;subst et;rw[hz]at cb;injection cb with ez;subst ez;have b7:=ok.nodup;rw[I.split]at b7;have b2:i∉l1:=λhm=>(Q6.1 b7).2.2 i hm i q! rfl;let u:Ad:=.ptr (θ H) 0 0;let v':Nat->Ad:=λk=>if k=i then u else v k;have ar:∀k,k≠i->v' k=v k:=λk M=>by simp[v',M]
 have b':v' i=u:=by simp[v']
 let c:Nat->Ω Nat:=λk=>if k=i then D else early k;have V:∀k C,c k=Y C->k≠i/\early k=Y C:=by intro k C M;simp only[c]at M;split at M;cases M;exact⟨v!,M⟩
 have a2:∀t,(env.putO o.dst u).get t=if o.dst=Y t then u else env.get t:=by
  intro t;cases o.dst with
  |none=>simp[Env.putO]
  |some d=>simp only[Env.putO,GQ,Ar];by_cases h:d=t;subst h;simp;rw[D! h,D! (h ·.symm)]
 have ce:∀{k:Nat}{J:Oper}{ei},k∈l1->ops[k]?=Y J->Opd ops env0 v k J ei->Opd ops env0 v' k J ei:=by intro k J ei a9 a0 ao t ht;obtain⟨c1,c2⟩:=ao t ht;refine⟨λq hq hd a5=>?_,c2⟩;rw[c1 q hq hd a5,ar];rintro rfl;have:=ok.ord l1 (q::r) I.split k a9 q q!;rw[a5]at this;cases this
 have S:∀{o':Oper}{b},(∀j want,o'.guard=Y (j,want)->j≠i)->U1 v o' b->U1 v' o' b:=by
  intro o' b bl hw;unfold U1 at hw⊢;cases hg:o'.guard with
  |none=>rw[hg]at hw;exact hw
  |some p=>obtain⟨j,want⟩:=p;rw[hg]at hw;simp only at hw⊢;rw[ar j (bl j want hg)];exact hw
 have ap:∀C,owned (h.at_ (θ H) (Y B) 0 T.size) (H++[.live 0 z]) C->owned h H C\/C=B:=by rintro C ⟨id,e,he,bl,R⟩;rcases JR he with⟨s,he⟩|⟨rfl,rfl⟩;exact .inl ⟨id,e,he,bl,by simpa[Gh.at_,Bq s]using R⟩;simp[Gh.at_]at R;exact .inr R.symm
 have hl:(cx (XR X early) h H w).Later (cx (XR X c) (h.at_ (θ H) (Y B) 0 T.size) (H++[.live 0 z]) w):=by refine⟨Al _,λ_ _ _ _=>rfl,λC _ hO=>?_,by simp[cx],λid A=>by simp only[cx]at A;simp[cx,Gh.at_,Bq A],λid A _=>by simp only[cx]at A;simp[cx,Gh.at_,Bq A]⟩;rcases hO with(hO|⟨k,M⟩)|hO;exact .inl (.inl hO);exact .inl (.inr ⟨k,(V k C M).2⟩);rcases ap C hO with hO|rfl;exact .inr hO;exact .inl (.inr ⟨i,hB⟩)
 have b6:¬owned h H B:=(I.sim.out B (.inr ⟨i,hB⟩)).2;have b9:JT (XR X c) (h.at_ (θ H) (Y B) 0 T.size) (H++[.live 0 z]) w:=by
  refine⟨λC U=>?_,λid g cs he=>?_,λid L' he=>?_,λid cv e e' C h1 h2 b4 b5 h3 h4=>?_,I.sim.bldKeep λid e he hB=>?_⟩;have ca:XR X early C:=by rcases U with U|⟨k,M⟩;exact .inl U;exact .inr ⟨k,(V k C M).2⟩
  refine⟨(I.sim.out C ca).1,λO=>?_⟩;rcases ap C O with O|rfl;exact(I.sim.out C ca).2 O;rcases U with U|⟨k,M⟩;have:=hX C U;omega;obtain⟨k1,k2⟩:=V k C M;exact k1 (I.early2 k i C k2 hB);rcases JR he with⟨s,al⟩|⟨rfl,e⟩;obtain⟨hg,b0⟩:=I.sim.live id g cs al;refine⟨by simpa[cx,Gh.at_,Bq s]using hg,?_⟩;rcases b0 with⟨hn,rfl⟩|⟨B1,Y_,T',ci,f,R,hb,bN,bb,a8,D_⟩;exact .inl ⟨by simpa[cx,Gh.at_,Bq s]using hn,rfl⟩;refine .inr ⟨B1,Y_,T',ci,f,by simpa[cx,Gh.at_,Bq s]using R,hb,by simpa[cx,Gh.at_,Bq s]using bN,bb,a8,λj v hj=>?_⟩;obtain⟨p1,p2,p3⟩:=D_ j v hj;exact⟨p1,p2,p3.later hl⟩;injection e with e1 e2;subst e1 e2;obtain⟨f,bb,a8,D_⟩:=Qi (b8.later hl);exact⟨by simp[cx,Gh.at_],.inr ⟨B,T,t,(0,0),f,by simp[cx,Gh.at_],bG,by simp[cx,Gh.at_],bb,a8,D_⟩⟩;rcases JR he with⟨s,al⟩|⟨rfl,e⟩;obtain⟨hg,B1,r1,R,hb,p1,p2,p3,p4,p5,p6,p7⟩:=I.sim.lp id L' al;exact⟨by simpa[cx,Gh.at_,Bq s]using hg,B1,r1,by simpa[cx,Gh.at_,Bq s]using R,hb,p1,p2,p3,p4,p5,p6,λt v m=>⟨(p7 t v m).1,(p7 t v m).2.later hl⟩⟩;cases e;rcases JR h1 with⟨cc,bt⟩|⟨rfl,_⟩<;>rcases JR h2 with⟨cd,bz⟩|⟨rfl,_⟩;exact I.sim.inj _ _ _ _ C bt bz b4 b5 (by simpa[Gh.at_,Bq cc]using h3) (by simpa[Gh.at_,Bq cd]using h4);simp[Gh.at_]at h4;subst h4;exact(b6 ⟨id,e,bt,b4,by simpa[Gh.at_,Bq cc]using h3⟩).elim;simp[Gh.at_]at h3;subst h3;exact(b6 ⟨cv,e',bz,b5,by simpa[Gh.at_,Bq cd]using h4⟩).elim;rfl;rcases JR he with⟨s,al⟩|⟨rfl,e⟩;exact⟨al,by simp[Gh.at_,Bq s],by simp[Gh.at_,Bq s],by simp[Gh.at_,Bq s],λ_ _ _ _ _=>rfl⟩;subst e;cases hB
 have b1:HM h0 H0 w0 (h.at_ (θ H) (Y B) 0 T.size) (H++[.live 0 z]) w:=by have x:=I.ext;refine⟨x.os,x.tape,x.output,x.size,x.keep,by have:=x.n;simp;omega,λid A=>?_,λid A e=>?_,λC O=>?_,x.loops⟩;have s:id<θ H:=DM A x.n;simpa[Gh.at_,Bq s]using x.gen id A;have s:id<θ H:=DM A x.n;have:=x.same id A (by simpa[Gh.at_,Bq s]using e);simpa[Gh.at_,Bq s]using this;rcases ap C O with O|rfl;exact x.fresh C O;exact .inr e3
 refine⟨v',env.putO o.dst u,H++[.live 0 z],h.at_ (θ H) (Y B) 0 T.size,c,?_⟩;refine{split:=by rw[I.split];simp,ra:=a1,kn:=I.kn.putO _ _,keys:=λK y m=>?_,env1:=λk F K E_=>?_,env2:=λK ax=>?_,sim:=b9,nodefer:=I.nodefer,size:=I.size,slot1:=λk K F ct E_=>?_,slot2:=λK ax=>(I.slot2 K ax).later hl,sub:=λj hj cn=>?_,lsz:=I.lsz,closed:=I.closed,pendq:=λk a9 a'=>?_,ext:=b1,early1:=λk C M=>?_,early2:=λk j C h1 h2=>I.early2 k j C (V k C h1).2 (V j C h2).2};cases ad:o.dst with
 |none=>rw[ad]at m;exact I.keys K y m
 |some d=>rw[ad]at m;simp only[Env.putO,Env.put]at m;rcases Av.1 m with e|m;injection e with e1 _;subst e1;exact qe ok O K ad;exact I.keys K y (BR.1 m).1
 rw[a2];rcases Ak.1 F with F|F;have G:k≠i:=λe=>b2 (e▸F);rw[ar k G,D! (λe=>G (ok.uniq k i K E_ (by rw[GH O];exact e)))];exact I.env1 k F K E_;have:k=i:=by simpa using F
 subst this;rw[GH O]at E_;rw[C! E_,b'];rw[a2];have h1:o.dst≠Y K:=by have:=ax i q!;rwa [GH O]at this
 rw[D! h1];exact I.env2 K λk M=>ax k (F8 _ M);by_cases G:k=i;subst G;rw[GH O]at E_;rw[b',bm K E_];exact .ptr (by simp[cx]) (by simp[cx,Gh.at_]) rfl λ_=>⟨B,by simp[cx,Gh.at_],rfl⟩
 rw[ar k G];exact(I.slot1 k K F (by simpa[c,G]using ct) E_).later hl;by_cases b3:j=i;subst b3;simp;exact F8 _ (I.sub j hj (by simpa[c,b3]using cn));rcases Ak.1 a9 with W|W;have G:k≠i:=λe=>b2 (e▸W);obtain⟨J,a0,co,a7⟩:=I.pendq k W a';have a3:∀j want,J.guard=Y (j,want)->j≠i:=by rintro j want hg rfl;have:=(ok.guard k J j want a0 hg).1;have h2:=ok.ord l1 (j::r) I.split k W j q!;rw[this]at h2;cases h2
 refine⟨J,a0,co,?_⟩;rw[ar k G];rcases a7 with⟨h1,h2⟩|⟨h1,rd,ei,h2,h3,h4,h5,h6,h7⟩;exact .inl ⟨S a3 h1,h2⟩;refine .inr ⟨S a3 h1,rd,ei,h2,λid A=>by have:=h3 id A;simp;omega,h4,h5,ce W a0 h6,λZ cf he hh=>h7 Z cf he λid A=>?_⟩;rw[hh id A,CZ (h3 id A)];have:k=i:=by simpa using W
 subst this;rw[e2]at a';cases a';obtain⟨k1,k2⟩:=V k C M;obtain⟨f1,f2,f3,f4,o',K,z',Y_,f5,f6,f7,f8,f9,ch⟩:=I.early1 k C k2;rcases Av.1 f1 with e|f1;exact(k1 e).elim;exact⟨f1,f2,f3,f4,o',K,z',Y_,f5,f6,f7,f8,f9.later hl,ch⟩
def Mid(P:Program)(N:S)(ops:Array Oper)(l:Ψ S)(Q:Env->Aw->Prop)(env0:Env)(X:S->Prop)(h0:Gh)(H0:Aw)(w0:World)(ds0:Ψ Deferred)(L:Array Bool)(a:Act)(w:World):Prop:=
 ∃l1 l2 v pend env H h early,Inv P N ops l Q env0 X h0 H0 w0 ds0 l1 l2 v pend env H h early L a w
def VN(ok:X0 ops N l)(T:Wy P ops=E)(S:∀B,X B→B<w0.heap.size){L:Array Bool}{a}{w}{i:Nat}{o:Oper}(C:ops[i]?=Y o)(g:If ops i=η)(s:∀e∈o.after,Region.binds .any e=E→L.getD e.on η=E):
  ∀l2 l1 v b env H h early,Inv P N ops l Q env0 X h0 H0 w0 ds0 l1 l2 v b env H h early L a w->∃l1 l2 v b env H h early,Inv P N ops l Q env0 X h0 H0 w0 ds0 l1 l2 v b env H h early L a w/\(i∈l1\/∃r,l2=i::r/\U1 v o E/\∃F,(∀j∈r,Py (Iq ops.toList []) i j=E\/If ops j=E)/\(∀p∈b,Py (Iq ops.toList []) p.1 i=E\/∀id∈p.2,id∉F)/\∃K,Eff P N o env H F K/\(∀v y,K v y->θ H<=θ y)/\∀v y,K v y->RA P N ops r b (env.putO o.dst v) y Q)
 |[],l1,v,b,env,H,h,early,I=>by have k:=ok.all i (Wq C);rw[I.split,DT]at k;exact⟨l1,[],v,b,env,H,h,early,I,.inl k⟩
 |q::r,l1,v,b,env,H,h,early,I=>by
  by_cases G:i∈l1;exact⟨l1,q::r,v,b,env,H,h,early,I,.inl G⟩
  ·cases E_:early q with
   |some B=>obtain⟨O,ar,y,h',m,D_⟩:=I.adopt ok T S E_;exact VN ok T S C g s r _ O _ _ y h' m D_
   |none=>
    have M:=I.ra;have ao:q<ops.size:=ok.lt q (by rw[I.split];simp);have c:ops[q]?=Y (ops[q]):=by simp[ao]
    generalize ax:ops[q]=oq at c;have x:(∀j∈r,Py (Iq ops.toList []) q j=E\/If ops j=E)->i=q:=by intro f;have k:=ok.all i (Wq C);rw[I.split,Ak]at k;rcases k with k|k;exact(G k).elim;rcases Av.1 k with e|k;exact e;rcases f i k with R|R;have hd:=fU I.closed (i+1) i o o! C s R;have al:=I.sub q hd E_;have J:=ok.nodup;rw[I.split]at J;exact((Q6.1 J).2.2 q al q q! rfl).elim;rw[g]at R;cases R
    simp only[RA,c]at M;rcases I.guardW ok rfl c M with⟨U,(⟨n,u,rd,hQ,ap,d⟩|⟨n,F,f,V,K,W,Y_,Z⟩|⟨t,z,ad,hz,f,d⟩)⟩|⟨U,n,d⟩
    ·obtain⟨O,D_⟩:=I.next ok rfl c (pend':=(q,rd)::b) n d (λp s=>Ca _ s) (.inr ⟨U,rd,q!,ap,hQ⟩)
     exact VN ok T S C g s r _ O _ _ H h early D_
    have A:=x f;subst A;rw[C]at c;injection c with e;subst e;exact⟨l1,i::r,v,b,env,H,h,early,I,.inr ⟨r,rfl,U,F,f,V,K,W,Y_,Z⟩⟩;have A:=x f;subst A;have:=(XP c).2 ⟨t,ad⟩;rw[g]at this;cases this
    ·obtain⟨O,D_⟩:=I.next ok rfl c (pend':=(q,[])::b) n d (λp s=>Ca _ s) (.inl ⟨U,rfl⟩)
     exact VN ok T S C g s r _ O _ _ H h early D_
def Wv{K b:Act->World->Prop}(h:Oper.wpIn (FR u) 0 P o s d K T)(a:∀s d,K s d->b s d):Oper.wpIn (FR u) 0 P o s d b T:=Oper.wpIn_mono a h
def Inv.make(ok:X0 ops N l)(ha:Wy P ops=E){l1 l2:Ψ Nat}{v:Nat→Ad}{K:Ψ (Nat×Ψ Nat)}{env:Env}{H:Aw}{h:Gh}{early:Nat→Ω Nat}{L:Array Bool}{a:Act}{w:World}{Q0:Exit→Act→World→Prop}{ro:Ω Nat}
  (I:Inv P N ops l Q env0 X h0 H0 w0 ds0 l1 l2 v K env H h early L a w) {i:Nat}{o:Oper}{t:TypeId} (u:ops[i]?=Y o) (y:o.op=.alloc t) (a6:L.getD i η=η)
  (hp:∀e∈o.after,Region.binds .any e=E->L.getD e.on η=E):
  Oper.wpIn (FR ro) 0 P o a w (λa' C=>∃b,Inv P N ops l Q env0 X h0 H0 w0 ds0 l1 l2 v K env H h b (L.setIfInBounds i E) a' C) Q0:=by
 obtain⟨⟨z,hz⟩,hg⟩:=fy ha u y;have bb:If ops i=E:=(XP u).2 ⟨t,y⟩;obtain⟨b3,zv,hi,bG,rz⟩:=ff (cx (XR X early) h H w) hz;have a4:(execOp a.eval o).run P w=.ok (.value (.pointer (Y ⟨w.heap.size,0,D⟩))) {w with heap:=w.heap.push (.cells zv.cells t)}:=by unfold execOp;rw[y];simp[Instr.alloc,zeroValue,typeInfo,hi,bG,newVar,newRow]
 refine⟨λ_ _=>P!,?_⟩;rw[Oper.semAt_eq _ _ _ (λc hc=>by rw[y]at hc;cases hc),a4,Oper.uponIn_value];let b:Nat->Ω Nat:=λk=>if k=i then Y w.heap.size else early k;generalize s:({w with heap:=w.heap.push (.cells zv.cells t)}:World)=C;have b2:C.heap.size=w.heap.size+1:=by rw[<-s];simp
 have q:∀k,k<w.heap.size->C.heap[k]?=w.heap[k]? :=λk r=>by rw[<-s];simp[UB,Bq r]
 have bz:C.heap[w.heap.size]?=Y (.cells zv.cells t):=by rw[<-s];simp
 have U:C.os=w.os:=by rw[<-s]
 have V:C.tape=w.tape:=by rw[<-s]
 have A:C.output=w.output:=by rw[<-s]
 have ap:i∉l1:=by intro hm;obtain⟨o',b1,ar,_⟩:=I.pendq i hm a6;rw[bb]at ar;cases ar
 have bm:i∈l2:=by have:=ok.all i (Wq u);rw[I.split,Ak]at this;exact this.resolve_left ap
 have bN:early i=D:=by
  cases G:early i with
  |none=>rfl
  |some B=>have:=(I.early1 i B G).2.1;rw[a6]at this;cases this
 have a8:=I.sim.grow U V A o! q;have b0:=(HM.grow (h:=h) (H:=H) U V A o! q).later (XR X early);have J:∀B,owned h H B->B<w.heap.size:=by rintro B ⟨id,e,G,S,x⟩;exact I.sim.io_at G S x
 have a7:∀B,XR X b B->XR X early B\/B=w.heap.size:=by rintro B (O|⟨k,r⟩);exact .inl (.inl O);simp only[b]at r;split at r;injection r with e;exact .inr e.symm;exact .inl (.inr ⟨k,r⟩)
 have W:(cx (XR X early) h H w).Later (cx (XR X b) h H C):=by refine⟨by simp only[cx];omega,λB O _=>nK (q B O),λB O Z=>?_,Al _,λ_ _=>Al _,λ_ _ _=>⟨rfl,rfl⟩⟩;rcases Z with Z|Z;rcases a7 B Z with D_|rfl;exact .inl D_;simp only[cx]at O;omega;exact .inr Z
 have a5:JT (XR X b) h H C:=by refine⟨λB O=>?_,λid g cs G=>?_,λid L' G=>?_,I.sim.inj,I.sim.bldKeep λid e G _=>⟨G,rfl,rfl,rfl,λB o _ R _=>q B (P1 R)⟩⟩;rcases a7 B O with D_|rfl;exact a8.out B D_;exact⟨o!,λu=>by have:=J _ u;omega⟩;obtain⟨hg,ao⟩:=I.sim.live id g cs G;refine⟨hg,?_⟩;rcases ao with⟨hn,rfl⟩|⟨B,M,T,fz,f,x,R,ad,bt,bl,E_⟩;exact .inl ⟨hn,rfl⟩;refine .inr ⟨B,M,T,fz,f,x,(q B (P1 R)).trans R,ad,bt,bl,λj v hj=>?_⟩;obtain⟨p1,p2,p3⟩:=E_ j v hj;exact⟨p1,p2,p3.later W⟩;obtain⟨hg,B1,r1,x,R,p1,p2,p3,p4,p5,p6,p7⟩:=I.sim.lp id L' G;exact⟨hg,B1,r1,x,(q B1 (P1 R)).trans R,p1,p2,p3,p4,p5,p6,λt v m=>⟨(p7 t v m).1,(p7 t v m).2.later W⟩⟩
 have p:i<L.size:=by rw[I.lsz];exact Wq u
 have hd:∀t,o.dst=Y t->t<a.tmps.size:=λt ht=>by rw[I.size];exact qe ok u t ht
 refine⟨b,?_⟩;refine{split:=I.split,ra:=I.ra,kn:=I.kn,keys:=I.keys,env1:=I.env1,env2:=I.env2,sim:=a5,nodefer:=?_,size:=(fW _ _ _).trans I.size,slot1:=λk t r a2 al=>?_,slot2:=λt J=>?_,sub:=λj hj ax=>?_,lsz:=by rw[qB];exact I.lsz,closed:=oA I.closed p u hp,pendq:=λk a1 a3=>?_,ext:=I.ext.trans (HM.grow U V A o! q),early1:=λk B r=>?_,early2:=λj k B D_ Y_=>?_};rw[show(a.put o.dst _).defers=a.defers by cases o.dst<;>rfl];exact I.nodefer;have n:k≠i:=by rintro rfl;simp[b]at a2
 rw[HU p,D! n]at r;rw[TX hd,D! (λe=>n (ok.uniq k i t al (by rw[GH u];exact e)))];exact(I.slot1 k t r (by simpa[b,n]using a2) al).later W;rw[TX hd];have S:o.dst≠Y t:=by have:=J i (by rw[HU p,C! rfl]);rwa [GH u]at this
 rw[D! S];refine(I.slot2 t λk r=>J k ?_).later W;rw[HU p];split;rfl;exact r;have a0:j≠i:=by rintro rfl;simp[b]at ax
 rw[HU p,D! a0]at hj;exact I.sub j hj (by simpa[b,a0]using ax);have n:k≠i:=λe=>ap (e▸a1);rw[HU p,D! n]at a3;exact I.pendq k a1 a3;by_cases n:k=i;subst n;simp only[b,if_true]at r;injection r with e;subst e;refine⟨bm,by rw[HU p,C! rfl],I.ext.size,o!,o,t,z,zv.cells,u,y,hz,bz,rz.later W,λd F=>?_⟩;rw[TX hd,C! F];simp only[b,D! n]at r;obtain⟨e1,e2,e3,e4,o',t',z',M,e5,e6,e7,e8,e9,a9⟩:=I.early1 k B r;refine⟨e1,by rw[HU p,D! n];exact e2,e3,o!,o',t',z',M,e5,e6,e7,(q B e4).trans e8,e9.later W,λd F=>?_⟩;rw[TX hd,D! (λe=>n (ok.uniq k i d (by rw[GH e5];exact F) (by rw[GH u];exact e)))];exact a9 d F;simp only[b]at D_ Y_;split at D_<;>split at Y_;simp_all;injection D_ with e;have:=(I.early1 k B Y_).2.2.2.1;omega;injection Y_ with e;have:=(I.early1 j B D_).2.2.2.1;omega;exact I.early2 j k B D_ Y_
def Mid.step(ok:X0 ops N l)(ha:Wy P ops=E)(hX:∀B,X B→B<w0.heap.size){L:Array Bool}{a:Act}{w:World}{Q0:Exit→Act→World→Prop}{ro:Ω Nat}(M:Mid P N ops l Q env0 X h0 H0 w0 ds0 L a w){i:Nat}{o:Oper}(n:ops[i]?=Y o)(E_:L.getD i η=η)
  (Y_:∀e∈o.after,Region.binds .any e=E->L.getD e.on η=E):wpOpIn (FR ro) 0 P ops Q0 i (Mid P N ops l Q env0 X h0 H0 w0 ds0 (L.setIfInBounds i E)) a w:=by
 cases a3:If ops i with
 |true=>
  obtain⟨t,a9⟩:=(XP n).1 a3;have hg:=(fy ha n a9).2;obtain⟨l1,l2,v,s,env,H,h,early,I⟩:=M;unfold wpOpIn;rw[n];simp only;have J:Region.wanted o (yielded ops a.tmps)=E:=by unfold Region.wanted;rw[hg]
  rw[J];simp only[if_true];refine(Wv (I.make ok ha n a9 E_ Y_) ?_);rintro a' w' ⟨al,I'⟩;exact⟨l1,l2,v,s,env,H,h,al,I'⟩
 |false=>
 obtain⟨l1,l2,v,s,env,H,h,early,I⟩:=M;obtain⟨l1,l2,v,s,env,H,h,early,I,A⟩:=VN ok ha hX n a3 Y_ l2 l1 v s env H h early I;have G:∀k,Py (Iq ops.toList []) k i=E->early k=D:=by
  intro k D_;by_cases f:k=i;subst f;cases he:early k with
  |none=>rfl
  |some B=>have:=(I.early1 k B he).2.1;rw[E_]at this;cases this
  refine I.noEarly ok ?_ k D_ f;rcases A with h1|⟨r,h1,_⟩;exact .inl h1;exact .inr ⟨r,h1⟩
 unfold wpOpIn;rw[n];simp only;rcases A with ax|⟨r,rfl,J,F,b6,bt,K,a1,bz,bG⟩
 ·obtain⟨o',a7,_,b5⟩:=I.pendq i ax E_;rw[n]at a7;injection a7 with e;subst e;rcases b5 with⟨J,ao⟩|⟨J,rd,ei,_,_,kn,T,W,hQ⟩
  ·rw[I.wanted ok n G Y_ J];simp only[QH,if_false];exact⟨λ_ _=>P!,l1,l2,v,s,env,H,h,early,I.done ok n ax E_ Y_ I.sim (HM.refl _ _ _) (by rw[ao];exact .tup rfl λ_ _ _ h=>by cases h)⟩
  ·rw[I.wanted ok n G Y_ J];simp only[if_true];refine(Wv (hQ (look o ei) H (AAA o ei) (λ_ _=>rfl) ro (XR X early) h a w ⟨I.sim,I.look ok n E_ Y_ G kn T W,I.size⟩ Q0) ?_);rintro a' w' ⟨c,u,h',H',rfl,⟨rfl,rfl⟩,hv,sim,x⟩;exact⟨l1,l2,v,s,env,_,h',early,I.done ok n ax E_ Y_ sim x hv⟩
 rw[I.wanted ok n G Y_ J];simp only[if_true];have W:=I.opd ok rfl n;refine(Wv (a1.1 (look o env) (AAA o env) ro (XR X early) h a w ⟨I.sim,I.look ok n E_ Y_ G I.kn I.keys W,I.size⟩ Q0) ?_);rintro a' w' ⟨c,u,h',H',rfl,T,hv,sim,x⟩;have a6:=ok.nodup;rw[I.split]at a6;have b0:i∉l1:=λhm=>(Q6.1 a6).2.2 i hm i q! rfl;have hi:i<L.size:=by rw[I.lsz];exact Wq n
 have hl:=x.later (XR X early);let v':Nat->Ad:=λk=>if k=i then u else v k;have Z:∀k,k≠i->v' k=v k:=λk T=>by simp[v',T]
 have ao:v' i=u:=by simp[v']
 have hd:∀t,o.dst=Y t->t<a.tmps.size:=λt ht=>by rw[I.size];exact qe ok n t ht
 have ap:∀t,(env.putO o.dst u).get t=if o.dst=Y t then u else env.get t:=by
  intro t;cases o.dst with
  |none=>simp[Env.putO]
  |some d=>simp only[Env.putO,GQ,Ar];by_cases h:d=t;subst h;simp;rw[D! h,D! (h ·.symm)]
 refine⟨l1++[i],r,v',s,env.putO o.dst u,H',h',early,?_⟩;refine{split:=by rw[I.split];simp,ra:=bG u H' T,kn:=I.kn.putO _ _,keys:=λt y m=>?_,env1:=λk g t C=>?_,env2:=λt V=>?_,sim:=sim,nodefer:=?_,size:=(fW _ _ _).trans I.size,slot1:=λk t g b4 C=>?_,slot2:=λt V=>?_,sub:=λj hj b1=>?_,lsz:=by rw[qB];exact I.lsz,closed:=oA I.closed hi n Y_,pendq:=λk b2 U=>?_,ext:=I.ext.trans x,early1:=λk B g=>?_,early2:=I.early2};cases R:o.dst with
 |none=>rw[R]at m;exact I.keys t y m
 |some d=>rw[R]at m;simp only[Env.putO,Env.put]at m;rcases Av.1 m with e|m;injection e with e1 _;subst e1;exact qe ok n t R;exact I.keys t y (BR.1 m).1
 rw[ap];rcases Ak.1 g with g|g;have f:k≠i:=λe=>b0 (e▸g);rw[Z k f,D! (λe=>f (ok.uniq k i t C (by rw[GH n];exact e)))];exact I.env1 k g t C;have:k=i:=by simpa using g
 subst this;rw[GH n]at C;rw[C! C,ao];rw[ap];have h1:o.dst≠Y t:=by have:=V i q!;rwa [GH n]at this
 rw[D! h1];exact I.env2 t λk T=>V k (F8 _ T);rw[show(a.put o.dst c).defers=a.defers by cases o.dst<;>rfl];exact I.nodefer;rw[TX hd];rw[HU hi]at g;by_cases f:k=i;subst f;rw[GH n]at C;rw[C! C,ao];exact hv;rw[D! f]at g;rw[D! (λe=>f (ok.uniq k i t C (by rw[GH n];exact e))),Z k f];exact(I.slot1 k t g b4 C).later hl;rw[TX hd];have G:o.dst≠Y t:=by have:=V i (by rw[HU hi,C! rfl]);rwa [GH n]at this
 rw[D! G];refine(I.slot2 t λk T=>V k ?_).later hl;rw[HU hi];split;rfl;exact T;rw[HU hi]at hj;by_cases a4:j=i;subst a4;simp;rw[D! a4]at hj;exact F8 _ (I.sub j hj b1);rw[HU hi]at U;by_cases f:k=i;subst f;simp at U;rw[D! f]at U;have a5:k∈l1:=by rcases Ak.1 b2 with h|h;exact h;exact(f (by simpa using h)).elim
 obtain⟨ad,a8,b3,A⟩:=I.pendq k a5 U;have ar:Py (Iq ops.toList []) i k=η:=ok.ord l1 (i::r) I.split k a5 i q!;have O:∀{b},U1 v ad b->U1 v' ad b:=by
  intro b J;unfold U1 at J⊢;cases hg:ad.guard with
  |none=>rw[hg]at J;exact J
  |some p=>
   obtain⟨j,want⟩:=p;rw[hg]at J;simp only at J⊢;have:j≠i:=by rintro rfl;have:=(ok.guard k ad j want a8 hg).1;rw[ar]at this;cases this
   rw[Z j this];exact J
 refine⟨ad,a8,b3,?_⟩;rw[Z k f];rcases A with⟨q1,q2⟩|⟨q1,rd,ei,q2,q3,q4,q5,q6,q7⟩;exact .inl ⟨O q1,q2⟩;refine .inr ⟨O q1,rd,ei,q2,λid S=>DM (q3 id S) (bz u H' T),q4,q5,λt ht=>?_,λa0 bb he hh=>q7 a0 bb he λid S=>?_⟩;obtain⟨c1,c2⟩:=q6 t ht;refine⟨λq hq bN D_=>?_,c2⟩;rw[c1 q hq bN D_,Z];rintro rfl;rw[ar]at D_;cases D_;rw[hh id S];apply a1.2 u H' T id (q3 id S);rcases bt (k,rd) q2 with h1|h1;have:=fU I.closed (i+1) i o o! n Y_ h1;simp only at this;rw[U]at this;cases this;exact h1 id S;obtain⟨e1,e2,e3,e4,o',t,z,bl,e5,e6,e7,e8,e9,bm⟩:=I.early1 k B g;have f:k≠i:=by rintro rfl;rw[E_]at e2;cases e2
 refine⟨(Av.1 e1).resolve_left f,by rw[HU hi,D! f];exact e2,e3,DM e4 x.size,o',t,z,bl,e5,e6,e7,?_,e9.later hl,λd a2=>?_⟩;exact(x.keep B e4 (I.sim.out B (.inr ⟨k,g⟩)).2).trans e8;rw[TX hd,D! (λe=>f (ok.uniq k i d (by rw[GH e5];exact a2) (by rw[GH n];exact e)))];exact bm d a2
theorem Inv.end_(ok:X0 ops N l)(s:Wy P ops=E)(p:∀B,X B→B<w0.heap.size){L:Array Bool}{a}{w}(e:∀i,i<ops.size→L.getD i η=E):
  ∀l2 l1 v c env H h early,Inv P N ops l Q env0 X h0 H0 w0 ds0 l1 l2 v c env H h early L a w->
  ∃o b g,Q b g/\St X o N b g a w/\HM h0 H0 w0 o g w/\a.defers=ds0
 |q::r,l1,v,c,env,H,h,early,I=>by
  cases j:early q with
  |some B=>obtain⟨G,b,g,o,d,y⟩:=I.adopt ok s p j;exact Inv.end_ ok s p e r _ G _ _ g o d y
  |none=>have J:=I.sub q (e q (ok.lt q (by rw[I.split];simp))) j;have E_:=ok.nodup;grind[I.split]
 |[],l1,v,c,env,H,h,early,I=>by
  have D_:∀k,early k=D:=by
   intro k;cases C:early k with
   |none=>rfl
   |some B=>have:=(I.early1 k B C).1;cases this
  have n:XR X early=X:=by funext B;apply propext;constructor;rintro(z|⟨k,x⟩);exact z;grind;exact .inl
  have f:=I.sim;rw[n]at f;refine⟨h,env,H,I.ra,⟨f,λt u m=>⟨by rw[I.size];exact I.keys t u m,?_⟩,I.size⟩,I.ext,I.nodefer⟩;rw[<-n,<-I.kn t u m];by_cases F:∃k∈l1,V5 ops k=Y t;have⟨k,x,A⟩:=F;rw[I.env1 k x t A];grind[Y4,I.slot1,Wq];grind[I.env2,I.slot2,I.sub]
def Mid.end_(ok:X0 ops N l)(x:Wy P ops=E)(u:∀B,X B→B<w0.heap.size){w}(M:Mid P N ops l Q env0 X h0 H0 w0 ds0 L s w)(hr:Region.ready .any ops L=[]):
  ∃o b g,Q b g/\St X o N b g s w/\HM h0 H0 w0 o g w/\s.defers=ds0:=by
 obtain⟨l1,l2,v,f,env,H,h,early,I⟩:=M;have c:∀(n i:S),i<n->i<ops.size->L.getD i η=E:=by
  intro n;induction n with
  |zero=>intro i h;omega
  |succ n z=>
   intro i q d;cases p:L.getD i η with
   |true=>rfl
   |false=>
    have m:i<L.size:=by rw[I.lsz];exact d
    have j:L.getD i E=η:=by rw[RE,ON m]at p⊢;simpa using p
    have t:ops[i]?=Y (ops[i]):=by simp[d]
    have a:i∈Region.ready .any ops L:=by rw[mem_ready];refine⟨j,_,t,λe y k=>?_⟩;have r:=ok.back i _ t e y k;exact z e.on o! o!
    rw[hr]at a;cases a
 exact Inv.end_ ok x u (λi q=>c (i+1) i o! q) l2 l1 v f env H h early I
theorem wh{p q:S->Bool}(h:∀j,q j=E->p j=E):∀l:Ψ S,(l.filter q).length<=(l.filter p).length
 |[]=>q!
 |y::r=>by have a:=wh h r;grind
theorem filter_lt{p:S->Bool}{i:S}{q:S->Bool}(b:∀j,q j=(p j&& ! τ (j=i))):∀(l:Ψ S),i∈l->p i=E->(l.filter q).length<(l.filter p).length
 |x::r,h,hp=>by
  have d:=wh (p:=p) (q:=q) (λj a=>by rw[b]at a;simp at a;exact a.1) r;by_cases e:x=i;grind;have c:i∈r:=k!
  have f:=filter_lt b r c hp;grind
theorem Mid.any(ok:X0 ops N l)(k:Wy P ops=E)(g:∀B,X B→B<w0.heap.size){f:Exit→Act→World→Prop}{ro}(e:∀L a w,Mid P N ops l Q env0 X h0 H0 w0 ds0 L a w→Region.ready .any ops L=[]→f .normal a w):
  ∀(b:S)L a w,((List.range ops.size).filter λi=>!L.getD i η).length<=b->Mid P N ops l Q env0 X h0 H0 w0 ds0 L a w->wpAnyIn (FR ro) 0 P .any ops f b L a w
 |0,L,a,w,hf,M=>by
  have hr:Region.ready .any ops L=[]:=by
   cases u:Region.ready .any ops L with
   |nil=>rfl
   |cons i r=>
    have d:i∈Region.ready .any ops L:=k!
    rw[mem_ready]at d;have:i∈(List.range ops.size).filter λi=>!L.getD i η:=k!
    grind
  exact⟨hr,e L a w M hr⟩
 |b+1,L,a,w,hf,M=>by
  refine⟨λhr=>e L a w M hr,λi d=>?_⟩;rw[mem_ready]at d;have⟨x,o,m,t⟩:=d;have c:L.getD i η=η:=k!
  refine wpOpIn_mono (λs v n=>Mid.any ok k g e b _ s v ?_ n) (Mid.step ok k g M m c t);have:=filter_lt (p:=λi=>!L.getD i η) (i:=i) (q:=λj=>!(L.setIfInBounds i E).getD j η) (λj=>by rw[HU k!];by_cases h:j=i<;>simp[h]) (List.range ops.size) (IJ.2 (Wq m)) (by simp[c]);omega
def lC{K:Exit→Env→Aw→Prop}(C:P.follows .mixedOrders=E)(l:Ψ Nat)(q:ACm ops N l=E)(r:Wy P ops=E)(p:(m.map (·.1)).Nodup)
  (h:RA P N ops l [] m H (K .normal)):J9 P N (.region n ops E) m H K:=by
 intro ro X g a w s _;have ok:=ABl q;have b:∀i,(Array.replicate ops.size η).getD i η=η:=by intro i;rw[RE];by_cases d:i<ops.size;simp[d];simp[d]
 have E_:({w with drawn:=w.drawn+1}:World)=w.drew:=rfl;apply wpIn_region_any C;rw[E_];refine Mid.any (Q:=K .normal) (env0:=m) (X:=X) (h0:=g) (H0:=H) (w0:=w) (ds0:=a.defers) ok r (λB c=>(s.sim.out B c).1) (λL I O M hr=>?_) ops.size _ a w.drew ?_ ?_;obtain⟨A,f,y,D_,F,G,z⟩:=M.end_ ok r (λB c=>(s.sim.out B c).1) hr;exact⟨A,f,y,D_,F,G,.same z⟩;exact Cq (EH _ _) q!;have x:=HM.drew (h:=g) (H:=H) (w:=w);have S:XR X (λ_=>D)=X:=by funext B;apply propext;constructor;rintro(c|⟨k,e⟩);exact c;cases e;exact .inl
 refine⟨[],l,λ_=>.any,[],m,H,g,λ_=>D,?_⟩;refine{split:=rfl,ra:=h,kn:=eO p,keys:=(λt u R=>by have:=(s.env t u R).1;rw[s.size]at this;exact this),env1:=(λk e=>by cases e),env2:=λt _=>rfl,sim:=(by rw[S];exact s.sim.drew),nodefer:=rfl,size:=s.size,slot1:=(λk t e _=>by rw[b]at e;cases e),slot2:=λt _=>(by rw[S];exact(k9 s.env t).later (x.later X)),sub:=(λi d=>by rw[b]at d;cases d),lsz:=q!,closed:=(λj o J v=>by rw[b]at v;cases v),pendq:=(λi d=>by cases d),ext:=x,early1:=(λi B c=>by cases c),early2:=(λi j B c=>by cases c)}
end
def qv:Ad->Ψ S
 |.ptr id _ _=>[id]
 |.sl id _ _ _ _=>[id]
 |_=>[]
def ABi(env:Env)(op:Op):Ψ S:=op.operands.toList.flatMap λx=>qv (BS env x)
theorem iE{a:Env}(h:∀t∈tmpsOf o,a.get t=m.get t):∀x∈o.op.operands,BS a x=BS m x:=by
 intro x b;cases x with
 |tmp t=>apply h t;unfold tmpsOf;rw[PK];exact⟨.tmp t,k!,rfl⟩
 |_=>rfl
def vD{a}{l:Ψ Operand}(h:∀x∈l,BS a x=BS m x):l.map (BS a)=l.map (BS m):=NS h
theorem xL{e}(h:∀x∈K.operands,BS e x=BS m x):Ci P e H K=Ci P m H K:=by
 cases K with
 |move x=>grind[Ci,Op.operands]
 |assign x=>grind[Ci,Op.operands]
 |pick c a b=>grind[Ci,Op.operands]
 |load t a=>grind[Ci,Op.operands]
 |nilCheck x=>grind[Ci,Op.operands]
 |binOp K t x y E_=>grind[Ci,Op.operands]
 |unOp K t x=>grind[Ci,Op.operands]
 |convert s d x=>grind[Ci,Op.operands]
 |fieldAddr s x f=>grind[Ci,Op.operands]
 |field s x f=>grind[Ci,Op.operands]
 |indexAddr t x i=>grind[Ci,Op.operands]
 |index t x i=>grind[Ci,Op.operands]
 |extract x i=>grind[Ci,Op.operands]
 |slice t x u o v=>
  have C:u.map (BS e)=u.map (BS m):=by cases u with|none=>rfl|some y=>simp[h y (by simp[Op.operands])]
  have B:o.map (BS e)=o.map (BS m):=by cases o with|none=>rfl|some y=>simp[h y (by simp[Op.operands])]
  have D_:v.map (BS e)=v.map (BS m):=by cases v with|none=>rfl|some y=>simp[h y (by simp[Op.operands])]
  grind[Ci,Op.operands]
 |makeFunc f a b=>simp only[Ci];rw[vD λx j=>h x (by simp only[Op.operands];exact Array.mem_append_left _ (by simpa using j)),vD λx j=>h x (by simp only[Op.operands];exact Array.mem_append_right _ (by simpa using j))]
 |build t g=>
  simp only[Ci];have:(g.toList.map λp=>(p.1,BS e p.2))=g.toList.map λp=>(p.1,BS m p.2):=NS λp w=>by rw[h p.2 (by simp only[Op.operands,List.mem_toArray,Bp];exact⟨p,w,rfl⟩)]
  rw[this]
 |call c=>
  obtain⟨n,args,k⟩:=c;simp only[Op.operands,Call.operands]at h;cases n with
  |value f=>simp[Ci]
  |invoke r l=>simp[Ci]
  |builtin b=>
   obtain⟨args⟩:=args;obtain⟨k⟩:=k;match args with
   |[]=>simp[Ci]
   |[x]=>
    have j:=h x q!;cases b<;>simp[Ci];match k with
    |[]=>rfl
    |[t]=>simp[j]
    |_::_::_=>rfl
   |[x,y]=>have j:=h x q!;have q:=h y q!;cases b<;>simp[Ci,j,q]
   |[x,y,z]=>have j:=h x q!;have q:=h y q!;have A:=h z q!;cases b<;>simp[Ci,j,q,A]
   |_::_::_::_::_=>cases b<;>rfl
 |_=>rfl
section
variable {P:Program}{H H':Aw}
theorem ag(h:H'[N]?=H[N]?):T7 H' N n=T7 H N n:=by grind[T7]
theorem AAU(h:∀id∈qv k,H'[id]?=H[id]?):Qb H' k n=Qb H k n:=by cases k<;>simp only[Qb];rw[h _ (by simp[qv])]
theorem vV(h:∀id∈qv k,H'[id]?=H[id]?):shift H' n k=shift H n k:=by cases k<;>simp only[shift];grind[ag,qv]
def ADW(h:∀id∈qv k,H'[id]?=H[id]?):qz P H' b k=qz P H b k:=rfl
theorem ABg(h:∀id∈ABi m K,H'[id]?=H[id]?):Ci P m H' K=Ci P m H K:=by
 have j:∀x∈K.operands,∀id∈qv (BS m x),H'[id]?=H[id]? :=λx j id n=>h id (by unfold ABi;rw[G0];exact⟨x,by simpa using j,n⟩);cases K with
 |load t a=>grind[Op.operands,Ci,jU,AAU]
 |nilCheck x=>grind[Op.operands,Ci,ag,qv]
 |convert s d x=>
  have g:=j x (by simp[Op.operands]);have hr:rowsOf H' (BS m x)=rowsOf H (BS m x):=by generalize BS m x=v at g;cases v<;>simp only[rowsOf];grind[qv]
  simp only[Ci,X4];grind[BS]
 |fieldAddr s x f=>grind[Op.operands,Ci,Wm,vV]
 |indexAddr t x i=>have g:=j x (by simp[Op.operands]);simp only[Ci,Wr];split<;>grind[vV,ag,qv]
 |slice t x p o q=>have g:=j x (by simp[Op.operands]);simp only[Ci];generalize BS m x=v at g;cases v<;>simp only[jJ];rw[ag (g _ (by simp[qv]))]
 |call c=>
  obtain⟨l,args,e⟩:=c;simp only[Op.operands,Call.operands]at j;cases l with
  |value f=>simp[Ci]
  |invoke r k=>simp[Ci]
  |builtin b=>
   obtain⟨args⟩:=args;obtain⟨e⟩:=e;match args with
   |[]=>simp[Ci]
   |[x]=>
    have g:=j x q!;cases b<;>simp only[Ci];match e with
    |[]=>rfl
    |[t]=>simp only;exact ADW g
    |_::_::_=>rfl
   |[x,y]=>cases b<;>simp[Ci]
   |[x,y,z]=>cases b<;>simp[Ci]
   |_::_::_::_::_=>cases b<;>rfl
 |_=>simp only[Ci]
def X5{v:Ad}(e:Ci P m H o.op=Y v):aL P N o m H (ABi m o.op) v:=by intro a b c d;refine Du (v:=v) ?_ ⟨rfl,rfl⟩;rw[xL (iE c),ABg d];exact e
end
section
variable {P:Program}{N:Nat}{o:Oper}{env:Env}{H:Aw}{K:Ad->Aw->Prop}
theorem qi{c:Call}
  (f:o.op=.call c) (m:c.callee=.value q) (G:BS env q=.fn (.func A) x g) (D_:Enters P A=E)
  (E_:Ej P A (o7 env c x g) H K):Jw P N o env H K:=by
 apply C9 (by rw[f];rfl);intro X h a w s Q;have k:=Dp s.env q;rw[G]at k
 obtain⟨b,e,r,t,C,I,J⟩:∃b e,a.eval q=.func (.func A) b e∧b.size=W x∧e.size=W g∧
   (∀(j:S)(v:Ad)(c:Value),x[j]?=Y v->b[j]?=Y c->Bz (cx X h H w) v c)/\(∀(j:S)(v:Ad)(c:Value),g[j]?=Y v->e[j]?=Y c->Bz (cx X h H w) v c):=by
  generalize a.eval q=cf at k;cases k<;>grind
 have L:(execOp a.eval o).run P w=.ok (.enter A (b++c.args.map a.eval++e)) w:=by unfold execOp;rw[f];simp only[resolve,m,r,Deferred.ofValue,Sem.run_bind,Sem.run_pure,Result.andThen_ok,invoke,jH D_]
 unfold Oper.wp;rw[L];simp only[Oper.upon_enter];have i:∀(j:S)(v:Ad)(d:Value),(o7 env c x g)[j]?=Y v->(b++c.args.map a.eval++e)[j]?=Y d->Bz (cx X h H w) v d:=by
  intro j v d l n;unfold o7 at l;rcases Az j (W x+c.args.size)with y|u;rw[CZ w!]at l;rw[Yw w!]at n;rcases Az j (W x) with z|p
  grind;rw[Cn p,CT]at l;rw[uC o!,dE,t]at n;cases B:c.args[j-W x]? with
  |none=>grind
  |some F=>rw[B]at n;rw[QG,B]at l;simp only[Bu,Ar]at l n;subst l n;exact Dp s.env F
  grind
 refine(E_ X h w _ s.sim ?_ i).mono ?_;simp[o7,t,C];grind
def Ta(P:Program)(env:Env)(t:TypeId)(len:S)(parts:Array (S×Operand)):Ω (S×Ψ Ad):=
 match eI P t with
 |some (D,e,sz)=>
  let vs:=parts.toList.map λp=>BS env p.2
  if 0<sz/\Sq P e=E/\parts.toList.map (·.1)=List.range len/\(vs.all λv=>v.solid&&τ (W v.cells=sz))=E/\len<=4096/\sz<=4096 then Y (sz,vs)else D
 |_=>D
theorem V6{len sz:S}{vs:Ψ Ad}(c:o.op=.buildSlice b len z)(d:Ta P env b len z=Y (sz,vs))(t:K (.vs sz vs) H):Jw P N o env H K:=by grind[Ta,Jw.buildSlice]
theorem eQ{t:TypeId}{len sz:Nat}{f:Array (Nat×Operand)}{T:Ψ Ad}(ho:o.op=.buildSlice t len f)(r:Ta P env t len f=Y (sz,T))
  (hk:K (.sl (θ H) 0 sz 0 (θ T)) (H++[.live 0 (T.flatMap Ad.cells)])):Jw P N o env H K:=by
 unfold Ta at r;split at r
 case h_2=>cases r
 rename_i e y he;simp only at r;split at r
 case isFalse=>cases r
 rename_i L;obtain⟨a6,a4,F,a',O⟩:=L;simp only[Ar,Ee]at r;obtain⟨rfl,a9⟩:=r;have ap:∀v∈T,v.solid=E/\θ v.cells=y:=λv S=>by grind[List.all_eq_true]
 apply C9 (by rw[ho];rfl);intro X h a w s Q;obtain⟨ar,b,hi⟩:=RI he;obtain⟨i,z,G,_,hz,bb⟩:=Uw a4;have B:=mi hi G;have hl:θ T=len:=by have k:=E! θ F;grind[θ]
 let A:Ψ Value:=f.toList.map λp=>a.eval p.2;have V:θ A=len:=by grind[θ]
 have R:∀(j:Nat)(v:Ad)(c:Value),T[j]?=Y v->A[j]?=Y c->Bz (cx X h H w) (.agg v.cells) (.agg c.cells)/\θ v.cells=y:=by
  intro j v c S L;have Z:=ap v (BP S);refine⟨?_,Z.2⟩;subst a9;simp only[A,CT]at S L;cases r:f.toList[j]? with
  |none=>rw[r]at S;cases S
  |some p=>rw[r]at S L;simp only[Bu,Ar]at S L;subst S L;exact XW (Dp s.env p.2) Z.1
 have J:∀c∈A,c.cells.size=y:=by
  intro c L;obtain⟨j,g⟩:=Db L;have Y_:j<θ T:=by grind[Nat.lt_or_ge,u?]
  obtain⟨k,n⟩:=R j _ c (Au Y_) g;cases k<;>grind
 have ax:(f.map λq=>(q.1,a.eval q.2)).toList=(A.zipIdx 0).map λx=>(x.2,x.1):=by
  apply JW;intro j;simp only[Array.toList_map,CT,List.getElem?_zipIdx,DY,A];cases r:f.toList[j]? with
  |none=>rfl
  |some p=>
   have k:(f.toList.map (·.1))[j]?=Y p.1:=by rw[CT,r];rfl
   rw[F]at k;have Y_:j<len:=by rcases Az j len with n|n;exact n;rw[Ct (by simpa using n)]at k;cases k
   rw[Rn Y_]at k;simp only[Ar]at k;simp[k]
 have C:∀l:Ψ Value,(∀c∈l,c.cells.size=y)->(l.flatMap λc=>c.cells.toList).length=θ l*y:=by
  intro l;induction l with
  |nil=>simp
  |cons c l ih=>intro hl;simp only[Ih,AZ,Dy,hl c q!,ih (λd M=>hl d (Ca _ M)),Bh,EJ];omega
 have W:(A.flatMap λc=>c.cells.toList).length=len*y:=by rw[C A J,V]
 have I:∃D_:Array Value,(execOp a.eval o).run P w=.ok (.value (.slice (Y ⟨w.heap.size,0,D⟩) len len)) {w with heap:=w.heap.push (.cells D_ e)}/\D_.toList=A.flatMap λc=>c.cells.toList:=by
  unfold execOp;rw[ho];by_cases h0:len=0;subst h0;have:A=[]:=Eh V;refine⟨#[],?_,by rw[this];rfl⟩;have r:f= #[]:=by have k:=E! θ F;simp at k;exact k
  simp[Instr.buildSlice,run_underlying ar,Lr hi,r,Instr.fill,newRow,show Array.range 0= #[]from rfl];refine⟨(A.flatMap λc=>c.cells.toList).toArray,?_,rfl⟩;have al:¬len*i.size=0:=by rw[B];exact Nat.mul_ne_zero h0 o!
  have a5:¬len*i.size>2^24:=by rw[B];have:=nj O.1 O.2;omega
  have hf:=Go.Great.fill_whole (s:=y) a6 A ((Array.range (len*i.size)).map (z.cells[· %z.cells.size]!)) J (by simp[V,B]);have:=run_buildSlice (P:=P) w t e len (f.map λq=>(q.1,a.eval q.2)) _ i z ar G hz a5 al (by rw[ax,B]at*;exact hf);simp only[Sem.run_bind];rw[show(f.map λx=>match x with|(i,x)=>(i,a.eval x))=(f.map λq=>(q.1,a.eval q.2))from rfl,this];rfl
 obtain⟨D_,I,ad⟩:=I;unfold Oper.wp;rw[I,Oper.upon_value]
 have U:∀(l:Ψ Ad)(m:Ψ Value),θ m=θ l→(∀(j:Nat)(v:Ad)(c:Value),l[j]?=Y v→m[j]?=Y c→Bz (cx X h H w) (.agg v.cells) (.agg c.cells))→
   Bz (cx X h H w) (.agg (l.flatMap Ad.cells)) (.agg (m.flatMap λc=>c.cells.toList).toArray):=by
  intro l;induction l with
  |nil=>intro m Z _;have:m=[]:=Eh (by simpa using Z);subst this;exact .agg rfl (λj c g=>by simp at g) λj v c g=>by simp at g
  |cons v l ih=>
   intro m Z hr;cases m with
   |nil=>simp at Z
   |cons c m=>
    have r0:=hr 0 v c rfl rfl;have r1:=ih m (by simpa using Z) λj v' c' k n=>hr (j+1) v' c' (by simpa using k) (by simpa using n);cases r0 with
    |agg ao a1 a7=>
     cases r1 with
     |agg a3 a2 a8=>
      have e2:(m.flatMap λc=>c.cells.toList).length=(l.flatMap Ad.cells).length:=by simpa using a3
      refine .agg (by simp[e2,ao]) (λj d g=>?_) λj u d g M=>?_;simp only[Ih,fh]at g;rcases Az j c.cells.size with n|n;rw[CZ (by simpa using n)]at g;exact a1 j d (by simpa using g);rw[Cn (by simpa using n)]at g;exact a2 _ d (by simpa using g);simp only[Ih,fh]at g M;rcases Az j c.cells.size with n|n;rw[CZ (by simpa using n)]at M;rw[CZ o!]at g;exact a7 j u d g (by simpa using M);rw[Cn (by simpa using n)]at M;rw[Cn o!]at g;rw[Dy,ao]at M;exact a8 _ u d g (by simpa using M)
 have a0:=U T A o! λj v c k n=>(R j v c k n).1;have E_:D_=(A.flatMap λc=>c.cells.toList).toArray:=by rw[<-ad]
 have hh:=Qi a0;rw[<-E_]at hh;refine⟨_,_,_,_,rfl,hk,.sl (by simp[cx]) (by simp[cx,Gh.at_]) ⟨_,_,by rw[hl]⟩ λ_=>.inr ⟨w.heap.size,len,by simp[cx,Gh.at_],o!,?_,by rw[hl]⟩,s.sim.push D_ e (0,0) _ hh,HM.push _ _ _⟩;simp only[cx,Gh.at_,if_true,E_,fk,W];omega
theorem mz{U:IntKind}{c:Int}{sz:Nat}(ho:o.op= .makeSlice b q v)(he:eI P b=some (none,Z,sz))(ar:0<sz)(M:Sq P Z=true)(hz:Zk P Z=some g)(R:g.length=sz)
  (hx:BS env q= .int I i) (hy:BS env v= .int U c) (h0:0<=i) (h1:i<=c) (h2:c<=16777216) (hk:K (.sl H.length 0 sz 0 i.toNat) (H++[.live 0 (List.replicate i.toNat g).flatten])):Jw P N o env H K:=by
 apply C9 (by rw[ho];rfl);intro X h a w s Q;obtain⟨O,l,hi⟩:=RI he;obtain⟨z,zv,V,ad,T,S⟩:=Uw M;have k:=mi hi V;obtain⟨n,d,ao,ax,D_⟩:=ff (cx X h H w) hz;have:n=z:=by grind[Option.some.inj]
 subst this;have:d=zv:=by grind[Option.some.inj]
 subst this;have W:=Dp s.env q;have Y_:=Dp s.env v;rw[hx]at W;rw[hy]at Y_;have ex:a.eval q= .int I i:=by generalize a.eval q=t at W;cases W;rfl
 have ey:a.eval v= .int U c:=by generalize a.eval v=t at Y_;cases Y_;rfl
 have F:(n.bytes:Int)*c<=281474976710656:=by have:(n.bytes:Int)*c<=1048576*16777216:=Int.mul_le_mul o! h2 o! o!;omega
 have y:=run_make (P:=P) w b Z n d O V T I U i c h0 h1 F o!;have G:(execOp a.eval o).run P w= .ok (.value (.slice (some ⟨w.heap.size,0,none⟩) i.toNat c.toNat)) (w.alloc (.cells (madeCells d.cells (c.toNat*n.size)) Z)):=by unfold execOp;grind[Sem.run_bind,Result.andThen_ok,Sem.run_pure]
 unfold Oper.wp;rw[G,Oper.upon_value];have p:d.cells.size=sz:=by rw[S,k]
 have hh:Holds (cx X h H w) (List.replicate i.toNat g).flatten (madeCells d.cells (c.toNat*n.size)) (0,0):=by
  have x:(List.replicate i.toNat g).flatten.length=i.toNat*sz:=by simp[R]
  have A:i.toNat*sz<=c.toNat*n.size:=by rw[k];exact NU _ o!
  have B: ∀(m j:Nat),j<m*sz->(List.replicate m g).flatten[j]? =g[j%sz]? :=by
   intro m;induction m with
   |zero=>intro j E_;omega
   |succ m ih=>intro j E_;rw[ng,qO];rcases Az j sz with ap|al;grind[List.getElem?_append_left,Nat.mod_eq_of_lt];grind[List.getElem?_append_right,Nat.add_mul,Nat.mod_eq_sub_mod]
  refine⟨λj=>d.cells.getD (j%sz) undef,by rw[x,size_madeCells];exact A,λ_ _=>q!,λj e E_=>?_⟩;have C:j<i.toNat*sz:=by grind[Nat.lt_or_ge,u?]
  rw[B _ _ C]at E_;have u:j%sz<d.cells.size:=by grind[Nat.mod_lt]
  have f:d.cells[j%sz]? =some (d.cells[j%sz]'u):=ON u;have J:d.cells.getD (j%sz) undef=d.cells[j%sz]'u:=by rw[RE,f];rfl
  have r:(madeCells d.cells (c.toNat*n.size))[j]? =some (d.cells[j%sz]'u):=by
   unfold madeCells;rw[dE,Array.getElem?_range,if_pos (DM C A)];have L:j%d.cells.size<d.cells.size:=by rw[p];rw[p]at u;exact u
   rw[Bu,getElem!_pos d.cells _ L];simp only[p]
  simp only[J];cases D_ with
  |agg q1 q2 q3=>exact⟨r,q2 _ _ f,q3 _ _ _ E_ f⟩
 refine⟨_,_,_,_,rfl,hk,.sl (by simp[cx]) (by simp[cx,Gh.at_]) ⟨_,_,rfl⟩ λ_=>.inr ⟨w.heap.size,c.toNat,by simp[cx,Gh.at_],o!,?_,rfl⟩,s.sim.push _ Z (0,0) _ hh,HM.push _ _ _⟩;simp[cx,Gh.at_,size_madeCells,k]
end
section
variable {X:Nat->Prop}{h:Gh}{H:Aw}{w:World}
def JT.loopSet(s:JT X h H w){L:nG}{r:Loop}(g:H[N]?=Y (.lp L))(f:h.io N=Y n)(C:w.heap[n]?=Y (.loop r))(st:LoopState)(p:Ω Code):
  JT X h (H.set N (.lp {L with state:=st,pending:=p})) (w.putObj n (.loop {r with state:=st,pending:=p}))/\HM h H w h (H.set N (.lp {L with state:=st,pending:=p})) (w.putObj n (.loop {r with state:=st,pending:=p})):=by
 have d:N<W H:=by rcases Az N (W H) with c|c;exact c;rw[Ct c]at g;cases g
 have D_:HM h H w h (H.set N (.lp {L with state:=st,pending:=p})) (w.putObj n (.loop {r with state:=st,pending:=p})):=by refine⟨rfl,rfl,rfl,q!,λk M hn=>?_,q!,λ_ _=>Al _,λ_ _ _=>⟨rfl,rfl⟩,λk B=>?_,λk y O=>?_⟩;refine World.putObj_heap_other λe=>?_;subst e;exact hn ⟨N,_,g,q!,f⟩;obtain⟨i,e,l,j,c⟩:=B;rcases Jv d l with⟨G,b⟩|⟨rfl,_⟩;exact .inl ⟨i,e,b,j,c⟩;exact .inl ⟨i,_,g,q!,c⟩;by_cases e:k=n;subst e;exact⟨_,World.putObj_heap_same (tM C)⟩;exact⟨y,by rw[World.putObj_heap_other e,O]⟩
 refine⟨s.of_ext D_ (λi e l j=>?_) (λi P z A k l c u x T o=>?_),D_⟩;rcases Jv d l with⟨G,b⟩|⟨rfl,rfl⟩;refine .inl ⟨b,rfl,rfl,rfl,λE_ a=>World.putObj_heap_other λe=>?_⟩;subst e;exact G (s.inj i N _ _ E_ b g j q! a f);obtain⟨K,E_,S,a,q,l,c,T,o,I,J,F⟩:=s.lp i L g;rw[show(cx X h H w).io i=h.io i from rfl,f]at a;injection a with e;subst e;rw[show(cx X h H w).w.heap=w.heap from rfl,C]at q;injection q with e;injection e with e;subst e;refine .inr (.inr ⟨_,rfl,K,n,_,f,World.putObj_heap_same (tM C),rfl,rfl,T,o,I,J,λt v m=>⟨(F t v m).1,(F t v m).2.later (D_.later X)⟩⟩);rcases Jv d l with⟨Q,z⟩|⟨rfl,_⟩<;>rcases Jv d c with⟨R,A⟩|⟨rfl,_⟩;exact s.inj _ _ _ _ k z A u x T o;exact s.inj _ _ _ _ k z g u q! T o;exact s.inj _ _ _ _ k g A q! x T o;rfl
def JT.kill(s:JT X h H w)(a:N<W H):JT X h (H.set N .dead) w/\HM h H w h (H.set N .dead) w:=by
 have n:HM h H w h (H.set N .dead) w:=by refine⟨rfl,rfl,rfl,Al _,λk r hn=>rfl,q!,λ_ _=>Al _,λ_ _ _=>⟨rfl,rfl⟩,λk t=>?_,λk y u=>⟨y,u⟩⟩;obtain⟨i,e,d,b,j⟩:=t;rcases Jv a d with⟨q,c⟩|⟨rfl,rfl⟩;exact .inl ⟨i,e,c,b,j⟩;exact(b rfl).elim
 refine⟨s.of_ext n (λi e d b=>?_) (λi x l m k d j f g o p=>?_),n⟩;rcases Jv a d with⟨q,c⟩|⟨rfl,rfl⟩;exact .inl ⟨c,rfl,rfl,rfl,λv _=>rfl⟩;exact(b rfl).elim;rcases Jv a d with⟨z,l⟩|⟨rfl,rfl⟩;rcases Jv a j with⟨A,m⟩|⟨rfl,rfl⟩;exact s.inj _ _ _ _ k l m f g o p;exact(g rfl).elim;exact(f rfl).elim
end
def R2:Env->Ψ Tmp->Ψ Ad->Env
 |env,t::ts,v::vs=>R2 (env.put t v) ts vs
 |env,_,_=>env
theorem nT{x}:∀(d:Ψ Tmp)(e:Ψ Ad)(b:Ψ Value)env(a:Act),(∀t∈d,t<a.tmps.size)→W b=W e→
  (∀(j:S)(v:Ad)(c:Value),e[j]?=Y v->b[j]?=Y c->Bz x v c)->PB x env a->
  PB x (R2 env d e) {a with tmps:=(d.zip b).foldl (λ(tmps:Array Value)(q:Tmp×Value)=>tmps.setIfInBounds q.1 q.2) a.tmps}
 |[],e,b,env,a,_,_,_,h=>by simpa[R2]using h
 |t::d,[],b,env,a,_,hl,_,h=>by have:b=[]:=Eh k!;subst this;simpa[R2]using h
 |t::d,v::e,c::b,env,a,ht,hl,hr,h=>by
  have f:=h.put (ht t q!) (hr 0 v c rfl rfl);exact nT d e b (env.put t v) (a.put (Y t) c) (λu i=>by rw[fW];exact ht u (Ca _ i)) k!
   (λj k g f l=>hr (j+1) k g k! k!) f
def lG:∀(l:Ψ (Tmp×Value))a,(l.foldl (λ(tmps:Array Value)(q:Tmp×Value)=>tmps.setIfInBounds q.1 q.2) a).size=a.size
 |[],a=>rfl
 |q::l,a=>by rw[Yf,lG l];simp
def AFs(id:S)(K:Ad->Aw->Prop):Exit->Env->Aw->Prop
 |.normal,_,H=>∃L,H[id]?=Y (.lp L)/\K (.bool E) (H.set id (.lp {L with state:=.ready,pending:=D}))
 |.ret,_,H=>∃L,H[id]?=Y (.lp L)/\K (.bool η) (H.set id (.lp {L with state:=.done,pending:=Y .ret}))
 |.exit k,_,H=>∃L,H[id]?=Y (.lp L)/\K (.bool η) (H.set id (.lp {L with state:=.done,pending:=Y (.exit k)}))
 |_,_,_=>False
section
variable {P:Program}{N:Nat}{o:Oper}{env:Env}{H:Aw}{K:Ad->Aw->Prop}
theorem Jw.yield{c:Call}{L:nG}(ho:o.op=.call c)(O:c.callee=.value q)(hf:BS env q=.yf n)(he:H[n]?=Y (.lp L))
  (hn:c.args.size=L.params.size) (a5:(L.params.toList.all λt=>decide (t<L.n))=E)
  (hw:J9 P L.n L.assign (R2 L.env L.params.toList (c.args.toList.map (BS env))) H λe env1 H1=>e=.normal/\∃A,H1[n]?=Y (.lp A)/\A.state=.ready/\J9 P L.n L.body env1 (H1.set n (.lp {A with state:=.busy})) (AFs n K)):Jw P N o env H K:=by
 intro ro X h a w s Q;obtain⟨hg,B,r,F,hb,h1,h2,h3,h4,h5,h6,h7⟩:=s.sim.lp n L he;have F:h.io n=Y B:=F;have hb:w.heap[B]?=Y (.loop r):=hb;have G:=Dp s.env q;rw[hf]at G;have al:a.eval q=.func (.yield B) #[] #[]:=by generalize a.eval q=cf at G;cases G<;>grind
 have Y_:(execOp a.eval o).run P w=.ok (.round B r.fn ((r.params.zip (c.args.map a.eval)).foldl (λtmps (t,a)=>tmps.setIfInBounds t a) r.tmps) r.assign r.body) w:=by unfold execOp;rw[ho];simp only[resolve,O,al,Deferred.ofValue,Sem.run_bind,Sem.run_pure,Result.andThen_ok,invoke];rw[show(#[]++c.args.map a.eval:Array Value)=c.args.map a.eval by simp];exact run_yield hb (by rw[Array.size_map,hn,h3])
 refine⟨λ_ _=>P!,?_⟩;rw[Oper.semAt_eq _ _ _ (λc hc=>by rw[ho]at hc;cases hc),Y_,Oper.uponIn_round];refine⟨(λh=>by cases h),?_⟩;let R:Ending->World->Prop:=λe I=>∃c v y M,e=.returned c/\K v M/\Bz (cx X y M I) v c/\JT X y M I/\HM h H w y M I;refine RoundIn.mono (R:=R) ?_ (by rintro e I ⟨c',v,y,M,rfl,k,hv,hs,hx⟩;exact⟨c',v,y,M,rfl,k,hv,hs,hx⟩);apply roundIn_of_wpIn trivial;have a3:((r.params.zip (c.args.map a.eval)).foldl (λtmps (t,a)=>tmps.setIfInBounds t a) r.tmps)=((L.params.toList.zip (c.args.toList.map a.eval)).foldl (λ(tmps:Array Value)(f:Tmp×Value)=>tmps.setIfInBounds f.1 f.2) r.tmps):=by grind[Array.toList_zip,Array.toList_map]
 rw[a3,h4,h5];have Z:St X h L.n (R2 L.env L.params.toList (c.args.toList.map (BS env))) H {tmps:=(L.params.toList.zip (c.args.toList.map a.eval)).foldl (λ(tmps:Array Value)(f:Tmp×Value)=>tmps.setIfInBounds f.1 f.2) r.tmps,defers:=[]} w:=by
  refine⟨s.sim,?_,by rw[lG,h6]⟩;refine nT (x:=cx X h H w) L.params.toList (c.args.toList.map (BS env)) (c.args.toList.map a.eval) L.env {tmps:=r.tmps,defers:=[]} (λt ht=>?_) q! (λj v d hj hd=>?_) (λt v m=>⟨by rw[h6];exact(h7 t v m).1,(h7 t v m).2⟩);grind;rw[CT]at hj hd;cases hx:c.args.toList[j]? with
  |none=>grind
  |some x=>rw[hx]at hj hd;simp only[Bu,Ar]at hj hd;subst hj hd;exact Dp s.env x
 refine wpIn_mono (hw (Y B) X h _ w Z λl e=>by injection e with e;subst e;exact⟨r,hb⟩) ?_;rintro e a1 w1 ⟨y,env1,H1,⟨rfl,A,S,a0,E_⟩,s1,x1,_⟩;obtain⟨U,J,r1,g,p,q1,q2,q3,q4,q5,q6,q7⟩:=s1.sim.lp n A S;have g:y.io n=Y J:=g;have p:w1.heap[J]?=Y (.loop r1):=p;have V:n<θ H:=by rcases Az n (θ H) with h2|h2;exact h2;grind[u?]
 have eB:J=B:=by have:=(x1.same n V (by rw[show y.gen n=0 from U,show h.gen n=0 from hg])).1;rw[g,F]at this;injection this
 subst eB;obtain⟨ar,ad⟩:=s1.sim.loopSet S g p .busy A.pending;have ap:({r1 with state:=.busy}:Loop)={r1 with state:=.busy,pending:=A.pending}:=by rw[<-q2]
 refine⟨_,run_beginRound p (by rw[q1,a0]),?_⟩;rw[ap];refine wpIn_mono (E_ (Y J) X y a1 _ ⟨ar,s1.env.later (ad.later X),s1.size⟩ λl e=>by injection e with e;subst e;exact⟨_,World.putObj_heap_same (tM p)⟩) ?_;rintro e a2 w2 ⟨D_,env2,H2,f,s2,x2,_⟩
 have C:∀(b:Ω Code)u,H2[n]?=Y (.lp u)→K (.bool b.isNone) (H2.set n (.lp {u with state:=if b.isNone then .ready else .done,pending:=b}))→
   ∃v I,(Instr.endRound J b).run P w2=.ok v I/\R (.returned v) I:=by
  intro b u T hk;obtain⟨ao,B2,r2,i,z,p1,p2,p3,p4,p5,p6,p7⟩:=s2.sim.lp n u T;have i:D_.io n=Y B2:=i;have z:w2.heap[B2]?=Y (.loop r2):=z;have W:n<θ H1:=DM V x1.n;have eB:B2=J:=by have:=(x2.same n (by simpa using W) (by rw[show D_.gen n=0 from ao,show y.gen n=0 from U])).1;rw[i,g]at this;injection this
  subst eB;obtain⟨ax,a4⟩:=s2.sim.loopSet T i z (if b.isNone then .ready else .done) b;exact⟨_,_,run_endRound b z,_,_,D_,_,rfl,hk,.bool _,ax,((x1.trans ad).trans x2).trans a4⟩
 cases e with
 |normal=>obtain⟨u,q1,q2⟩:=f;exact C D u q1 q2
 |ret=>obtain⟨u,q1,q2⟩:=f;exact C (Y .ret) u q1 q2
 |exit k=>obtain⟨u,q1,q2⟩:=f;exact C (Y (.exit k)) u q1 q2
 |_=>exact f.elim
end
section
variable {P:Program}{N:Nat}{env:Env}{H:Aw}{Q:Exit->Env->Aw->Prop}
def AFm(P:Program)(N:S)(env:Env)(id:S)(Q:Exit->Env->Aw->Prop)(H:Aw):Prop:=
 ∃L,H[id]?=Y (.lp L)/\L.state≠.busy/\(match L.pending with
  |none=>Q .normal env (H.set id .dead)
  |some c=>J9 P N c env (H.set id .dead) Q)
def AA8{R:Ending->World->Prop}(h:Calls P A y d R):CallsIn (FR u) n P A y d R:=by
 have a:CallsIn Fence.wide n P A y d R:=callsIn_wide.2 h;cases u with
 |none=>exact a
 |some l=>exact a
theorem my{f:Operand}{z:Array Tmp}{assign body:Code}{first o:Ψ Ad}{G:FuncId}(env0:Env)(ao:∀p∈env0,p∈env)(hf:BS env f=.fn (.func G) first o)(hE:Enters P G=E)
  (U:Ej P G (first++[.yf (θ H)]++o) (H++[.lp ⟨N,env0,z,assign,body,.ready,D⟩]) λ_ E_=>AFm P N env (θ H) Q E_):J9 P N (.rangeFunc f z assign body) env H Q:=by
 intro r X h a w s k;have Y_:=Dp s.env f;rw[hf]at Y_
 obtain⟨b,g,ap,n1,n2,a0,a1⟩:∃b g,a.eval f=.func (.func G) b g∧b.size=θ first∧g.size=θ o∧
   (∀(j:Nat)(v:Ad)(c:Value),first[j]?=Y v->b[j]?=Y c->Bz (cx X h H w) v c)/\(∀(j:Nat)(v:Ad)(c:Value),o[j]?=Y v->g[j]?=Y c->Bz (cx X h H w) v c):=by
  generalize a.eval f=cf at Y_;cases Y_<;>grind
 have main:∀i(u:Loop)(mark:Ψ Deferred),JT X h H i→HM h H w h H i→u.state=.ready→u.pending=D→u.tmps=a.tmps→u.params=z→u.assign=assign→u.body=body→mark.Nodup→
   (∀d∈mark,∃D_,d={target:=.collected D_,args:= #[]}/\w.heap.size<=D_/\i.heap[D_]?=Y (.deferred (Y [])))->
   CallsIn (FR r) (0-1) P G (b++ #[.func (.yield i.heap.size) #[] #[]]++g) (i.alloc (.loop u))
    (rangePost (FR r) 0 P i.heap.size (λe a' Z=>∃I F E_,Q e F E_/\St X I N F E_ a' Z/\HM h H w I E_ Z/\WS a w a' Z) {a with defers:=mark++a.defers}):=by
  intro i u mark s0 C e1 e2 e3 e4 e5 e6 ar V;have xp:=HM.push (h:=h) (H:=H) (w:=i) (.loop u) 0 (.lp ⟨N,env0,z,assign,body,.ready,D⟩);have sp:=s0.push_any (.loop u) 0 (.lp ⟨N,env0,z,assign,body,.ready,D⟩) λ_=>.inr ⟨_,rfl,by simp[cx,Gh.at_],i.heap.size,u,by simp[cx,Gh.at_],by show(i.heap.push (.loop u))[i.heap.size]?=_;simp,e1,e2,e4,e5,e6,by rw[e3];exact s.size,λt v m=>by obtain⟨m1,m2⟩:=s.env t v (ao _ m);refine⟨by rw[<-s.size];exact m1,?_⟩;rw[e3];exact m2.later ((C.trans xp).later X)⟩;have ea:i.alloc (.loop u)={i with heap:=i.heap.push (.loop u)}:=rfl;rw[ea];generalize a5:({i with heap:=i.heap.push (.loop u)}:World)=W1 at xp sp;generalize a6:h.at_ (θ H) (Y i.heap.size) 0 0=g1 at xp sp;have R:g1.gen (θ H)=0/\g1.io (θ H)=Y i.heap.size:=by grind[Gh.at_]
  have hl:=(C.trans xp).later X;have ax:(b++ #[Value.func (.yield i.heap.size) #[] #[]]++g).size=(first++[Ad.yf (θ H)]++o).length:=by simp[n1,n2];omega
  have S:∀(j:Nat)(v:Ad)(c:Value),(first++[Ad.yf (θ H)]++o)[j]?=Y v->(b++ #[Value.func (.yield i.heap.size) #[] #[]]++g)[j]?=Y c->Bz (cx X g1 (H++[.lp ⟨N,env0,z,assign,body,.ready,D⟩]) W1) v c:=by
   intro j v c J y;rcases Az j (θ first+1)with a4|a2;rw[CZ w!]at J;rw[Yw w!]at y;rcases Az j (θ first) with al|a3
   rw[CZ al]at J;rw[Yw o!]at y;exact(a0 j v c J y).later hl;have:j=θ first:=o!
   subst this;rw[Cn (Al _),G2]at J;rw[uC o!,n1,G2]at y;simp at J y;subst J y;exact .yf (by simp[cx]) rfl λ_=>⟨i.heap.size,R.2,rfl⟩
   rw[Cn w!]at J;rw[uC w!]at y;refine(a1 _ v c ?_ y).later hl;simpa[n1]using J
  have hC:=U X g1 W1 _ sp ax S;apply (AA8 hC).mono;rintro e Z ⟨c,v,I,E_,rfl,⟨L,hL,T,hQ⟩,sc,rv,x⟩;obtain⟨hg,B,M,A,hb,q1,q2,q3,q4,q5,q6,q7⟩:=sc.lp (θ H) L hL;have A:I.io (θ H)=Y B:=A;have hb:Z.heap[B]?=Y (.loop M):=hb;have eB:B=i.heap.size:=by have:=(x.same (θ H) q! (by rw[show I.gen (θ H)=0 from hg,R.1])).1;rw[A,R.2]at this;injection this
  subst eB;obtain⟨s2,x2⟩:=sc.loopSet hL A hb .exhausted M.pending;have ad:θ H<(E_.set (θ H) (.lp {L with state:=.exhausted,pending:=M.pending})).length:=by have:=x.n;simp at this⊢;omega
  obtain⟨s3,x3⟩:=s2.kill ad;rw[Yr]at s3 x3;have O:=((xp.trans x).trans x2).trans x3;have st:St X I N env (E_.set (θ H) .dead) {a with defers:=mark++a.defers} (Z.putObj i.heap.size (.loop {M with state:=.exhausted,pending:=M.pending})):=⟨s3,λt v m=>⟨(s.env t v m).1,(s.env t v m).2.later ((C.trans O).later X)⟩,s.size⟩
  have df:WS a w {a with defers:=mark++a.defers} (Z.putObj i.heap.size (.loop {M with state:=.exhausted,pending:=M.pending})):=by refine⟨mark,rfl,ar,λd hd=>?_⟩;obtain⟨D_,h1,h2,h3⟩:=V d hd;exact⟨D_,h1,h2,O.defs s0 h3⟩
  refine⟨M.pending,_,run_endLoop hb (by rw[q1];exact T),?_⟩;rw[q2]at*;cases hp:L.pending with
  |none=>rw[hp]at hQ st df O;exact⟨I,env,_,hQ,st,C.trans O,df⟩
  |some cd=>rw[hp]at hQ st df O s3;apply wpIn_mono (hQ r X I _ _ st (k.later (C.trans O)));rintro e' a' a7 ⟨h2,env2,H2,q,s',x',d'⟩;exact⟨h2,env2,H2,q,s',(C.trans O).trans x',df.trans s3 (C.trans O) x' d'⟩
 have K:∀l W,(resolve a.eval (rangeCall f l) 0).run P W=.ok {target:=.fn (.func G) g,args:=b++ #[.func (.yield l) #[] #[]]} W:=by intro l W;have y:a.eval (.const (.func (.yield l) #[] #[]))=.func (.yield l) #[] #[]:=rfl;simp[resolve,ap,y,Deferred.ofValue]
 refine wpIn_rangeFunc λfn _=>?_;cases r with
 |none=>
  have C:HM h H w h H (w.alloc (.deferred (Y []))):=HM.grow rfl rfl rfl (by show _<=(w.heap.push _).size;simp) λk hk=>by show(w.heap.push _)[k]?=_;grind
  have s0:JT X h H (w.alloc (.deferred (Y []))):=s.sim.grow rfl rfl rfl (by show _<=(w.heap.push _).size;simp) λk hk=>by show(w.heap.push _)[k]?=_;rw[UB,D! o!]
  have hm:=main (w.alloc (.deferred (Y []))) {state:=.ready,pending:=D,fn,tmps:=a.tmps,params:=z,assign,body,defers:=w.heap.size} [{target:=.collected w.heap.size,args:= #[]}] s0 C rfl rfl rfl rfl rfl rfl q! λd hd=>by simp only[A9]at hd;exact⟨w.heap.size,hd,Al _,World.alloc_heap_new w _⟩
  rw[World.size_alloc]at hm;exact⟨_,_,_,_,_,_,_,_,run_enterLoop_outer fn a.tmps z assign body,K _ _,λ_ _=>P!,by simp only[invoke];exact jH hE _ _,(λh=>by cases h),hm⟩
 |some l=>
  obtain⟨x,hx⟩:=k l rfl;have hm:=main w {state:=.ready,pending:=D,fn,tmps:=a.tmps,params:=z,assign,body,defers:=x.defers} [] s.sim (HM.refl _ _ _) rfl rfl rfl rfl rfl rfl q! λd hd=>by cases hd
  exact⟨_,_,_,_,_,_,_,_,run_enterLoop_inner hx fn a.tmps z assign body,K _ _,λ_ _=>P!,by simp only[invoke];exact jH hE _ _,(λh=>by cases h),hm⟩
end
def isQ:Op->Bool
 |.move _|.assign _|.pick .. |.load .. |.nilCheck _|.binOp .. |.unOp .. |.convert .. |.fieldAddr .. |.field .. |.indexAddr .. |.index .. |.slice .. |.extract .. |.makeFunc .. |.build .. =>E
 |.call c=>match c.callee with|.builtin .len=>E|.builtin .max=>E|.builtin .min=>E|_=>η
 |_=>η
abbrev AJw:=FuncId->Ψ Ad->Aw->Ω (Ad×Aw)
abbrev AJx:=S->Code->Env->Aw->Ω (Exit×Env×Aw)
def xy(P:Program)(env:Env)(H:Aw)(op:Op):Ω Ad:=
 match op with
 |.buildSlice t len parts=>match Ta P env t len parts with|some (sz,vs)=>Y (.vs sz vs)|none=>D
 |op=>Ci P env H op
def dq(op:Op):Bool:=match op with|.buildSlice .. =>E|op=>isQ op
def ya(ops:Array Oper)(m:Ψ S):S->Ψ S->Ψ S
 |0,_=>[]
 |n+1,left=>
  let rdy:=left.filter λi=>left.all λp=>p==i|| !Py m p i
  let qs:=rdy.filter λi=>match ops[i]? with|some o=>dq o.op|none=>η
  let last:=λi=>left.all λj=>j==i||Py m i j||If ops j
  let es:=rdy.filter λi=>!If ops i&&last i
  let as:=rdy.filter λi=>If ops i&&last i
  match qs,es,as with
  |i::_,_,_=>i::ya ops m n (left.erase i)
  |[],i::_,_=>i::ya ops m n (left.erase i)
  |[],[],i::_=>i::ya ops m n (left.erase i)
  |[],[],[]=>[]
def ABe(ops:Array Oper):Ψ S:=ya ops (Iq ops.toList []) ops.size (List.range ops.size)
section
variable {P:Program}{call:AJw}{code:AJx}{H H':Aw}{v:Ad}{F:Ψ Nat}
theorem lE{N}(b:xy P m H o.op=Y v):aL P N o m H (ABi m o.op) v:=by
 unfold xy at b;split at b;rename_i t len a i;split at b;rename_i sz f d;injection b with e;subst e;intro c g h k;refine V6 i (sz:=sz) (vs:=f) ?_ ⟨rfl,rfl⟩;rw[<-d];have j:=iE h;unfold Ta;have:(a.toList.map λp=>BS c p.2)=a.toList.map λp=>BS m p.2:=NS λp d=>by grind[Op.operands]
 rw[this];cases b;exact X5 b
end
def lX(F:Fence)(n0:S)(P:Program)(c:Code)(K:Exit->Act->World->Prop)(a:Act)(w:World):Prop:=
 ∀(b:Frame)(k:Ψ Item)(cs:Ψ Frame),b.roundOf=F.round->F.fn b.fn->F.room (W cs+1+n0)->
  ∃e a' w',K e a' w'/\ArrivesIn (Machine.fenced P F) P (lone (b.atR a (.code c:: .inLoop c::k)) cs w) b k cs e a' w'
section
variable {P:Program}{F:Fence}{n0:Nat}{c:Code}{K:Exit->Act->World->Prop}{a:Act}{w:World}
def AAC(h:lX F n0 P c K a w):(Code.loop c).wpIn F n0 P K a w:=by intro b k j f g hr;obtain⟨e,i,m,l,d⟩:=h b k j f g hr;exact⟨e,i,m,l,.of_steps (.one (fenced_calm g hr rfl) stepR_loop) d⟩
def cY(h:c.wpIn F n0 P (Exit.then (λt u=>lX F n0 P c K t u) K) a w):lX F n0 P c K a w:=by
 intro b k s p r hr;obtain⟨e,f,g,m,d⟩:=h b (.inLoop c::k) s p r hr;cases e with
 |normal=>obtain⟨o,n,q,j,i⟩:=m b k s p r hr;exact⟨o,n,q,j,.of_steps (StepsIn.trans d (.one (fenced_calm r hr rfl) stepR_inLoop)) i⟩
 |exit id=>exact⟨_,f,g,m,.pass (x:=.inLoop c) rfl (λ_ _=>.inl q!) d⟩
 |goto l=>exact⟨_,f,g,m,.pass (x:=.inLoop c) rfl (λ_ _=>.inl q!) d⟩
 |ret=>exact⟨_,f,g,m,.pass (x:=.inLoop c) rfl (λ_ _=>.inl q!) d⟩
 |panic v=>exact⟨_,f,g,m,.pass (x:=.inLoop c) rfl (λ_ _=>.inl q!) d⟩
 |outgrown=>exact⟨_,f,g,m,.pass (x:=.inLoop c) rfl (λ_ _=>.inl q!) d⟩
theorem XQ(h:lX F n0 P c K a w)(m:∀e a w,K e a w->T e a w):lX F n0 P c T a w:=by intro b k i d j hr;obtain⟨e,l,o,n,g⟩:=h b k i d j hr;grind
end
def IH(P:Program)(N:S)(c:Code)(env:Env)(H:Aw)(Q:Exit->Env->Aw->Prop):Prop:=
 ∀r X h a w,St X h N env H a w->aM r w->
  lX (FR r) 0 P c (λe a' w'=>∃h' env' H',Q e env' H'/\St X h' N env' H' a' w'/\HM h H w h' H' w'/\WS a w a' w') a w
section
variable {P:Program}{N:Nat}{env:Env}{H:Aw}{Q:Exit->Env->Aw->Prop}
theorem IH.mono(h:IH P N c env H Q)(i:∀e b d,Q e b d->G e b d):IH P N c env H G:=by intro r X g a w s k;apply XQ (h r X g a w s k);grind
def J9.of_loopW(h:IH P N c env H Q):J9 P N (.loop c) env H Q:=λr X g a w s k=>AAC (h r X g a w s k)
def IH.unroll(h:J9 P N c env H (fb (λb f=>∃env2 d,FX N (W H) b f env2 d/\IH P N c env2 d Q) Q)):IH P N c env H Q:=by
 intro r X g a w s k;refine cY (wpIn_mono (h r X g a w s k) ?_);rintro e a2 t ⟨m,env2,d,q,o,v,j⟩;cases e with
 |normal=>obtain⟨l,F,n,B⟩:=q;obtain⟨z,p,A,C⟩:=n.2 X m a2 t o;have i:=FX.ext rfl n.1 A C v;apply XQ (B r X z a2 t p (k.later i));rintro e G I ⟨y,b,f,D_,E_,u,x⟩;exact⟨y,b,f,D_,E_,i.trans u,j.trans p.sim i u x⟩
 |_=>exact⟨m,env2,d,q,o,v,j⟩
def tW(P:Program)(N:S)(c:Code)(env:Env)(H:Aw)(Q:Exit->Env->Aw->Prop):Prop:=
 match c with
 |.loop x=>IH P N x env H Q
 |c=>J9 P N c env H Q
def tW.awp(h:tW P N c env H Q):J9 P N c env H Q:=by unfold tW at h;split at h;exact .of_loopW h;exact h
def EE(hn:∀x,c≠.loop x)(h:J9 P N c env H Q):tW P N c env H Q:=by simp_all[tW]
def tW.mono(h:tW P N c env H Q)(f:∀e a b,Q e a b->G e a b):tW P N c env H G:=by
 cases c with
 |loop x=>exact IH.mono h f
 |_=>exact J9.mono h f
def IH.weak{d}(f:FX N (W H) env H m d)(h:IH P N c m d Q):IH P N c env H Q:=by intro r X g a w s k;obtain⟨y,t,n,o⟩:=f.2 X g a w s;apply XQ (h r X y a w t k);rintro e v x ⟨l,b,i,q,p,u,j⟩;exact⟨l,b,i,q,p,(FX.ext rfl f.1 n o (HM.refl g H w)).trans u,j⟩
def tW.weak{a}(b:FX N (W H) env H m a)(h:tW P N c m a Q):tW P N c env H Q:=by
 cases c with
 |loop x=>exact IH.weak b h
 |_=>exact J9.weak b h
def J9.after(h:J9 P N c env H (λe b f=>∃env2 d,FX N (W H) b f env2 d/\Q e env2 d)):J9 P N c env H Q:=by intro r X g a w s k;apply wpIn_mono (h r X g a w s k);rintro e j v ⟨m,b,f,⟨env2,d,i,q⟩,t,x,l⟩;obtain⟨n,u,o,p⟩:=i.2 X m j v t;exact⟨n,env2,d,q,u,FX.ext rfl i.1 o p x,l⟩
def IH.after(h:IH P N c env H (λe b f=>∃env2 d,FX N (W H) b f env2 d/\Q e env2 d)):IH P N c env H Q:=by intro r X g a w s k;apply XQ (h r X g a w s k);rintro e j v ⟨m,b,f,⟨env2,d,i,q⟩,t,x,l⟩;obtain⟨n,u,o,p⟩:=i.2 X m j v t;exact⟨n,env2,d,q,u,FX.ext rfl i.1 o p x,l⟩
def tW.after(h:tW P N c env H (λe a d=>∃env2 b,FX N (W H) a d env2 b/\Q e env2 b)):tW P N c env H Q:=by
 cases c with
 |loop x=>exact IH.after h
 |_=>exact J9.after h
end
def DW(v:Ad)(H:Aw):Ad->Aw->Prop:=λu H'=>u=v/\H'=H
def VM(e:Exit)(env:Env)(H:Aw):Exit->Env->Aw->Prop:=λe1 env1 H1=>e1=e/\env1=env/\H1=H
def callT(ρ:Operand->Ad):Op->Ω (Sum (FuncId×Ψ Ad) (S×Ψ Ad))
 |.call c=>
  match c.callee with
  |.value f=>
   match ρ f with
   |.fn (.func F) first caps=>Y (.inl (F,first++c.args.toList.map ρ++caps))
   |.yf id=>Y (.inr (id,c.args.toList.map ρ))
   |_=>D
  |_=>D
 |_=>D
def AH0(H:Aw):Ψ (S×Ft)->Aw
 |[]=>H
 |(i,e)::r=>AH0 (H.set i e) r
section
variable {X:Nat->Prop}{h:Gh}{H:Aw}{w:World}
def JT.regen(s:JT X h H w){id g g':S}{cs}(n:H[id]?=Y (Ft.live g cs))(I:g≤g'):
  JT X (h.at_ id (h.io id) g' (h.cap id)) (H.set id (.live g' cs)) w/\HM h H w (h.at_ id (h.io id) g' (h.cap id)) (H.set id (.live g' cs)) w:=by
 obtain⟨q,p⟩:=s.live id g cs n;have l:h.gen id=g:=q;have t:id<W H:=by rcases Az id (W H) with z|z;exact z;rw[Ct z]at n;cases n
 rcases p with⟨F,A⟩|⟨B,j,T,G,f,D_,L,o,E_,C,c⟩;have d:h.io id=D:=F;rcases Nat.eq_or_lt_of_le I with e|M;subst e;have x:h.at_ id (h.io id) g (h.cap id)=h:=by unfold Gh.at_;cases h;simp only[Gh.mk.injEq];refine⟨funext λi=>?_,funext λi=>?_,funext λi=>?_⟩;split<;>simp_all;split;rename_i r;subst r;exact l.symm;rfl;split<;>simp_all
 have y:H.set id (.live g cs)=H:=by apply JW;intro i;rw[We];split;rename_i r;subst r;exact n.symm;rfl
 rw[x,y];exact⟨s,HM.refl _ _ _⟩;subst A;obtain⟨m,rfl⟩:∃m,g'=m+1:=⟨g'-1,o!⟩
 have key:∀(v:Gh)(u:Aw)(k:S),v=h.at_ id D (g+k) (h.cap id)->u=H.set id (.live (g+k) [])->(JT X v u w/\HM h H w v u w)->(JT X (h.at_ id D (g+(k+1)) (h.cap id)) (H.set id (.live (g+(k+1)) [])) w/\HM h H w (h.at_ id D (g+(k+1)) (h.cap id)) (H.set id (.live (g+(k+1)) [])) w):=by
  intro v u k x y J;subst x y;obtain⟨q1,q2⟩:=J.1.bump (id:=id) (g:=g+k) (cs:=[]) (by simp[t]) (by simp[Gh.at_]);have K:(h.at_ id D (g+k) (h.cap id)).at_ id D (g+k+1) ((h.at_ id D (g+k) (h.cap id)).cap id)=h.at_ id D (g+(k+1)) (h.cap id):=by unfold Gh.at_;simp only[Gh.mk.injEq];refine⟨funext λi=>?_,funext λi=>?_,funext λi=>?_⟩<;>by_cases r:i=id<;>simp[r,WX]
  rw[K,Yr]at q1 q2;exact⟨q1,J.2.trans q2⟩
 have all:∀k,JT X (h.at_ id D (g+(k+1)) (h.cap id)) (H.set id (.live (g+(k+1)) [])) w/\HM h H w (h.at_ id D (g+(k+1)) (h.cap id)) (H.set id (.live (g+(k+1)) [])) w:=by
  intro k;induction k with
  |zero=>exact s.bump n d
  |succ k N=>exact key _ _ (k+1) rfl rfl N
 have:=all (m-g);rw[show g+(m-g+1)=m+1 by omega]at this;rw[d];exact this;have b:h.io id=Y B:=D_;have a:j.size=h.cap id:=o;have:=s.upd (g':=g') (B:=B) (arr:=j) (T:=T) (fz:=G) (w':=w) n I (λ_=>⟨b,a.symm⟩) (.inl b) L (λ_ _ _=>rfl) rfl rfl rfl (Al _) ⟨f,E_,C,c⟩;rw[a]at this;rw[b];exact this
end
section
variable {P:Program}{N:Nat}{o:Oper}{env:Env}{H:Aw}{K:Ad->Aw->Prop}
def Bz.regen{id g g' sz off n:S}(a:h.gen id=g)(r:Bz (cx j h H d) (.sl id g sz off n) f):
  Bz (cx j (h.at_ id (h.io id) g' (h.cap id)) (H.set id B) d) (.sl id g' sz off n) f:=by
 cases r with
 |sl b i X w=>refine .sl (by simpa[cx]using b) (by simp[cx,Gh.at_]) X λ_=>?_;have:=w a;simpa[cx,Gh.at_]using this
def Jw.regen{id g g' sz off n:S}{cs}{H1:Aw}(j:g<=g')(d:H1[id]?=Y (Ft.live g cs))(h:Jw P N o env H λv b=>v=.sl id g sz off n/\b=H1)(k:K (.sl id g' sz off n) (H1.set id (.live g' cs))):Jw P N o env H K:=by intro r X f a w s Q;apply Wv (h r X f a w s Q);rintro p t ⟨c,v,q,b,i,⟨rfl,rfl⟩,l,e,m⟩;obtain⟨q1,q2⟩:=e.regen (g':=g') d j;exact⟨c,_,_,_,i,k,Bz.regen (e.live id g cs d).1 l,q1,m.trans q2⟩
theorem Sk{sx xx:Operand}{t e:TypeId}{id g g' n sz m:Nat}{cs news:Ψ Ad}(ho:o.op=.call {callee:=.builtin .append,args:= #[sx,xx],argTypes:= #[t,t]})(he:eI P t=Y (D,e,sz))(S:0<sz)(b5:Sq P e=E)
  (hs:BS env sx=.sl id g sz 0 n) (Z:H[id]?=Y (Ft.live g cs)) (hn:θ cs=n*sz) (hx:Kg H sz (BS env xx)=Y (m,news)) (bl:n+m<=16777216)
  (b9:g<g'\/(g'=g/\m=0)) (hk:K (.sl id g' sz 0 (n+m)) (H.set id (.live g' (cs++news)))):Jw P N o env H K:=by
 apply C9 (by rw[ho];rfl);intro X h a w s Q;obtain⟨a7,b,hi⟩:=RI he;obtain⟨i,z,y,bz,hz,b7⟩:=Uw b5;have u:=mi hi y;have rs:=Dp s.env sx;rw[hs]at rs;have rx:=Dp s.env xx;obtain⟨ap,a9⟩:=s.sim.live id g cs Z;have b1:h.gen id=g:=ap;have L:id<θ H:=by rcases Az id (θ H) with U|U;exact U;grind[u?]
 have a6:Kg H sz (.sl id g sz 0 n)=Y (n,cs):=by grind[Kg]
 unfold Oper.wp;have bG:(h.io id=D/\n=0/\a.eval sx=.slice D 0 0)\/∃B cap,h.io id=Y B/\n<=cap/\cap*sz<=h.cap id/\a.eval sx=.slice (Y ⟨B,0,D⟩) n cap:=by
  generalize a.eval sx=c at rs;cases rs with
  |sl p q r hc=>rcases hc ap with⟨h1,U,_,h3⟩|⟨B,cap,h1,U,h3,h4⟩;exact .inl ⟨h1,U,h3⟩;exact .inr ⟨B,cap,h1,U,by simpa[cx]using h3,h4⟩
 have ao:∀l cap,a.eval sx=.slice l n cap→cap<n+m→0<m→
   Oper.upon P o a (λa' V=>∃c v h' H',a'=a.put o.dst c/\K v H'/\Bz (cx X h' H' V) v c/\JT X h' H' V/\HM h H w h' H' V) Q ((execOp a.eval o).run P w):=by
  intro l cap A a2 b3;have sd:=s.sim.drew;obtain⟨ax,al,G,a8,O,d,D_,_,J⟩:=O9 (P:=P) sd (rx.later (HM.drew.later X)) S hx;obtain⟨_,_,_,_,_,_,_,a3,_⟩:=O9 (P:=P) s.sim rx S hx;obtain⟨_,_,os,_,_,R,a5,_,b0⟩:=O9 (P:=P) sd (rs.later (HM.drew.later X)) S a6;obtain⟨C,hC,E_⟩:=re (ty:=o.type) (base:=l) (n:=n) (cap:=cap) (os:=os) a7 y hz bz a3 (by rw[u,<-A];exact b0) (by rw[u];exact J) a2 bl;rw[Ri ho (by rw[A];exact E_),Oper.upon_value];have hh:Holds (cx X h H w.drew) (cs++news) (os.toArray++G.toArray++Builtin.zeroCells z.cells (C-(n+m))) (0,0):=wq R d a5 D_;obtain⟨q1,q2⟩:=sd.upd (g':=g') (B:=w.heap.size) (T:=e) (fz:=(0,0)) (w':={w.drew with heap:=w.drew.heap.push (.cells (os.toArray++G.toArray++Builtin.zeroCells z.cells (C-(n+m))) e)}) Z o! (λbm=>o!)
   (.inr (Al _)) (by show(w.heap.push _)[w.heap.size]?=_;simp) (λk hk bm=>by show(w.heap.push _)[k]?=w.heap[k]?;rw[UB,D! bm]) rfl rfl rfl (by show w.heap.size<=(w.heap.push _).size;simp) hh
  refine⟨_,_,_,_,rfl,hk,.sl (by simpa[cx]using L) (by simp[cx,Gh.at_]) ⟨_,_,rfl⟩ λ_=>.inr ⟨w.heap.size,C,by simp[cx,Gh.at_],hC,?_,rfl⟩,q1,HM.drew.trans q2⟩;have e1:θ G=m*sz:=by rw[d.1,O]
  have e2:θ os=n*sz:=by rw[R.1,hn]
  simp only[cx,Gh.at_,if_true,Array.size_append,fk,Zl,b7,u,e1,e2];have:(C-(n+m))*sz+(n*sz+m*sz)=C*sz:=by rw[<-EJ,<-EJ];congr 1;omega
  omega
 rcases bG with⟨F,rfl,A⟩|⟨B,cap,F,b8,I,A⟩;rcases WY m with hm|hm;subst hm;obtain⟨ax,al,G,a8,O,d,D_,M,J⟩:=O9 (P:=P) s.sim rx S hx;have a4:news=[]:=Eh o!;subst a4;have bN:cs=[]:=Eh o!;subst bN;have b6:G=[]:=Eh d.1;subst b6;have E_:=nq (ty:=o.type) (base:=D) (n:=0) (cap:=0) (w':=w) a7 y M (by rw[u];exact J) o! rfl;rw[Ri ho (by rw[A];exact E_),Oper.upon_value];obtain⟨q1,q2⟩:=s.sim.regen (g':=g') Z o!;rw[F]at q1 q2;rw[DT]at hk;exact⟨_,_,_,_,rfl,hk,.sl (by simpa[cx]using L) (by simp[cx,Gh.at_]) ⟨_,_,rfl⟩ λ_=>.inl ⟨by simp[cx,Gh.at_],rfl,rfl,rfl⟩,q1,q2⟩;exact ao D 0 A o! hm;rcases Az cap (n+m)with b2|a1;exact ao _ cap A b2 o!;obtain⟨ax,al,G,a8,O,d,D_,M,J⟩:=O9 (P:=P) s.sim rx S hx;rcases a9 with⟨bt,_⟩|⟨B',W,T,fz,f,ar,hb,a0,ca,bb,Y_⟩;rw[show(cx X h H w).io id=h.io id from rfl,F]at bt;cases bt;rw[show(cx X h H w).io id=h.io id from rfl,F]at ar;injection ar with e0;subst e0;have x:W.size=h.cap id:=a0;have e1:θ G=m*sz:=by rw[d.1,O]
 have b4:n*sz+m*sz<=W.size:=by rw[<-EJ,x];exact Cq (NU _ a1) I
 obtain⟨V,ad,p1,p2,p3,p4,p5,p6,p7,p8,p9⟩:=Vo (P:=P) (off:=n*sz) G 0 W w hb o! bb D_;have E_:=nq (ty:=o.type) (base:=Y ⟨B,0,D⟩) (n:=n) (cap:=cap) (w':=V) a7 y M (by rw[u];exact J) a1 (by rw[u];simp only[PH,DY];exact p1);rw[Ri ho (by rw[A];exact E_),Oper.upon_value];have hh:Holds (cx X h H w) (cs++news) ad fz:=by
  refine⟨λj=>if n*sz<=j/\j<n*sz+m*sz then G.getD (j-n*sz) undef else f j,by simp[hn,O];omega,by rw[p3];exact bb,λj v hj=>?_⟩;rw[p4];simp only[NT,e1];rcases Az j (θ cs) with U|U;rw[CZ U]at hj;rw[D! o!,D! o!];exact Y_ j v hj;rw[Cn U]at hj;have b':j-θ cs<θ news:=by rcases Az (j-θ cs) (θ news) with h3|h3;exact h3;rw[Ct h3]at hj;cases hj
  rw[C! o!,C! o!];have hg:G[j-n*sz]?=Y (G[j-n*sz]' o!):=Au o!;have eg:G.getD (j-n*sz) undef=G[j-n*sz]' o!:=by rw[Rm,hg];rfl
  rw[eg];refine⟨hg,D_ _ (Gz _),d.2 _ v _ hj ?_⟩;rw[hn];exact hg
 obtain⟨q1,q2⟩:=s.sim.upd (g':=g') (B:=B) (arr:=ad) (T:=T) (fz:=fz) (w':=V) Z o! (λ_=>⟨F,by rw[p3,x]⟩) (.inl F) p2 (λk _ hk=>p5 k hk) p6 p7 p8 (by rw[p9];exact Al _) hh;refine⟨_,_,_,_,rfl,hk,.sl (by simpa[cx]using L) (by simp[cx,Gh.at_]) ⟨_,_,rfl⟩ λ_=>.inr ⟨B,cap,by simp[cx,Gh.at_],a1,?_,rfl⟩,q1,q2⟩;simp only[cx,Gh.at_,if_true,p3,DY,x];exact I
theorem eP{m:S}(j:o.op=.call {callee:=.builtin .append,args:= #[q,v],argTypes:= #[b,b]})(i:eI P b=Y (D,Z,n))(d:0<n)(c:Sq P Z=E)
  (k:BS env q=.nils) (l:Kg H n (BS env v)=Y (m,g)) (h:m<=16777216) (t:K (.sl (W H) m n 0 m) (H++[.live m g])):Jw P N o env H K:=by
 apply Jw.regen (id:=W H) (g:=0) (g':=m) (cs:=g) (BU _) q! (Jw.append_nil j i d c k l h ⟨rfl,rfl⟩);grind
theorem UT{t:TypeId}{len sz:S}{vs:Ψ Ad}(b:o.op=.buildSlice t len z)(c:Ta P env t len z=Y (sz,vs))
  (d:K (.sl (W H) (W vs) sz 0 (W vs)) (H++[.live (W vs) (vs.flatMap Ad.cells)])):Jw P N o env H K:=by
 apply Jw.regen (id:=W H) (g:=0) (g':=W vs) (cs:=vs.flatMap Ad.cells) (BU _) q! (eQ b c ⟨rfl,rfl⟩);grind
theorem Jw.makeSlice{r:IntKind}{c:Int}(k:o.op=.makeSlice b q v)(j:eI P b=Y (D,Z,n))(x:0<n)(a:Sq P Z=E)(t:Zk P Z=Y g)(d:W g=n)
  (m:BS env q=.int I i) (p:BS env v=.int r c) (f:0<=i) (h:i<=c) (y:c<=16777216) (u:K (.sl (W H) i.toNat n 0 i.toNat) (H++[.live i.toNat (ς i.toNat g).flatten])):Jw P N o env H K:=by
 refine Jw.regen (id:=W H) (g:=0) (g':=i.toNat) (cs:=(ς i.toNat g).flatten) (H1:=H++[.live 0 (ς i.toNat g).flatten]) (sz:=n) (off:=0) (n:=i.toNat) (BU _) q! (mz k j x a t d m p f h y ⟨rfl,rfl⟩) k!
end
section
variable {P:Program}{N:Nat}{o:Oper}{env:Env}{H:Aw}{K:Ad->Aw->Prop}
def nH(s:Ψ UInt8):Ψ Ad:=s.map λb=>.int .u8 (b.toNat:Int)
theorem pJ{e:TypeId}(f:o.op=.convert b Z q)(d:P.underlying b=Y F)(y:P.underlying Z=Y (.slice e))(z:P.underlying e=Y (.int .u8))
  (J:BS env q=.str l) (E_:K (.sl (W H) 0 1 0 (W l)) (H++[.live 0 (nH l)])):Jw P N o env H K:=by
 apply C9 (by rw[f];rfl);intro X h a w st Q;have n:=Dp st.env q;rw[J]at n;generalize r:a.eval q=c at n;cases n with
 |str t G=>
  have s:t.size=W l:=by rw[<-G];rfl
  have k:(execOp a.eval o).run P w=.ok (.value (.slice (Y ⟨w.heap.size,0,D⟩) t.size (grownCap w t.size 0 e))) (Lib.bytesWorld w e t):=by have:=Lib.run_convert_string_bytes w b Z e t d y z;unfold execOp;rw[f];simp[resolve,r,this]
  unfold Oper.wp;rw[k,Oper.upon_value];have B:=grownCap_ge w t.size 0 e;have m:(Lib.bytesCells w e t).size=grownCap w t.size 0 e:=by grind[Lib.bytesCells,Array.size_append,Array.size_map,Array.size_replicate]
  have L:=st.sim.drew;have I:Lib.bytesWorld w e t={w.drew with heap:=w.drew.heap.push (.cells (Lib.bytesCells w e t) e ((Lib.bytesCells w e t).size,(Lib.bytesCells w e t).size+1))}:=by unfold Lib.bytesWorld World.freeze World.alloc;rw[D! g!];show World.mk _ _ _ _ _=World.mk _ _ _ _ _;congr 1;apply Array.ext_getElem?;intro j;have m:w.drew.heap.size=w.heap.size:=rfl;grind
  rw[I];have C:Holds (cx X h H w.drew) (nH l) (Lib.bytesCells w e t) ((Lib.bytesCells w e t).size,(Lib.bytesCells w e t).size+1):=by
   refine⟨λj=>.int .u8 ((l.getD j 0).toNat:Int),by simp[nH];omega,λi M=>?_,λj v g=>?_⟩;grind;unfold nH at g;rw[CT]at g;cases p:l[j]? with
   |none=>grind
   |some x=>
    rw[p]at g;simp only[Bu,Ar]at g;subst g;have D_:j<W l:=by grind[Nat.lt_or_ge,u?]
    have A:l.getD j 0=x:=by rw[Rm,p];rfl
    refine⟨?_,rfl,?_⟩;grind[Lib.bytesCells,Array.getElem?_append_left];simp only[A];exact .int _ _
  refine⟨_,_,_,_,rfl,E_,.sl (by simp[cx]) (by simp[cx,Gh.at_]) ⟨_,_,by rw[s]⟩ λ_=>.inr ⟨w.heap.size,grownCap w t.size 0 e,?_,o!,?_,by rw[s]⟩,L.push _ e _ (nH l) C,HM.drew.trans (HM.push _ _ _)⟩;have:w.drew.heap.size=w.heap.size:=rfl;simp[cx,Gh.at_,this];simp only[cx,Gh.at_,if_true];omega
theorem qj{e:TypeId}(f:o.op=.convert b Z q)(h:P.underlying b=Y F)(c:P.underlying Z=Y (.slice e))(d:P.underlying e=Y (.int .u8))
  (i:BS env q=.str l) (j:K (.sl (W H) (W l) 1 0 (W l)) (H++[.live (W l) (nH l)])):Jw P N o env H K:=by
 refine Jw.regen (id:=W H) (g:=0) (g':=W l) (cs:=nH l) (H1:=H++[.live 0 (nH l)]) (sz:=1) (off:=0) (n:=W l) (BU _) q! (pJ f h c d i ⟨rfl,rfl⟩) k!
end
def FX.virtC{N}{env}{b A i sz:Nat}(Q:H[b]?=Y (Ft.live A g))(hi:g[i]?=Y .nils):
  FX N (θ H) env H env (H.set b (.live A (g.set i (.sl (θ H) 0 sz 0 0)))++[.live 0 []]):=by
 have J:b<θ H:=by rcases Az b (θ H) with P|P;exact P;rw[Ct P]at Q;cases Q
 refine⟨q!,λX h a w s=>⟨h.at_ (θ H) D 0 0,?_,λid ap=>by simp[Gh.at_,Bq ap],?_⟩⟩;have O:=s.sim.virt;have hx:=HM.virt (h:=h) (H:=H) (w:=w);have W:=hx.later X
 have key:∀(j:Nat)(e:Ft),(H.set b (.live A (g.set i (.sl (θ H) 0 sz 0 0)))++[Ft.live 0 []])[j]?=Y e→
   (j≠b/\(H++[Ft.live 0 []])[j]?=Y e)\/(j=b/\e=.live A (g.set i (.sl (θ H) 0 sz 0 0))):=by
  intro j e p;rcases Az j (θ H) with y|y;rw[CZ (by simpa using y),We]at p;split at p;rename_i G;subst G;injection p with p;exact .inr ⟨rfl,p.symm⟩;rename_i G;exact .inl ⟨λe=>G e.symm,by rw[CZ y];exact p⟩;refine .inl ⟨o!,?_⟩;rw[Cn (by simpa using y)]at p;rw[Cn y];simpa using p
 have E_:∀B,owned (h.at_ (θ H) D 0 0) (H.set b (.live A (g.set i (.sl (θ H) 0 sz 0 0)))++[.live 0 []]) B->owned (h.at_ (θ H) D 0 0) (H++[.live 0 []]) B:=by rintro B ⟨j,e,p,z,o⟩;rcases key j e p with⟨_,q⟩|⟨rfl,rfl⟩;exact⟨j,e,q,z,o⟩;exact⟨j,_,by rw[CZ J];exact Q,q!,o⟩
 have C:(cx X (h.at_ (θ H) D 0 0) (H++[.live 0 []]) w).Later (cx X (h.at_ (θ H) D 0 0) (H.set b (.live A (g.set i (.sl (θ H) 0 sz 0 0)))++[.live 0 []]) w):={size:=Al _,keep:=λ_ _ _ _=>rfl,own:=λB _ ho=>ho.imp _root_.id (E_ B),n:=by simp[cx],gen:=λ_ _=>Al _,same:=λ_ _ _=>⟨rfl,rfl⟩}
 refine⟨⟨λB Y_=>⟨(O.out B Y_).1,λho=>(O.out B Y_).2 (E_ B ho)⟩,λj g0 ad p=>?_,λj L p=>?_,λj k e e' B q P ax a0 h3 h4=>?_,O.bldKeep λj e p Y_=>?_⟩,λt v m=>?_,s.size⟩;rcases key j _ p with⟨_,q⟩|⟨rfl,q⟩;obtain⟨U,hh⟩:=O.live j g0 ad q;refine⟨U,?_⟩;rcases hh with⟨o,h0⟩|⟨B,F,T,fz,f,o,I,x,M,K,l⟩;exact .inl ⟨o,h0⟩;exact .inr ⟨B,F,T,fz,f,o,I,x,M,K,λk v u=>⟨(l k v u).1,(l k v u).2.1,(l k v u).2.2.later C⟩⟩;injection q with h5 h6;subst h5 h6;obtain⟨U,hh⟩:=O.live j g0 g (by rw[CZ J];exact Q);refine⟨U,?_⟩;rcases hh with⟨o,h0⟩|⟨B,F,T,fz,f,o,I,x,M,K,l⟩;subst h0;simp at hi;refine .inr ⟨B,F,T,fz,f,o,I,x,by simpa using M,K,λk v u=>?_⟩;rw[We]at u;split at u;rename_i ar;subst ar;split at u;injection u with u;subst u;obtain⟨p1,Z,p3⟩:=l i _ hi;refine⟨p1,Z,?_⟩;generalize f i=c at p3 Z;cases p3;exact .sl (by simp[cx]) (by simp[cx,Gh.at_]) ⟨_,_,rfl⟩ λ_=>.inl ⟨by simp[cx,Gh.at_],rfl,rfl,rfl⟩;cases u;obtain⟨p1,Z,p3⟩:=l k v u;exact⟨p1,Z,p3.later C⟩;rcases key j _ p with⟨_,q⟩|⟨rfl,q⟩;obtain⟨U,B,r,q1,q2,q3,q4,q5,q6,q7,q8,q9⟩:=O.lp j L q;exact⟨U,B,r,q1,q2,q3,q4,q5,q6,q7,q8,λt v m=>⟨(q9 t v m).1,(q9 t v m).2.later C⟩⟩;cases q;have back:∀{j:Nat}{e:Ft},(H.set b (.live A (g.set i (.sl (θ H) 0 sz 0 0)))++[Ft.live 0 []])[j]?=Y e->e≠.dead->∃e0,(H++[Ft.live 0 []])[j]?=Y e0/\e0≠.dead:=by intro j e p z;rcases key j _ p with⟨_,q⟩|⟨rfl,q⟩;exact⟨e,q,z⟩;exact⟨_,by rw[CZ J];exact Q,q!⟩
 obtain⟨d,al,ao⟩:=back q ax;obtain⟨d',R,S⟩:=back P a0;exact O.inj j k _ _ B al R ao S h3 h4;rcases key j _ p with⟨_,q⟩|⟨rfl,q⟩;exact⟨q,rfl,rfl,rfl,λ_ _ _ _ _=>rfl⟩;subst q;cases Y_;exact⟨(s.env t v m).1,((s.env t v m).2.later W).later C⟩;rintro B ⟨j,e,p,z,o⟩;rcases Az j (θ H) with y|y;have D_:h.io j=Y B:=by simpa[Gh.at_,Bq y]using o
 by_cases V:j=b;subst V;exact⟨j,_,Q,q!,D_⟩;rw[CZ (by simpa using y),Dc (V ·.symm)]at p;exact⟨j,e,p,z,D_⟩;rw[Cn (by simpa using y)]at p;have:j=θ H:=by rcases Nat.eq_or_lt_of_le y with e|P;exact e.symm;rw[Ct w!]at p;cases p
 subst this;simp[Gh.at_]at o
def Bz.nil_vs(a:0<N)(x:Bz r .nils f):Bz r (.vs N []) f:=by cases x;exact Bz.vs (rows:=[]) (cap:=0) (λ_ _=>undef) (Al _) a (λ_ _ h=>by simp at h) (λh=>(h rfl).elim) λ_ _ _ _ h=>by simp at h
def FX.subset{N}{env2:Env}{H:Aw}(h:∀q∈env2,q∈m):FX N (W H) m H env2 H:=⟨Al _,λ_ g _ _ s=>⟨g,⟨s.sim,λt v a=>s.env t v (h _ a),s.size⟩,λ_ _=>⟨rfl,rfl,rfl⟩,λ_ h=>h⟩⟩
section
variable {P:Program}
theorem ADB{b:Operand→Ad}(h:callT b K=Y (.inl (A,g))):
  ∃c f first a,K=.call c/\c.callee=.value f/\b f=.fn (.func A) first a/\g=first++c.args.toList.map b++a:=by
 unfold callT at h;grind
section
variable {N:Nat}{o:Oper}{env:Env}{H H':Aw}{v:Ad}
def lZ{F:FuncId}{vs:Ψ Ad}(h:callT (BS env) o.op=Y (.inl (F,vs)))(d:Enters P F=E)(e:Ej P F vs H (DW v H')):Jw P N o env H (DW v H'):=by obtain⟨c,f,first,b,i,a,g,rfl⟩:=ADB h;exact qi i a g d e
end
end
mutual
theorem Rh{p q:S->Bool}(h:∀id,p id=E->q id=E):∀v:Ad,v.idsAll p=E->v.idsAll q=E
 |.ptr id g off,k=>h id k
 |.sl id g sz off len,k=>h id k
 |.yf id,k=>h id k
 |.mp id,k=>h id k
 |.itp id m,k=>by simp only[Ad.idsAll,BZ]at k⊢;exact⟨h id k.1,h m k.2⟩
 |.vptr cs,k=>Ju h cs k
 |.vs sz rows,k=>Ju h rows k
 |.fn f a b,k=>by simp only[Ad.idsAll,BZ]at k⊢;exact⟨Ju h a k.1,Ju h b k.2⟩
 |.agg cs,k=>Ju h cs k
 |.tup cs,k=>Ju h cs k
 |.bool _,_=>rfl
 |.int _ _,_=>rfl
 |.str _,_=>rfl
 |.nilp,_=>rfl
 |.nils,_=>rfl
 |.nilf,_=>rfl
 |.any,_=>rfl
theorem Ju{p q:S->Bool}(h:∀id,p id=E->q id=E):∀l:Ψ Ad,Ad.idsAllL p l=E->Ad.idsAllL q l=E
 |[],_=>rfl
 |v::r,k=>by simp only[Ad.idsAllL,BZ]at k⊢;exact⟨Rh h v k.1,Ju h r k.2⟩
end
mutual
theorem AFn(c d:S->S):∀v:Ad,(v.ren c).ren d=v.ren λid=>d (c id)
 |.ptr id g i=>rfl
 |.sl id g sz i len=>rfl
 |.yf id=>rfl
 |.mp id=>rfl
 |.itp _ _=>rfl
 |.vptr e=>by simp only[Ad.ren,Uv c d e]
 |.vs sz h=>by simp only[Ad.ren,Uv c d h]
 |.fn f a b=>by simp only[Ad.ren,Uv c d a,Uv c d b]
 |.agg e=>by simp only[Ad.ren,Uv c d e]
 |.tup e=>by simp only[Ad.ren,Uv c d e]
 |.bool _=>rfl
 |.int _ _=>rfl
 |.str _=>rfl
 |.nilp=>rfl
 |.nils=>rfl
 |.nilf=>rfl
 |.any=>rfl
theorem Uv(a b:S->S):∀l:Ψ Ad,Ad.renL b (Ad.renL a l)=Ad.renL (λid=>b (a id)) l
 |[]=>rfl
 |v::r=>by simp only[Ad.renL,AFn a b v,Uv a b r]
end
mutual
theorem ABH{p q:S->Bool}{c:S->S}(h:∀id,p id=E->q (c id)=E):∀v:Ad,v.idsAll p=E->(v.ren c).idsAll q=E
 |.ptr id g off,k=>h id k
 |.sl id g sz off len,k=>h id k
 |.yf id,k=>h id k
 |.mp id,k=>h id k
 |.itp id m,k=>by simp only[Ad.ren,Ad.idsAll,BZ]at k⊢;exact⟨h id k.1,h m k.2⟩
 |.vptr cs,k=>O8 h cs k
 |.vs sz rows,k=>O8 h rows k
 |.fn f a b,k=>by simp only[Ad.ren,Ad.idsAll,BZ]at k⊢;exact⟨O8 h a k.1,O8 h b k.2⟩
 |.agg cs,k=>O8 h cs k
 |.tup cs,k=>O8 h cs k
 |.bool _,_=>rfl
 |.int _ _,_=>rfl
 |.str _,_=>rfl
 |.nilp,_=>rfl
 |.nils,_=>rfl
 |.nilf,_=>rfl
 |.any,_=>rfl
theorem O8{p q:S->Bool}{a:S->S}(h:∀id,p id=E->q (a id)=E):∀l:Ψ Ad,Ad.idsAllL p l=E->Ad.idsAllL q (Ad.renL a l)=E
 |[],_=>rfl
 |v::r,k=>by simp only[Ad.renL,Ad.idsAllL,BZ]at k⊢;exact⟨ABH h v k.1,O8 h r k.2⟩
end
def Pure(v:Ad):Prop:=v.idsAll (λ_=>η)=E
def ti(e:Ft):Prop:=match e with|.live _ cs=>Ad.idsAllL (λ_=>η) cs=E|_=>False
def Pure.all(h:Pure k)(p:S->Bool):k.idsAll p=E:=Rh (λ_ e=>by cases e) k h
def Pure.ren{v}(h:Pure v)(ρ:S->S):v.ren ρ=v:=ABm (p:=λ_=>η) (λ_ e=>by cases e) v h
def ti.all(h:ti B)(p:S->Bool):B.idsAll p=E:=by
 cases B with
 |live g a=>exact Ju (λ_ B=>by cases B) a h
 |_=>cases h
def ti.ren(h:ti B)(ρ:S->S):B.ren ρ=B:=by
 cases B with
 |live g a=>simp only[Ft.ren];rw[YW (p:=λ_=>η) (λ_ B=>by cases B) a h]
 |_=>cases h
theorem Ej.sub{P:Program}(bs:Ψ S){Qc:Ad→Aw→Prop}(a:bs.Nodup)(K:∀b∈bs,b<W H)
  (t:∀b∈bs,((H.getD b .dead).idsAll λid=>decide (id∈bs))=E) (k:Ad.idsAllL (λid=>decide (id∈bs)) g=E)
  (y:Ej P A (Ad.renL (bs.idxOf ·) g) (aK H bs) Qc) (F:∀v i,Qc v i->M (v.ren (Tt H bs)) (Vl H bs i)):Ej P A g H M:=by
 intro X h w c s o f;refine(y (Xs X h H bs) (XZ h bs) w c (s.sub a t) (by simpa[O1]using o) ?_).mono ?_;intro j v d l z;rw[O1,CT]at l;cases r:g[j]? with
 |none=>grind
 |some u=>rw[r]at l;simp at l;subst l;exact Bz.ren (p:=λid=>decide (id∈bs)) (yp ·) rfl AF3 (f j u d r z) (NR k r)
 rintro e E_ ⟨d,v,m,i,rfl,q,D_,C,x⟩;have B:W bs<=W i:=by have:=x.n;simpa[aK]using this
 exact⟨d,_,N4 h H bs m,Vl H bs i,rfl,F v i q,s.back a K x D_,Bz.back a K B C,HM.back a K x⟩
theorem se{f:S->S}:∀bs(H a:Aw),(∀e∈a,ti e)->ck f H bs a=AH0 H (bs.zip a)
 |[],H,a,_=>by cases a<;>rfl
 |b::bs,H,[],_=>rfl
 |b::bs,H,e::es,h=>by simp only[ck,List.zip_cons_cons,AH0];rw[(h e q!).ren,se bs _ es λc d=>h c (by simp[d])]
theorem Ej.frame{d c H:Aw}(bs:Ψ S)(y:Ej P A g d (DW k c))(l:bs.Nodup)(w:W d=W bs)(v:W c=W bs)
  (m:∀(j b:S)(e:Ft),bs[j]?=Y b->d[j]?=Y e->H[b]?=Y e) (o:∀e∈d,ti e) (F:∀e∈c,ti e) (s:Pure k)
  (q:Ad.renL (bs.getD · 0) g=x) (z:Ad.idsAllL (λj=>decide (j<W bs)) g=E):Ej P A x H (DW k (AH0 H (bs.zip c))):=by
 have get:∀b∈bs,∃(j:S)(e:Ft),bs[j]?=Y b/\d[j]?=Y e/\H[b]?=Y e:=by
  intro b i;obtain⟨j,n,e⟩:=WU.1 i;have h:bs[j]?=Y b:=k!
  have f:d[j]?=Y (d[j]' o!):=Au o!;exact⟨j,_,h,f,m j b _ h f⟩
 have a:∀b∈bs,b<W H:=k!
 have B:aK H bs=d:=by
  apply JW;intro j;unfold aK;rw[CT];cases n:bs[j]? with
  |none=>grind[List.getElem?_eq_none_iff,u?]
  |some b=>
   have r:j<W bs:=by grind[Nat.lt_or_ge,u?]
   have f:d[j]?=Y (d[j]' o!):=Au o!;have p:=m j b _ n f;rw[f,Bu,Rm,p,nk,(o _ (Gz _)).ren]
 refine Ej.sub bs (Qc:=DW k c) l a (λb i=>?_) ?_ ?_ ?_;obtain⟨j,e,_,h,f⟩:=get b i;rw[Rm,f,nk];exact(o e (BP h)).all _;grind[O8,m?,List.getElem_mem];rw[B,<-q,Uv];grind[Ad.renL,YW,qw,m?];rintro u t ⟨rfl,rfl⟩;refine⟨s.ren _,?_⟩;grind[Vl,se,List.drop_eq_nil_of_le]
structure Su(α:Type)where
 sz:S
 f:α->Ad
 pos:0<sz
 len:∀x,(f x).cells.length=sz
 pure:∀x,Pure (f x)
def Su.cl(e:Su p)(l:Ψ p):Ψ Ad:=(l.map e.f).flatMap Ad.cells
theorem Su.clen{a:Type}(e:Su a):∀l:Ψ a,(e.cl l).length=W l*e.sz
 |[]=>by simp[Su.cl]
 |x::l=>by have:=Su.clen e l;simp only[Su.cl,B4,Ih,AZ,e.len]at this⊢;grind
def xz(k:IntKind):Su Int:=⟨1,.int k,g!,λ_=>rfl,λ_=>rfl⟩
abbrev Bd:=Ψ UInt8
def ix{α:Type}(l:List α)(i:Int):Option α:=if 0<=i then l[i.toNat]? else none
def app{α:Type}(l xs:Ψ α):Ω (Ψ α):=if W l+W xs<=16777216 then Y (l++xs)else D
theorem ALG{f:a->Ad}{l}{x:a}(h:ix l i=Y x):0<=i/\(l.map f)[i.toNat]?=Y (f x):=by unfold ix at h;grind
theorem oh{l a r:Ψ p}(h:app l a=Y r):W l+W a<=16777216/\r=l++a:=by grind[app]
def AJJ(e:Su a)(l:Ψ a):AB9 e.sz (e.cl l) (l.map e.f):=⟨e.pos,λv b=>by obtain⟨x,_,rfl⟩:=Bp.1 b;exact e.len x,rfl⟩
inductive Step(S R:Type)where
 |next (s:S)
 |done (r:R)
def fS{S R:Type}(body:S->Ω (Step S R)):Nat->S->Ω R
 |0,_=>D
 |n+1,s=>
  match body s with
  |some (.next s')=>fS body n s'
  |some (.done r)=>Y r
  |none=>D
theorem ABO{body:p->Ω (Step p a)}{s:p}{r:a}(h:fS body n s=Y r):fS body (n+1) s=Y r:=by induction n generalizing s<;>grind[fS]
theorem AFG{body:p->Ω (Step p a)}{s:p}{r:a}(h:fS body n s=Y r)(S:n<=N):fS body N s=Y r:=by induction S<;>grind[ABO]
open Classical in
noncomputable def Ag{S R:Type}(body:S->Ω (Step S R))(s:S):Ω R:=if h:∃r n,fS body n s=Y r then Y h.choose else D
theorem mW{body:p->Ω (Step p a)}{s:p}{r:a}:Ag body s=Y r↔∃n,fS body n s=Y r:=by
 unfold Ag;constructor;intro h;split at h<;>grind;rintro⟨n,hn⟩;have S:∃r n,fS body n s=Y r:=⟨r,n,hn⟩
 grind[AFG]
theorem HV(body:p→Ω (Step p a))(s:p):Ag body s=match body s with
  |some (.next b)=>Ag body b
  |some (.done r)=>Y r
  |none=>D:=by
 apply Option.ext;intro r;rw[mW];constructor
 ·rintro⟨n,h⟩;cases n with
  |zero=>cases h
  |succ n=>
   rw[fS]at h;cases S:body s with
   |none=>rw[S]at h;cases h
   |some q=>
    rw[S]at h;cases q with
    |next b=>exact mW.2 ⟨n,h⟩
    |done r=>exact h
 ·intro h;cases S:body s with
  |none=>rw[S]at h;cases h
  |some q=>
   rw[S]at h;cases q with
   |next b=>obtain⟨n,hn⟩:=mW.1 h;exact⟨n+1,by rw[fS,S];exact hn⟩
   |done c=>exact⟨1,by rw[fS,S];exact h⟩
def ADX{body:p->Ω (Step p a)}(C:p->a->Prop)(c:∀s b r,body s=Y (.next b)->C b r->C s r)(d:∀s r,body s=Y (.done r)->C s r){s:p}{r:a}(h:Ag body s=Y r):C s r:=by
 obtain⟨n,hn⟩:=mW.1 h;clear h;induction n generalizing s with
 |zero=>cases hn
 |succ n e=>
  rw[fS]at hn;cases S:body s with
  |none=>rw[S]at hn;cases hn
  |some q=>
   rw[S]at hn;cases q with
   |next b=>exact c s b r S (e hn)
   |done f=>injection hn with hn;subst hn;exact d s f S
theorem bnd{x:Ω p}{k:p->Ω a}{r:a}(h:x.bind k=Y r):∃b,x=Y b/\k b=Y r:=by cases x<;>grind
abbrev GG(n:S)(α:Type):=Fin n->α
def GG.all{n}{α:Type}(x:α):GG n α:=λ_=>x
def gA(n:S)(e:Su p)(a:GG n p):Ψ Ad:=(List.finRange n).flatMap λi=>(e.f (a i)).cells
def AET(n:S)(e:Su p)(a:GG n p):(gA n e a).length=n*e.sz:=by
 unfold gA;have:∀l:Ψ (Fin n),(l.flatMap λi=>(e.f (a i)).cells).length=W l*e.sz:=by
  intro l;induction l with
  |nil=>simp
  |cons x l c=>rw[Ih,AZ,c,e.len];simp[EJ,Yt]
 rw[this,List.length_finRange]
def Gy{n:S}(a:GG n p)(i:Int):Option p:=if h:0<=i/\i.toNat<n then some (a ⟨i.toNat,h.2⟩)else none
def Xe{n}(a:GG n p)(i:Int)(v:p):GG n p:=λj=>if(j.val:Int)=i then v else a j
theorem qA{a}{x:p}(h:Gy a i=Y x):0<=i/\∃k:Fin n,i=(k.val:Int)/\a k=x:=by grind[Gy]
theorem uf(g:a→Ψ p)(sz:S)(c:∀x,(g x).length=sz)(l1:Ψ a)(x:a)(l2:Ψ a):
  (l1++x::l2).flatMap g=l1.flatMap g++g x++l2.flatMap g/\(l1.flatMap g).length=W l1*sz:=by
 induction l1<;>grind
theorem ua(k:Fin n):∃l1 l2,List.finRange n=l1++k::l2/\W l1=k.val/\k∉l1/\k∉l2:=by
 refine⟨(List.finRange n).take k.val,(List.finRange n).drop (k.val+1),?_,k!,?_,?_⟩;have a:(List.finRange n).drop k.val=k::(List.finRange n).drop (k.val+1):=by rw[OO q!];simp
 rw[<-a,DG];intro h;obtain⟨i,b,e⟩:=WU.1 h;grind;intro h;obtain⟨i,b,e⟩:=WU.1 h;grind
theorem uE(e:Su p)(a:GG n p)(k:Fin n):∃b c,gA n e a=b++(e.f (a k)).cells++c∧W b=k.val*e.sz∧
  ∀v,gA n e (Xe a k.val v)=b++(e.f v).cells++c:=by
 obtain⟨l1,l2,g,h,m,o⟩:=ua k;unfold gA;rw[g];obtain⟨d,q⟩:=uf (λi=>(e.f (a i)).cells) e.sz (λi=>e.len _) l1 k l2;refine⟨_,_,d,by rw[q,h],λv=>?_⟩;have r:∀j,j≠k->Xe a k.val v j=a j:=by grind[Xe]
 have l:Xe a k.val v k=v:=by grind[Xe]
 rw[(uf (λi=>(e.f (Xe a k.val v i)).cells) e.sz (λi=>e.len _) l1 k l2).1];grind[List.map_congr_left]
section
variable {α:Type}{n:Nat} (e:Su α) {a:GG n α}{i:Int}{x:α}
theorem AEU(h:Gy a i=Y x)(pre b:Ψ Ad):(pre++gA n e a++b).length=W pre+n*e.sz+W b∧W pre+i.toNat*e.sz+e.sz≤(pre++gA n e a++b).length∧
  ((pre++gA n e a++b).drop (W pre+i.toNat*e.sz)).take e.sz=(e.f x).cells/\∀v,XV (pre++gA n e a++b) (W pre+i.toNat*e.sz) (e.f v).cells=pre++gA n e (Xe a i v)++b:=by
 obtain⟨r,k,rfl,rfl⟩:=qA h;obtain⟨c,d,j,l,m⟩:=uE e a k;have o:((k.val:Int)).toNat=k.val:=q!
 have g:=AET n e a;have q:=e.len (a k);refine⟨k!,?_,?_,λv=>?_⟩;grind;grind;have p:=e.len v;rw[m v,j,o,<-l];have:(pre++(c++(e.f (a k)).cells++d)++b)=(pre++c)++((e.f (a k)).cells++(d++b)):=q!
 rw[this];unfold XV;rw[<-AZ,Ys,p,<-q,Yc,mF o!];simp
theorem AEP{off m:S}(pre b:Ψ Ad)(h:Gy a i=Y x)(c:off+m<=e.sz):W pre+i.toNat*e.sz+off+m<=(pre++gA n e a++b).length/\((pre++gA n e a++b).drop (W pre+i.toNat*e.sz+off)).take m=((e.f x).cells.drop off).take m:=by obtain⟨_,d,g,_⟩:=AEU e h pre b;grind[List.drop_take,List.drop_drop]
end
def sapp(a b:Bd):Ω Bd:=if W a+W b<=9223372036854775807 then Y (a++b)else D
theorem AJK{a b r:Bd}(h:sapp a b=Y r):(if W a+W b<=9223372036854775807 then Y (Ad.str (a++b))else D)=Y (.str r):=by grind[sapp]
def R3(s:Bd)(lo hi:Int):Ω Bd:=if 0<=lo/\lo<=hi/\hi<=W s then Y ((s.drop lo.toNat).take (hi.toNat-lo.toNat))else D
def T6(s:Ψ p)(lo hi:Int):Ω (Ψ p):=if 0<=lo/\lo<=hi/\hi<=W s then Y ((s.drop lo.toNat).take (hi.toNat-lo.toNat))else D
def E5(l:Ψ Int):Bd:=l.map λn=>UInt8.ofNat n.toNat
theorem yu:∀l:Ψ Int,u8s (l.map (xz .u8).f)=Y (E5 l)
 |[]=>rfl
 |n::l=>by have:=yu l;simp;simp only[xz]at this⊢;simp only[u8s,this];rfl
def AI2(k:IntKind)(l:Ψ Int):(xz k).cl l=l.map (xz k).f:=by
 unfold Su.cl;induction l with
 |nil=>rfl
 |cons x l a=>simp only[B4,Ih,a];rfl
theorem AFR(l:Ψ Int)(c:kd P Z=.str)(d:kd P b=.bytes):
  X4 P H b Z (.vs 1 (l.map (xz .u8).f))=Y (.str (E5 l)):=by
 simp only[X4,rowsOf];have:(l.map (xz .u8).f).flatMap Ad.cells=l.map (xz .u8).f:=AI2 .u8 l;grind[yu]
def ABP{body:p->Ω (Step p a)}{C:p->a->Prop}(h:∀s q,body s=Y q->match q with|.next d=>∀o,C d o->C s o|.done o=>C s o){s:p}{o:a}(b:Ag body s=Y o):C s o:=ADX C (λs _ r S c=>h s _ S r c) (λs _ S=>h s _ S) b
def mk(x:p)(l c:Int):Option (List p):=if 0<=l/\l<=c/\c<=16777216 then some (List.replicate l.toNat x)else none
theorem ALH(e:Su a)(x:a){c:Int}{r:List a}(h:mk x i c=some r):(0<=i/\i<=c/\c<=16777216)/\i.toNat=r.length/\(List.replicate i.toNat (e.f x).cells).flatten=e.cl r:=by unfold mk at h;split at h;rename_i b;injection h with h;subst h;unfold Su.cl;induction i.toNat<;>grind;cases h
def Tj(s:Bd):Ψ Int:=s.map λb=>(b.toNat:Int)
def AKQ(s:Bd):W s=(Tj s).length/\nH s=(xz .u8).cl (Tj s):=by
 refine⟨by simp[Tj],?_⟩;unfold Su.cl Tj nH;induction s with
 |nil=>rfl
 |cons b r a=>simp only[B4,a];rfl
def six(s:Bd)(i:Int):Option Int:=if 0<=i then(s[i.toNat]?).map λb=>(b.toNat:Int)else none
theorem AKP{s}{x:Int}(h:six s i=Y x)(a:kd P b=.str):lU P b (.str s) (.int I i)=Y (.int .u8 x):=by grind[six,lU]
def uO(e:Su p){l}{x:p}(h:ix l i=Y x):∃d j,e.cl l=d++(e.f x).cells++j/\W d=i.toNat*e.sz/\0<=i/\i.toNat<W l/\l[i.toNat]?=Y x/\∀v,e.cl (l.set i.toNat v)=d++(e.f v).cells++j:=by
 unfold ix at h;split at h
 case isFalse=>cases h
 rename_i k;obtain⟨c,n⟩:=Ei.1 h;have m:l=l.take i.toNat++x::l.drop (i.toNat+1):=by rw[<-n,<-OO c,DG]
 have b:∀v,l.set i.toNat v=l.take i.toNat++v::l.drop (i.toNat+1):=λv=>by rw[List.set_eq_take_append_cons_drop,C! c]
 have a:∀v,e.cl (l.take i.toNat++v::l.drop (i.toNat+1))=e.cl (l.take i.toNat)++(e.f v).cells++e.cl (l.drop (i.toNat+1)):=λv=>by simp[Su.cl]
 refine⟨e.cl (l.take i.toNat),e.cl (l.drop (i.toNat+1)),?_,?_,k,c,h,λv=>by rw[b,a]⟩;conv=>lhs;rw[m]
 exact a x;rw[e.clen,BQ,RD (Nat.le_of_lt c)]
def ER{α:Type}(l:List α)(i:Int)(v:α):List α:=l.set i.toNat v
def pj{l:Ψ a}{v:a}(h:W l=n):(ER l i v).length=n:=by rw[<-h];exact WT
section
variable {α:Type} (e:Su α) {l:Ψ α}{i:Int}{x:α}
theorem AIt(h:ix l i=Y x)(d:N+n<=e.sz):i.toNat*e.sz+N+n<=(e.cl l).length/\((e.cl l).drop (i.toNat*e.sz+N)).take n=((e.f x).cells.drop N).take n:=by obtain⟨j,k,b,c,_⟩:=uO e h;have g:=e.len x;rw[b,<-c];refine⟨k!,?_⟩;rw[A2,Yc,mF o!,B7,Tp,Yc,fm,C2,g,show n-(e.sz-N)=0 by omega];simp
end
mutual
def Ad.beq:Ad->Ad->Bool
 |.bool a,.bool b=>a==b
 |.int k n,.int k' n'=>decide (k=k')&&τ (n=n')
 |.str s,.str t=>decide (s=t)
 |.nilp,.nilp=>E
 |.nils,.nils=>E
 |.nilf,.nilf=>E
 |.ptr a b c,.ptr a' b' c'=>decide (a=a')&&(τ (b=b')&&τ (c=c'))
 |.vptr cs,.vptr ds=>Ad.beqL cs ds
 |.vs a cs,.vs b ds=>decide (a=b)&&Ad.beqL cs ds
 |.sl a b c d e,.sl a' b' c' d' e'=>decide (a=a')&&(τ (b=b')&&(τ (c=c')&&(τ (d=d')&&τ (e=e'))))
 |.agg cs,.agg ds=>Ad.beqL cs ds
 |.tup cs,.tup ds=>Ad.beqL cs ds
 |_,_=>η
def Ad.beqL:Ψ Ad->Ψ Ad->Bool
 |[],[]=>E
 |a::r,b::s=>Ad.beq a b&&Ad.beqL r s
 |_,_=>η
end
mutual
theorem beq_eq:∀a b,Ad.beq a b=E->a=b
 |.bool a,b,h=>by cases b<;>simp[Ad.beq]at h;rw[h]
 |.int k n,b,h=>by cases b<;>simp[Ad.beq]at h;rw[h.1,h.2]
 |.str s,b,h=>by cases b<;>simp[Ad.beq]at h;rw[h]
 |.nilp,b,h=>by cases b<;>simp[Ad.beq]at h;rfl
 |.nils,b,h=>by cases b<;>simp[Ad.beq]at h;rfl
 |.nilf,b,h=>by cases b<;>simp[Ad.beq]at h;rfl
 |.ptr _ _ _,b,h=>by cases b<;>simp[Ad.beq]at h;rw[h.1,h.2.1,h.2.2]
 |.vptr cs,b,h=>by cases b<;>simp[Ad.beq]at h;rw[mL cs _ h]
 |.vs a cs,b,h=>by cases b<;>simp[Ad.beq]at h;rw[h.1,mL cs _ h.2]
 |.sl _ _ _ _ _,b,h=>by cases b<;>simp[Ad.beq]at h;rw[h.1,h.2.1,h.2.2.1,h.2.2.2.1,h.2.2.2.2]
 |.agg cs,b,h=>by cases b<;>simp[Ad.beq]at h;rw[mL cs _ h]
 |.tup cs,b,h=>by cases b<;>simp[Ad.beq]at h;rw[mL cs _ h]
 |.fn _ _ _,b,h=>by cases b<;>simp[Ad.beq]at h
 |.yf _,b,h=>by cases b<;>simp[Ad.beq]at h
 |.mp _,b,h=>by cases b<;>simp[Ad.beq]at h
 |.itp _ _,b,h=>by cases b<;>simp[Ad.beq]at h
 |.any,b,h=>by cases b<;>simp[Ad.beq]at h
theorem mL:∀a b,Ad.beqL a b=E->a=b
 |[],b,h=>by cases b<;>simp[Ad.beqL]at h;rfl
 |x::r,b,h=>by
  cases b with
  |nil=>simp[Ad.beqL]at h
  |cons y s=>simp only[Ad.beqL,BZ]at h;rw[beq_eq x y h.1,mL r s h.2]
end
mutual
inductive Ty where
 |bool
 |int (k:IntKind)
 |str
 |list (t:Ty)
 |arr (n:S) (t:Ty)
 |prod (ts:Sr)
inductive Sr where
 |one (t:Ty)
 |cons (t:Ty) (ts:Sr)
end
mutual
@[reducible] def Ty.D:Ty->Type
 |.bool=>Bool
 |.int _=>Int
 |.str=>Ψ UInt8
 |.list t=>Ψ t.D
 |.arr n t=>GG (n+1) t.D
 |.prod ts=>ts.D
@[reducible] def Sr.D:Sr->Type
 |.one t=>t.D
 |.cons t ts=>t.D×ts.D
end
mutual
def Ty.sz:Ty->S
 |.bool=>1
 |.int _=>1
 |.str=>1
 |.list _=>1
 |.arr n t=>(n+1)*t.sz
 |.prod ts=>ts.sz
def Sr.sz:Sr->S
 |.one t=>t.sz
 |.cons t ts=>t.sz+ts.sz
end
mutual
def Ty.enc:(t:Ty)->t.D->Ad
 |.bool,b=>.bool b
 |.int k,n=>.int k n
 |.str,s=>.str s
 |.list t,l=>.vs t.sz (l.map t.enc)
 |.arr n t,a=>.agg ((List.finRange (n+1)).flatMap λi=>(t.enc (a i)).cells)
 |.prod ts,x=>.agg (ts.cells x)
def Sr.cells:(ts:Sr)->ts.D->Ψ Ad
 |.one t,x=>(t.enc x).cells
 |.cons t ts,x=>(t.enc x.1).cells++ts.cells x.2
end
mutual
theorem Ty.sz_pos:∀t:Ty,0<t.sz
 |.bool=>g!
 |.int _=>by simp[Ty.sz]
 |.str=>g!
 |.list _=>by simp[Ty.sz]
 |.arr n t=>by simp only[Ty.sz];exact Nat.mul_pos (Nat.succ_pos n) t.sz_pos
 |.prod a=>by simp only[Ty.sz];exact a.sz_pos
theorem Sr.sz_pos:∀a:Sr,0<a.sz
 |.one t=>by simp only[Sr.sz];exact t.sz_pos
 |.cons t a=>by simp only[Sr.sz];have:=t.sz_pos;omega
end
mutual
theorem Ty.enc_len:∀(t:Ty)x,(t.enc x).cells.length=t.sz
 |.bool,_=>rfl
 |.int _,_=>rfl
 |.str,_=>rfl
 |.list _,_=>rfl
 |.arr n t,a=>by
  show((List.finRange (n+1)).flatMap λi=>(t.enc (a i)).cells).length=(n+1)*t.sz;have:∀l:Ψ (Fin (n+1)),(l.flatMap λi=>(t.enc (a i)).cells).length=W l*t.sz:=by
   intro l;induction l with
   |nil=>simp
   |cons x l b=>rw[Ih,AZ,b,t.enc_len];simp[EJ,Yt]
  rw[this,List.length_finRange]
 |.prod ts,x=>ts.cells_len x
theorem Sr.cells_len:∀(a:Sr)x,(a.cells x).length=a.sz
 |.one t,x=>by simp only[Sr.cells,Sr.sz];exact t.enc_len x
 |.cons t a,x=>by simp only[Sr.cells,Sr.sz,AZ];rw[t.enc_len,a.cells_len]
end
mutual
theorem Ty.enc_pure:∀(t:Ty)x,Pure (t.enc x)
 |.bool,_=>rfl
 |.int _,_=>rfl
 |.str,_=>rfl
 |.list t,l=>by unfold Pure;show Ad.idsAllL _ (l.map t.enc)=E;rw[Dv];intro v b;obtain⟨x,_,rfl⟩:=Bp.1 b;exact t.enc_pure x
 |.arr n t,a=>by unfold Pure;show Ad.idsAllL _ ((List.finRange (n+1)).flatMap λi=>(t.enc (a i)).cells)=E;rw[Dv];intro v b;obtain⟨i,_,b⟩:=G0.1 b;exact Vj (t.enc_pure _) v b
 |.prod ts,x=>by unfold Pure;show Ad.idsAllL _ (ts.cells x)=E;rw[Dv];exact ts.cells_pure x
theorem Sr.cells_pure:∀(b:Sr)x,∀v∈b.cells x,Pure v
 |.one t,x,v,a=>Vj (t.enc_pure x) v a
 |.cons t b,x,v,a=>by simp only[Sr.cells,Ak]at a;rcases a with a|a;exact Vj (t.enc_pure _) v a;exact b.cells_pure _ v a
end
def Ty.E(t:Ty):Su t.D:=⟨t.sz,t.enc,t.sz_pos,t.enc_len,t.enc_pure⟩
mutual
def Ty.beq:Ty->Ty->Bool
 |.bool,.bool=>E
 |.int k,.int k'=>decide (k=k')
 |.str,.str=>E
 |.list t,.list t'=>t.beq t'
 |.arr n t,.arr n' t'=>ξ n n'&&t.beq t'
 |.prod ts,.prod ts'=>ts.beq ts'
 |_,_=>η
def Sr.beq:Sr->Sr->Bool
 |.one t,.one t'=>t.beq t'
 |.cons t ts,.cons t' ts'=>t.beq t'&&ts.beq ts'
 |_,_=>η
end
mutual
theorem Ty.beq_eq:∀(t a:Ty),t.beq a=E->t=a
 |.bool,a,h=>by cases a<;>simp[Ty.beq]at h;rfl
 |.int k,a,h=>by cases a<;>simp[Ty.beq]at h;rw[h]
 |.str,a,h=>by cases a<;>simp[Ty.beq]at h;rfl
 |.list t,a,h=>by cases a<;>simp[Ty.beq]at h;rw[t.beq_eq _ h]
 |.arr n t,a,h=>by cases a<;>simp[Ty.beq]at h;rw[h.1,t.beq_eq _ h.2]
 |.prod ts,a,h=>by cases a<;>simp[Ty.beq]at h;rw[ts.beq_eq _ h]
theorem Sr.beq_eq:∀(t a:Sr),t.beq a=E->t=a
 |.one t,a,h=>by cases a<;>simp[Sr.beq]at h;rw[t.beq_eq _ h]
 |.cons t ts,a,h=>by cases a<;>simp[Sr.beq]at h;rw[t.beq_eq _ h.1,ts.beq_eq _ h.2]
end
def Ty.cast{t t':Ty}(h:t.beq t'=ζ)(x:t.D):t'.D:=Ty.beq_eq t t' h▸x
def eR{t a:Ty}(h:t.beq a=E)(x:t.D):a.enc (Ty.cast h x)=t.enc x:=by have:=Ty.beq_eq t a h;subst this;rfl
mutual
def Ty.zero:(t:Ty)->t.D
 |.bool=>η
 |.int _=>(0:Int)
 |.str=>([]:Ψ UInt8)
 |.list t=>([]:Ψ t.D)
 |.arr n t=>(GG.all t.zero:GG (n+1) t.D)
 |.prod ts=>ts.zero
def Sr.zero:(ts:Sr)->ts.D
 |.one t=>t.zero
 |.cons t ts=>(t.zero,ts.zero)
end
inductive Bw where
 |bl (b:Bool)
 |it (k:IntKind) (n:Int)
 |st (s:List UInt8)
 |ls (t:Ty) (l:List t.D)
 |ar (n:S) (t:Ty) (a:GG (n+1) t.D)
 |own (id ver:S) (t:Ty) (n:S)
 |nil
 |raw (v:Ad)
def Bw.w:Bw->S
 |.ar n t _=>(n+1)*t.sz
 |_=>1
def Bw.enc:Bw->Ψ Ad
 |.bl b=>[.bool b]
 |.it k n=>[.int k n]
 |.st s=>[.str s]
 |.ls t l=>[.vs t.sz (l.map t.enc)]
 |.ar n t a=>((Ty.arr n t).enc a).cells
 |.own id _ t n=>[.sl id n t.sz 0 n]
 |.nil=>[.nils]
 |.raw v=>[v]
def Bw.one:Bw->Ad
 |.bl b=>.bool b
 |.it k n=>.int k n
 |.st s=>.str s
 |.ls t l=>.vs t.sz (l.map t.enc)
 |.ar n t a=>(Ty.arr n t).enc a
 |.own id _ t n=>.sl id n t.sz 0 n
 |.nil=>.nils
 |.raw v=>v
def lvs(cs:Ψ Bw):Ψ Ad:=cs.flatMap Bw.enc
def Bw.enc_len(x:Bw):W x.enc=x.w:=by
 cases x with
 |ar n t a=>exact Ty.enc_len (.arr n t) a
 |_=>rfl
inductive TV where
 |c (x:Bw)
 |g (cs:List Bw)
 |aptr (id base n:S) (t:Ty) (i:Int) (off:S)
 |bptr (id ver:S) (t:Ty) (n:S) (i:Int) (off:S)
 |vw (id ver:S) (t:Ty) (n lo m:S)
 |vptr (cs:List Bw) (post:List Ad)
 |tup (vs:List TV)
def vwE(id n sz lo m:S):Ad:=
 if min m (n-lo)=0 then(if lo=0 then .sl id n sz 0 0 else .vs sz [])else .sl id n sz (lo*sz) (min m (n-lo))
mutual
def TV.enc:TV->Ad
 |.c x=>x.one
 |.g cs=>.agg (lvs cs)
 |.aptr id base _ t i off=>.ptr id 0 (base+i.toNat*t.sz+off)
 |.bptr id _ t n i off=>.ptr id n (i.toNat*t.sz+off)
 |.vw id _ t n lo m=>vwE id n t.sz lo m
 |.vptr cs post=>.vptr (lvs cs++post)
 |.tup vs=>.tup (TV.encL vs)
def TV.encL:Ψ TV->Ψ Ad
 |[]=>[]
 |v::r=>v.enc::TV.encL r
end
def uV:∀l:Ψ TV,TV.encL l=l.map TV.enc
 |[]=>rfl
 |v::r=>by simp only[TV.encL,B4,uV r]
abbrev Bi:=Ψ (S×TV)
inductive LS where
 |ready
 |busy
 |ret
 |exit (x:S)
def LS.st:LS->LoopState
 |.ready=>.ready
 |.busy=>.busy
 |_=>.done
def LS.pend:LS->Ω Code
 |.ret=>Y .ret
 |.exit x=>Y (.exit x)
 |_=>D
def LS.beq:LS->LS->Bool
 |.ready,.ready=>E
 |.busy,.busy=>E
 |.ret,.ret=>E
 |.exit x,.exit y=>ξ x y
 |_,_=>η
def LS.beq_eq{a b:LS}(h:a.beq b=E):a=b:=by cases a<;>cases b<;>simp only[LS.beq]at h<;>first|rfl|cases h|rw[DH h]
inductive Dx where
 |dead
 |live (ro:Bool) (cs:List Bw)
 |buf (ro:Bool) (t:Ty) (l:List t.D) (n ver:S)
 |lp (ro:Bool) (F:FuncId) (n:S) (env:Bi) (ps:Array Tmp) (a b:Code) (s:LS)
 |mp (ro:Bool) (k:IntKind) (t:Ty) (es:List (Int×t.D))
abbrev As:=Ψ Dx
def B3(env:Bi):Env:=env.map λp=>(p.1,p.2.enc)
def Dx.enc:Dx->Ft
 |.dead=>.dead
 |.live _ cs=>.live 0 (lvs cs)
 |.buf _ t l n _=>.live n (t.E.cl l)
 |.lp _ _ n env ps a b s=>.lp ⟨n,B3 env,ps,a,b,s.st,s.pend⟩
 |.mp _ k t es=>.mp k (es.map λp=>(p.1,t.enc p.2))
def BL(H:As):Aw:=H.map Dx.enc
def Vv:TV:=.c (.raw .any)
def Bi.get:Bi->S->TV
 |[],_=>Vv
 |(k,v)::r,t=>match ξ k t with|true=>v|false=>Bi.get r t
def Bi.del(t:S):Bi->Bi
 |[]=>[]
 |(k,v)::r=>match ξ k t with|true=>Bi.del t r|false=>(k,v)::Bi.del t r
def Bi.put(env:Bi)(t:S)(v:TV):Bi:=(t,v)::Bi.del t env
def Bi.putO(env:Bi):Ω S->TV->Bi
 |some t,v=>env.put t v
 |none,_=>env
theorem beq_false(h:N≠n):ξ N n=η:=by grind[Nat.eq_of_beq_eq_true]
theorem VJ(env:Bi)(t:S):(B3 env).get t=(env.get t).enc:=by
 induction env with
 |nil=>simp[B3,Env.get,Bi.get,Vv,TV.enc,Bw.one]
 |cons p r a=>grind[B3,Env.get,Bi.get,Nat.beq_refl,beq_false]
theorem AEs(env:Bi)(t:S):B3 (Bi.del t env)=(B3 env).filter λp=>decide (p.1≠t):=by induction env<;>grind[Bi.del,B3,Nat.beq_refl,beq_false]
def kv(env:Bi)(t:S)(v:TV):B3 (env.put t v)=(B3 env).put t v.enc:=by simp only[Env.put,<-AEs];rfl
def Yg(env:Bi)(t:Ω S)(v:TV):B3 (env.putO t v)=(B3 env).putO t v.enc:=by
 cases t with
 |none=>rfl
 |some t=>exact kv env t v
def AEn:Value->Bw
 |.bool b=>.bl b
 |.int k n=>.it k n
 |.string s=>.st s.data.toList
 |.pointer D=>.raw .nilp
 |.slice D 0 0=>.nil
 |.nilFunc=>.raw .nilf
 |_=>.raw .any
def cvT:Value->TV
 |.agg cs=>match cs.toList.all (·.oneCell')with|true=>.g (cs.toList.map AEn)|false=>Vv
 |v=>.c (AEn v)
def zX(v:Value):(AEn v).one=sC v:=by
 cases v with
 |pointer p=>cases p<;>rfl
 |slice a l c=>
  cases a with
  |some _=>rfl
  |none=>
   match l,c with
   |0,0=>rfl
   |0,_+1=>rfl
   |_+1,_=>rfl
 |_=>rfl
theorem AEo(v:Value):(AEn v).enc=[sC v]:=by
 cases v with
 |pointer p=>cases p<;>rfl
 |slice a l c=>
  cases a with
  |some _=>rfl
  |none=>
   match l,c with
   |0,0=>rfl
   |0,_+1=>rfl
   |_+1,_=>rfl
 |_=>rfl
theorem AG1(v:Value):(cvT v).enc=ADJ v:=by
 cases v with
 |agg b=>
  simp only[cvT,ADJ];cases h:b.toList.all (·.oneCell')with
  |false=>simp[Vv,TV.enc,Bw.one]
  |true=>simp only[TV.enc,lvs];induction b.toList<;>grind[AEo]
 |pointer p=>exact zX (.pointer p)
 |slice a l c=>exact zX (.slice a l c)
 |_=>rfl
def Jx(env:Bi):Operand->TV
 |.tmp t=>env.get t
 |.const v=>cvT v
 |.global _=>Vv
 |.func f=>.c (.raw (.fn (.func f) [] []))
theorem Lx(env:Bi)(x:Operand):BS (B3 env) x=(Jx env x).enc:=by
 cases x with
 |tmp t=>exact VJ env t
 |const v=>exact(AG1 v).symm
 |global _=>rfl
 |func f=>rfl
end Go.Ab
