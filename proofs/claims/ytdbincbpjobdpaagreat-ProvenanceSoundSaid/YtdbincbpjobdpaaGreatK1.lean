/- Parts of the proof; nothing is assumed. -/
import Derived.Calls
import Derived.Below
import Derived.RangeFuncRecord
import Derived.OrdersIn
import Derived.Lib.FrozenHead
import Derived.Orders
import Derived.Laws.Cells
import Derived.Laws.Entries
import Derived.Laws.StructEq
import Derived.ChangeKeysEq
import Derived.Laws.BytesString
import Derived.Laws.Tables
import Derived.Great.FillDense
import Derived.Great.BuildSlice
import Derived.Laws.MakeOwn
import Derived.RangeFuncNested
import Derived.Lib.ConvBytes
import Derived.Laws.AppendOwn
open _root_ renaming Nat->S
namespace Go
theorem n!{A B:Prop}(h:¬A:=by decide):A->B:=λa=>absurd a h
theorem o!{P:Prop}(h:P:=by omega):P:=h
theorem d!{P:Prop}(h:P:=by dsimp only;omega):P:=h
theorem g!{P:Prop}(h:P:=by decide):P:=h
theorem k!{P:Prop}(h:P:=by grind):P:=h
theorem q!{P:Prop}(h:P:=by simp):P:=h
theorem w!{P:Prop}(h:P:=by simp;omega):P:=h
theorem v!{P:Prop}(h:P:=by assumption):P:=h
theorem u!{P:Prop}(h:P:=by dsimp only;decide):P:=h
theorem t!{P:Prop}(h:P:=by simp_all):P:=h
end Go
noncomputable section
set_option linter.all false
open Option renaming some->Z
open List renaming length->W
open Bool renaming true->E
open Option renaming none->D
open Option renaming some->δ,none->ε
open Bool renaming true->ζ,false->η
open List renaming length->θ,replicate->ς
open BitVec renaming ofInt->κ
open Nat renaming beq->ξ
open Decidable renaming decide->τ
namespace Go
abbrev Ω.{u}(a:Type u):=Option a
abbrev Ψ.{u}(a:Type u):=List a
def A!:=@cond_false
def B!:=@cond_true
def C!:=@if_pos
theorem n?{α:Type _}{a b:List α}:(a++b).length=a.length+b.length:=List.length_append
theorem m?{α:Type _}{l:List α}{i:S}(h:i<l.length):l[i]? =some l[i]:=List.getElem?_eq_getElem h
theorem p?{α β:Type _}{a:α}{f:α->Option β}:(some a).bind f=f a:=rfl
theorem t?{α:Type _}(a b c:List α):a++b++c=a++(b++c):=List.append_assoc a b c
theorem u?{α:Type _}{l:List α}{i:S}(h:l.length<=i):l[i]? =none:=List.getElem?_eq_none h
theorem r?{α:Type _}{i:S}{l:List α}:(l.take i).length=min i l.length:=List.length_take
theorem s?(n:S):(n:Int).toNat=n:=Int.toNat_natCast n
theorem a!{α:Type _}{a b:α}:a∈[b]<->a=b:=List.mem_singleton
def D!:=@if_neg
def E!:=@congrArg
def F!:=@decide_eq_false
def G!:=@decide_eq_true
def H!:=@bne_self_eq_false
def I!:=@beq_eq_false_iff_ne
def J!:=@beq_iff_eq
def K!:=@decide_eq_true_eq
def L!:=@beq_self_eq_true
def M!:=@bne_iff_ne
def N!:=@of_decide_eq_true
theorem O!{a b:Prop}(h:a)(k: ¬a):b:=absurd h k
theorem P!:True:=trivial
def tu:=@Array.eq_empty_of_size_eq_zero
def oh:=@Array.extract_size
def RI:=@Array.getD_eq_getD_getElem?
def Yv:=@Array.getElem?_append_left
def uD:=@Array.getElem?_append_right
def OR:=@Array.getElem?_eq_getElem
def uE:=@Array.getElem?_eq_none
def zC:=@Array.getElem?_eq_none_iff
def cz:=@Array.getElem?_eq_some_iff
def dC:=@Array.getElem?_map
def cq:=@Array.getElem?_modify
def UG:=@Array.getElem?_push
def wK:=@Array.getElem?_setIfInBounds_ne
def QJ:=@Array.getElem?_toList
def Dy:=@Array.length_toList
def wL:=@Array.mem_of_getElem?
def qE:=@Array.size_append
def qF:=@Array.size_setIfInBounds
def qG:=@BitVec.eq_of_getLsbD_eq
def cr:=@BitVec.ofInt_natCast
def cu:=@BitVec.toNat_ofNat
def mC:=@BitVec.xor_assoc
def cw:=@BitVec.xor_self
def mD:=@BitVec.zero_xor
def Ba:=@Bool.and_eq_true
def YY:=@Bool.and_self
def Rm:=@Bool.and_true
def qH:=@Bool.false_and
def QK:=@Bool.false_eq_true
def Wb:=@Bool.not_eq_true'
def Bn:=@Bool.not_true
def UH:=@Bool.or_eq_true
def mE:=@Bool.true_and
def UI:=@Decidable.byContradiction
def YZ:=@Iff.rfl
def EG:=@Int.eq_ofNat_of_zero_le
def mF:=@Int.fdiv_eq_ediv_of_nonneg
def Ae:=@Int.le_refl
def Ya:=@Int.le_trans
def mG:=@Int.lt_or_le
def qI:=@Int.mul_ediv_add_emod
def CR:=@s?
def JW:=@Int.toNat_of_nonneg
def mH:=@Int.toNat_zero
def qJ:=@List.Pairwise.imp_of_mem
def qK:=@List.Perm.eq_of_pairwise
def mI:=@List.Perm.refl
def qL:=@List.all_cons
def GL:=@List.all_eq_true
def qM:=@List.all_nil
def qN:=@List.any_eq_true
def A3:=@t?
def qO:=@List.append_eq_append_iff
def Ei:=@List.append_inj
def Dc:=@List.append_nil
def EW:=@List.cons_append
def Yb:=@List.drop_append
def qP:=@List.drop_append_of_le_length
def LK:=@List.drop_drop
def OQ:=@List.drop_eq_getElem_cons
def mJ:=@List.drop_eq_nil_of_le
def Rn:=@List.drop_left
def mK:=@List.drop_left'
def Ro:=@List.drop_of_length_le
def mL:=@List.drop_sublist
def Wc:=@List.drop_zero
def D8:=@List.eq_nil_of_length_eq_zero
def JX:=@List.ext_getElem?
def wM:=@List.extract_eq_take_drop
def wN:=@List.filterMap_append
def GM:=@List.filter_append
def Mr:=@List.filter_cons
def wO:=@List.filter_cons_of_neg
def wP:=@List.filter_cons_of_pos
def mM:=@List.filter_nil
def Wd:=@List.filter_sublist
def We:=@List.flatMap_append
def Ii:=@List.flatMap_cons
def qQ:=@List.flatMap_nil
def qR:=@List.flatten_cons
def Yc:=@List.foldl_append
def Yd:=@List.foldl_cons
def Rp:=@List.getD_eq_getElem?_getD
def CY:=@List.getElem?_append_left
def Cn:=@List.getElem?_append_right
def mN:=@List.getElem?_cons_succ
def cy:=@List.getElem?_cons_zero
def KC:=@List.getElem?_drop
def Au:=@m?
def Ct:=@u?
def EX:=@List.getElem?_eq_some_iff
def qS:=@List.getElem?_inj
def CU:=@List.getElem?_map
def DW:=@List.getElem?_of_mem
def Rq:=@List.getElem?_range
def Wf:=@List.getElem?_set
def Dd:=@List.getElem?_set_ne
def HE:=@List.getElem?_set_self
def dA:=@List.getElem?_take
def KD:=@List.getElem?_take_of_lt
def ff:=@List.getElem?_toArray
def tz:=@List.getElem?_zip_eq_some
def F8:=@List.getElem_mem
def ng:=@List.getElem_take
def Aa:=@n?
def Bh:=@List.length_cons
def C5:=@List.length_drop
def uA:=@List.length_eq_zero_iff
def EK:=@List.length_filter_le
def BT:=@List.length_map
def Bi:=@List.length_nil
def Hi:=@List.length_replicate
def WW:=@List.length_set
def PL:=@List.length_singleton
def BP:=@r?
def fg:=@List.length_take_le
def Ke:=@List.map_append
def NT:=@List.map_congr_left
def B4:=@List.map_cons
def fh:=@List.map_drop
def fi:=@List.map_id
def PM:=@List.map_map
def Hj:=@List.map_nil
def nh:=@List.map_take
def Q7:=@List.map_toArray
def Ak:=@List.mem_append
def GU:=@List.mem_append_left
def NU:=@List.mem_append_right
def Av:=@List.mem_cons
def CZ:=@List.mem_cons_of_mem
def JV:=@List.mem_cons_self
def BQ:=@List.mem_filter
def PN:=@List.mem_filterMap
def G3:=@List.mem_flatMap
def WX:=@List.mem_iff_getElem
def Eg:=@List.mem_iff_getElem?
def Bs:=@List.mem_map
def Tp:=@List.mem_map_of_mem
def BO:=@List.mem_of_getElem?
def Q8:=@List.mem_of_mem_drop
def F9:=@List.mem_of_mem_take
def Q9:=@List.mem_or_eq_of_mem_set
def IH:=@List.mem_range
def A5:=@a!
def uB:=@List.mem_zipIdx_iff_getElem?
def B5:=@List.nil_append
def RD:=@List.nodup_append
def G4:=@List.nodup_cons
def II:=@List.nodup_iff_pairwise_ne
def RE:=@List.nodup_nil
def EL:=@List.pairwise_iff_getElem
def RF:=@List.pairwise_map
def ni:=@List.perm_ext_iff_of_nodup
def nj:=@List.replicate_succ
def Tq:=@List.set_append_right
def Yo:=@List.set_set
def uC:=@List.singleton_append
def Yp:=@List.size_toArray
def WY:=@List.sum_cons
def Ck:=@List.take_add_one
def fj:=@List.take_append
def DG:=@List.take_append_drop
def Yq:=@List.take_append_of_le_length
def Yr:=@List.take_left
def Fi:=@List.take_left'
def Hk:=@List.take_length
def BM:=@List.take_of_length_le
def fk:=@List.take_sublist
def Kf:=@List.take_take
def fm:=@List.zip_append
def WZ:=@Nat.add_assoc
def Ys:=@Nat.add_comm
def D5:=@Nat.add_mul
def nk:=@Nat.add_sub_cancel
def Tr:=@Nat.add_sub_cancel_left
def NV:=@Nat.add_zero
def Hl:=@Nat.beq_refl
def DB:=@Nat.eq_of_beq_eq_true
def Ts:=@Nat.eq_zero_or_pos
def PO:=@Nat.le_of_ble_eq_true
def Al:=@Nat.le_refl
def Cl:=@Nat.le_trans
def DH:=@Nat.lt_of_lt_of_le
def A0:=@Nat.lt_or_ge
def nl:=@Nat.lt_succ_self
def RG:=@Nat.lt_trichotomy
def RH:=@Nat.min_eq_left
def Tt:=@Nat.mod_eq_of_lt
def Yt:=@Nat.mod_lt
def nm:=@Nat.mul_le_mul
def NW:=@Nat.mul_le_mul_right
def Bq:=@Nat.ne_of_lt
def fo:=@Nat.pow_le_pow_right
def G5:=@Nat.sub_self
def Wa:=@Nat.sub_zero
def DZ:=@Nat.zero_add
def BV:=@Nat.zero_le
def Yu:=@Nat.zero_mul
def PP:=@Ne.symm
def DM:=@Option.bind_eq_some_iff
def AD:=@p?
def np:=@Option.getD_some
def fq:=@Option.isSome_iff_exists
def Tu:=@Option.map_eq_some_iff
def nq:=@Option.map_none
def Bt:=@Option.map_some
def BY:=@Option.some.inj
def Ar:=@Option.some.injEq
def nr:=@Option.toList_some
def Da:=@Prod.ext
def Eh:=@Prod.mk.injEq
def nt:=@Sum.elim_inr
def fu:=@UInt8.toNat_ofNat'
end Go
namespace Go.Ab
inductive Ad where
 |bool (b:Bool)
 |int (k:IntKind) (n:Int)
 |str (s:List UInt8)
 |nilp
 |ptr (id g off:S)
 |vptr (cs:List Ad)
 |nils
 |vs (sz:S) (rows:List Ad)
 |vx (sz:S) (rows:List Ad)
 |sl (id g sz off len:S)
 |fn (f:Fn) (first caps:List Ad)
 |yf (id:S)
 |mp (id:S)
 |itp (id m:S)
 |nilf
 |agg (cs:List Ad)
 |tup (vs:List Ad)
 |any
 deriving Inhabited
def Ad.cells:Ad->Ψ Ad
 |.agg cs=>cs
 |v=>[v]
structure Cx where
 w:World
 n:S
 io:S->Option S
 gen:S->S
 cap:S->S
 O:S->Prop
inductive Bv(x:Cx):Ad->Value->Prop where
 |bool (b:Bool):Bv x (.bool b) (.bool b)
 |int (k:IntKind) (n:Int):Bv x (.int k n) (.int k n)
 |str {s:List UInt8} (t:ByteArray) (h:t.data.toList=s):Bv x (.str s) (.string t)
 |nilp:Bv x .nilp (.pointer none)
 |ptr {id g off:S}{c:Value} (hid:id<x.n) (hg:g≤x.gen id) (h1:c.oneCell'=true)
   (hc:x.gen id=g->∃B,x.io id=some B/\c=.pointer (some ⟨B,off,none⟩)):Bv x (.ptr id g off) c
 |vptr {cs:List Ad}{B off:S} (f:S→Value) (hO:¬x.O B) (hB:B<x.w.heap.size)
   (hc:∀(j:S)(v:Ad),cs[j]?=some v->x.w.cell? ⟨B,off+j,none⟩=some (f j)/\(f j).oneCell'=true)
   (hv:∀(j:S)(v:Ad),cs[j]?=some v->Bv x v (f j)):Bv x (.vptr cs) (.pointer (some ⟨B,off,none⟩))
 |nils:Bv x .nils (.slice none 0 0)
 |vs {sz:S}{rows:List Ad}{a:Option Addr}{cap:S} (f:S→S→Value) (hcap:rows.length≤cap) (hsz:0<sz)
   (hrow:∀(j:S)(e:Ad),rows[j]?=some e->e.cells.length=sz)
   (ha:rows≠ []->∃B off,a=some ⟨B,off,none⟩/\¬x.O B/\B<x.w.heap.size/\
    ∀(j:S)(e:Ad)(i:S)(v:Ad),rows[j]?=some e->e.cells[i]?=some v->x.w.cell? ⟨B,off+(j*sz+i),none⟩=some (f j i)/\(f j i).oneCell'=true)
   (hv:∀(j:S)(e:Ad)(i:S)(v:Ad),rows[j]?=some e->e.cells[i]?=some v->Bv x v (f j i)):Bv x (.vs sz rows) (.slice a rows.length cap)
 |vx {sz:S}{rows:List Ad}{a:Option Addr} (r:Bv x (.vs sz rows) (.slice a rows.length rows.length)):Bv x (.vx sz rows) (.slice a rows.length rows.length)
 |sl {id g sz off len:S}{c:Value} (hid:id<x.n) (hg:g≤x.gen id) (h1:∃a cap,c=.slice a len cap)
   (hc:x.gen id=g->(x.io id=none/\len=0/\off=0/\c=.slice none 0 0)\/
    ∃B cap,x.io id=some B/\len<=cap/\off+cap*sz<=x.cap id/\c=.slice (some ⟨B,off,none⟩) len cap):Bv x (.sl id g sz off len) c
 |fn {f:Fn}{first caps:List Ad}{first' caps':Array Value} (h1:first'.size=first.length) (h2:caps'.size=caps.length)
   (hv1:∀(j:S)(v:Ad)(c:Value),first[j]?=some v->first'[j]?=some c->Bv x v c) (hv2:∀(j:S)(v:Ad)(c:Value),caps[j]?=some v->caps'[j]?=some c->Bv x v c):
   Bv x (.fn f first caps) (.func f first' caps')
 |yf {id:S}{c:Value} (hid:id<x.n) (h1:c.oneCell'=true) (hc:x.gen id=0->∃B,x.io id=some B/\c=.func (.yield B) #[] #[]):Bv x (.yf id) c
 |mp {id:S}{c:Value} (hid:id<x.n) (h1:c.oneCell'=true) (hc:x.gen id=0->∃B,x.io id=some B/\c=.map (some B)):Bv x (.mp id) c
 |itp {id m:S}{c:Value} (hid:id<x.n) (hm:m<x.n) (h1:c.oneCell'=true) (hc:x.gen id=0->∃B,x.io id=some B/\c=.pointer (some ⟨B,0,none⟩)/\(x.gen m=0->x.io m=some (x.cap id))):Bv x (.itp id m) c
 |nilf:Bv x .nilf .nilFunc
 |agg {cs:List Ad}{cs':Array Value} (h:cs'.size=cs.length) (h1:∀(j:S)(c:Value),cs'[j]?=some c→c.oneCell'=true)
   (hv:∀(j:S)(v:Ad)(c:Value),cs[j]?=some v->cs'[j]?=some c->Bv x v c):Bv x (.agg cs) (.agg cs')
 |tup {vs:List Ad}{vs':Array Value} (h:vs'.size=vs.length)
   (hv:∀(j:S)(v:Ad)(c:Value),vs[j]?=some v->vs'[j]?=some c->Bv x v c):Bv x (.tup vs) (.tuple vs')
 |any (c:Value):Bv x .any c
structure Cx.Later(x y:Cx):Prop where
 size:x.w.heap.size<=y.w.heap.size
 keep:∀B,B<x.w.heap.size->¬x.O B->∀off,y.w.cell? ⟨B,off,none⟩=x.w.cell? ⟨B,off,none⟩
 own:∀B,B<x.w.heap.size->y.O B->x.O B
 n:x.n<=y.n
 gen:∀id,id<x.n->x.gen id<=y.gen id
 same:∀id,id<x.n->y.gen id=x.gen id->y.io id=x.io id/\y.cap id=x.cap id
variable {N n:Nat}{b Y:TypeId}{d:World}{f e:Ψ Ad}{g:Value}{P:Program}{j:Nat→Prop}{k U:Ad}{R l:Type}{o:Oper}{p a:Operand}{q:Cx}{c:Code}{r:Act}{s:Ψ Nat}{t:Ω Nat}{u:Array Value}{y:Array (Nat×Operand)}{z:FuncId}{L:Array Bool}{i:Int}{B:Ω (Ψ Deferred)}{G:IntKind}{I:Array Oper}{M:Bool}{X:Nat->Prop}{T:Exit->Act->World->Prop}{V:TypeInfo}{v:Ψ Value}{x:Ψ UInt8}{F:TypeDesc}{K:Op}
theorem nN{b:World}(h:b.heap[N]?=d.heap[N]?)(a:S):b.cell? ⟨N,a,D⟩=d.cell? ⟨N,a,D⟩:=by grind[World.cell?]
theorem Bv.later{x y:Cx}(h:x.Later y)(r:Bv x k g):Bv y k g:=by
 induction r with
 |bool b=>exact .bool b
 |int v n=>exact .int v n
 |str t J=>exact .str t J
 |nilp=>exact .nilp
 |ptr a w d p=>refine .ptr (DH a h.n) (Cl w (h.gen _ a)) d λe=>?_;have d:=h.gen _ a;have m:=h.same _ a o!;grind
 |vptr f q c p K l=>refine .vptr f (λo=>q (h.own _ c o)) (DH c h.size) (λj k H=>?_) l;rw[h.keep _ c q];grind
 |nils=>exact .nils
 |vx r l=>exact .vx l
 |vs f s C u G K l=>refine .vs f s C u (λA=>?_) l;obtain⟨B,F,e,q,c,p⟩:=G A;refine⟨B,F,e,(λo=>q (h.own _ c o)),DH c h.size,λj e i k H N=>?_⟩;rw[h.keep _ c q];grind
 |sl a w d p=>refine .sl (DH a h.n) (Cl w (h.gen _ a)) d λe=>?_;have d:=h.gen _ a;have m:=h.same _ a o!;grind
 |fn d m _ _ D_ E_=>exact .fn d m D_ E_
 |yf a d p=>refine .yf (DH a h.n) d λe=>?_;have d:=h.gen _ a;have m:=h.same _ a o!;grind
 |mp a d p=>refine .mp (DH a h.n) d λe=>?_;have d:=h.gen _ a;have m:=h.same _ a o!;grind
 |itp a z d p=>refine .itp (DH a h.n) (DH z h.n) d λe=>?_;have d:=h.gen _ a;have m:=h.same _ a o!;obtain⟨B,c,I,O⟩:=p o!;refine⟨B,m.1.trans c,I,λe=>?_⟩;have L:=h.gen _ z;have M:=h.same _ z o!;grind
 |nilf=>exact .nilf
 |agg h d _ l=>exact .agg h d l
 |tup h _ l=>exact .tup h l
 |any g=>exact .any g
abbrev Env:=Ψ (S×Ad)
structure nJ where
 n:S
 env:Env
 params:Array Tmp
 assign:Code
 body:Code
 state:LoopState
 pending:Option Code
inductive Fw where
 |dead
 |live (g:S) (cells:List Ad)
 |lp (L:nJ)
 |mp (k:IntKind) (es:List (Int×Ad))
 |it (n:S) (seen:List S)
 deriving Inhabited
def Fw.isB:Fw->Bool
 |.mp _ _=>E
 |.it _ _=>E
 |_=>η
abbrev Aw:=Ψ Fw
structure Gh where
 io:S->Option S
 gen:S->S
 cap:S->S
def owned(h:Gh)(H:Aw)(B:S):Prop:=∃id e,H[id]?=Z e/\e≠Fw.dead/\h.io id=Z B
def cx(X:S->Prop)(h:Gh)(H:Aw)(w:World):Cx:=⟨w,W H,h.io,h.gen,h.cap,λB=>X B\/owned h H B⟩
def AB0(x:Cx)(id g:S)(cs:List Ad):Prop:=
 x.gen id=g/\((x.io id=ε/\cs=[])\/∃(B:S)(arr:Array Value)(T:TypeId)(fz:S×S)(f:S->Value),x.io id=δ B/\x.w.heap[B]?=δ (.cells arr T fz)/\arr.size=x.cap id/\
  θ cs<=arr.size/\(∀i,i<arr.size->(τ (fz.1<=i)&&τ (i<fz.2))=η)/\
  ∀(j:S)(v:Ad),cs[j]?=δ v->arr[j]?=δ (f j)/\(f j).oneCell'=ζ/\Bv x v (f j))
def xY(x:Cx)(id:S)(L:nJ):Prop:=
 x.gen id=0/\∃(B:S)(r:Loop),x.io id=δ B/\x.w.heap[B]?=δ (.loop r)/\r.state=L.state/\r.pending=L.pending/\r.params=L.params/\r.assign=L.assign/\r.body=L.body/\r.tmps.size=L.n/\
  ∀t v,(t,v)∈L.env->t<L.n/\Bv x v (r.tmps.getD t undef)
def BAt(h:Gh)(w:World)(id:S):Fw->Prop
 |.mp k es=>∃(B:S)(arr:Array MapEntry),h.io id=δ B∧h.gen id=0∧w.heap[B]?=δ (.map arr arr.size)∧arr.size=θ es∧
   ∀(j:S)(p:Int×Ad),es[j]?=δ p->∃e:MapEntry,arr[j]?=δ e/\e.born=j/\e.key=.int k p.1/\∀x,Bv x p.2 e.val
 |.it n seen=>∃B,h.io id=δ B/\h.gen id=0/\w.heap[B]?=δ (.mapIter (δ (h.cap id)) n seen.toArray n)
 |_=>True
structure JT(X:S->Prop)(h:Gh)(H:Aw)(w:World):Prop where
 out:∀B,X B->B<w.heap.size/\¬owned h H B
 live:∀(id g:S)(cs:List Ad),H[id]?=some (Fw.live g cs)->AB0 (cx X h H w) id g cs
 lp:∀(id:S)(L:nJ),H[id]?=some (Fw.lp L)->xY (cx X h H w) id L
 inj:∀(id id':S)(e e':Fw)(B:S),H[id]?=some e->H[id']?=some e'->e≠.dead->e'≠.dead->h.io id=some B->h.io id'=some B->id=id'
 bld:∀(id:S)(e:Fw),H[id]?=some e->e.isB=true->BAt h w id e
variable {H:Aw}{m:Env}{h:Gh}{A:Fw}{C:Exit->Env->Aw->Prop}{J:Ad→Aw→Prop}{O:Ad->Aw->Prop}
def JT.bldKeep{i:Gh}{p:Aw}{t:World}(s:JT j h H d)
  (key: ∀(id:S) (e:Fw),p[id]? =some e->e.isB=true->H[id]? =some e/\i.io id=h.io id/\i.gen id=h.gen id/\i.cap id=h.cap id/\ ∀B (o:Obj),h.io id=some B->d.heap[B]? =some o->(∀z,o≠ .deferred z)->t.heap[B]? =d.heap[B]?):
  ∀(id:S) (e:Fw),p[id]? =some e->e.isB=true->BAt i t id e:=by
 intro id e v q;obtain⟨m,g,a,f,r⟩:=key id e v q;have b:=s.bld id e m q;cases e with
 |mp k x=>obtain⟨B,w,c,l,X,u⟩:=b;exact⟨B,w,g.trans c,a.trans l,(r B _ c X (λz=>q!)).trans X,u⟩
 |it n seen=>obtain⟨B,c,l,X⟩:=b;exact⟨B,g.trans c,a.trans l,by rw[f];exact(r B _ c X (λz=>q!)).trans X⟩
 |_=>trivial
def PD(x:Cx)(env:Env)(a:Act):Prop:=∀t v,(t,v)∈env->t<a.tmps.size/\Bv x v (a.tmps.getD t undef)
structure St(X:S->Prop)(h:Gh)(N:S)(env:Env)(H:Aw)(a:Act)(w:World):Prop where
 sim:JT X h H w
 env:PD (cx X h H w) env a
 size:a.tmps.size=N
structure G1(h:Gh)(H:Aw)(w:World)(h':Gh)(H':Aw)(w':World):Prop where
 os:w'.os=w.os
 tape:w'.tape=w.tape
 output:w'.output=w.output
 size:w.heap.size<=w'.heap.size
 keep:∀B,B<w.heap.size->¬owned h H B->w'.heap[B]?=w.heap[B]?
 n:H.length<=H'.length
 gen:∀id,id<H.length->h.gen id<=h'.gen id
 same:∀id,id<H.length->h'.gen id=h.gen id->h'.io id=h.io id/\h'.cap id=h.cap id
 fresh:∀B,owned h' H' B->owned h H B\/w.heap.size<=B
 loops:∀(B:S)(r:Loop),w.heap[B]?=some (.loop r)->∃r':Loop,w'.heap[B]?=some (.loop r')
def G1.refl(h:Gh)(H:Aw)(w:World):G1 h H w h H w:=⟨rfl,rfl,rfl,Al _,λ_ _ _=>rfl,Al _,λ_ _=>Al _,λ_ _ _=>⟨rfl,rfl⟩,λ_ h=>.inl h,λ_ r h=>⟨r,h⟩⟩
theorem G1.trans{c j k}{f g i}{l m o}(a:G1 c f l j g m)(b:G1 j g m k i o):G1 c f l k i o where
 os:=b.os.trans a.os
 tape:=b.tape.trans a.tape
 output:=b.output.trans a.output
 size:=Cl a.size b.size
 keep B hB hn:=(b.keep B (DH hB a.size) λd=>by rcases a.fresh B d with h|h;grind;omega).trans (a.keep B hB hn)
 n:=Cl a.n b.n
 gen id hid:=Cl (a.gen id hid) (b.gen id (DH hid a.n))
 same id hid e:=by have q:=a.gen id hid;have s:=b.gen id (DH hid a.n);have u:=a.same id hid o!;have v:=b.same id (DH hid a.n) o!;grind
 fresh B d:=by rcases b.fresh B d with h|h;exact a.fresh B h;exact .inr (Cl a.size h)
 loops B r h:=by obtain⟨p,c⟩:=a.loops B r h;exact b.loops B p c
def G1.later{h c}{H b}{w d}(e:G1 h H w c b d)(X:S->Prop):(cx X h H w).Later (cx X c b d)where
 size:=e.size
 keep B hB hO off:=nN (e.keep B hB λa=>hO (.inr a)) off
 own B hB a:=by rcases a with a|a;exact .inl a;rcases e.fresh B a with h|h;exact .inr h;simp only[cx]at hB;omega
 n:=e.n
 gen:=e.gen
 same:=e.same
def PD.later{x y:Cx}(l:x.Later y)(h:PD x m r):PD y m r:=λt v a=>⟨(h t v a).1,(h t v a).2.later l⟩
def Ek(P:Program)(F:FuncId)(args:Ψ Ad)(H:Aw)(Q:Ad->Aw->Prop):Prop:=
 ∀X h w(cargs:Array Value),JT X h H w->cargs.size=W args->
  (∀(j:S)(v:Ad)(c:Value),args[j]?=Z v->cargs[j]?=Z c->Bv (cx X h H w) v c)->
  Calls P F cargs w λe w'=>∃c v h' H',e=.returned c/\Q v H'/\JT X h' H' w'/\Bv (cx X h' H' w') v c/\G1 h H w h' H' w'
def FR(r:Ω S):Fence:={Fence.wide with round:=r}
def WV(a:Act)(w:World)(a':Act)(w':World):Prop:=
 ∃ds,a'.defers=ds++a.defers/\ds.Nodup/\∀d∈ds,∃D,d={target:=.collected D,args:= #[]}/\w.heap.size<=D/\w'.heap[D]?=Z (.deferred (Z []))
def aK(r:Ω S)(w:World):Prop:=∀l,r=Z l->∃x:Loop,w.heap[l]?=Z (.loop x)
def WV.same{b:Act}{w c}(h:b.defers=r.defers):WV r w b c:=⟨[],by simp[h],.nil,λ_ h=>by cases h⟩
def JT.deferred(s:JT X h H d)(j:d.heap[N]?=Z (.deferred B)):¬owned h H N:=by
 rintro⟨id,e,l,o,b⟩;cases e with
 |dead=>exact o rfl
 |live g p=>rcases(s.live id g p l).2 with⟨hn,_⟩|⟨D_,m,T,t,f,a,i,_⟩;rw[show(cx X h H d).io id=h.io id from rfl,b]at hn;cases hn;rw[show(cx X h H d).io id=h.io id from rfl,b]at a;injection a with e;subst e;rw[show(cx X h H d).w.heap=d.heap from rfl,j]at i;cases i
 |lp L=>obtain⟨_,D_,r,a,i,_⟩:=s.lp id L l;rw[show(cx X h H d).io id=h.io id from rfl,b]at a;injection a with e;subst e;rw[show(cx X h H d).w.heap=d.heap from rfl,j]at i;cases i
 |mp k q=>obtain⟨D_,m,c,_,w,_⟩:=s.bld id _ l rfl;rw[b]at c;injection c with e;subst e;rw[j]at w;cases w
 |it n seen=>obtain⟨D_,c,_,w⟩:=s.bld id _ l rfl;rw[b]at c;injection c with e;subst e;rw[j]at w;cases w
theorem tO{o:Obj}(h:d.heap[N]?=Z o):N<d.heap.size:=k!
def G1.defs{w}{c}{b}(x:G1 h H d w c b)(s:JT X h H d)(a:d.heap[N]?=Z (.deferred B)):b.heap[N]?=Z (.deferred B):=(x.keep N (tO a) (s.deferred a)).trans a
theorem WV.trans{X:S->Prop}{h j b}{H f n}{a a1 a2}{w e m}(o:WV a w a1 e)(s:JT X j f e)(z:G1 h H w j f e)(x:G1 j f e b n m)(p:WV a1 e a2 m):WV a w a2 m:=by obtain⟨g,B,t,v⟩:=o;obtain⟨i,C,u,y⟩:=p;refine⟨i++g,k!,RD.2 ⟨u,t,λd r A q E_=>?_⟩,λd c=>?_⟩;grind;rcases Ak.1 c with c|c;obtain⟨D_,k,b,l⟩:=y d c;exact⟨D_,k,Cl z.size b,l⟩;obtain⟨D_,k,b,l⟩:=v d c;exact⟨D_,k,b,x.defs s l⟩
def aK.later{h c}{H b}{w a}(k:aK t w)(x:G1 h H w c b a):aK t a:=λl e=>by obtain⟨y,d⟩:=k l e;exact x.loops l y d
def J9(P:Program)(N:S)(c:Code)(env:Env)(H:Aw)(Q:Exit->Env->Aw->Prop):Prop:=
 ∀r X h a w,St X h N env H a w->aK r w->
  c.wpIn (FR r) 0 P (λe a' w'=>∃h' env' H',Q e env' H'/\St X h' N env' H' a' w'/\G1 h H w h' H' w'/\WV a w a' w') a w
def Ek.mono{P}{F}{H}{d:Ad->Aw->Prop}(h:Ek P F f H O)(i:∀v b,O v b->d v b):Ek P F f H d:=λX g w a s j hr=>(h X g w a s j hr).mono λ_ _ ⟨c,v,Q,b,e,q,r⟩=>⟨c,v,Q,b,e,i _ _ q,r⟩
def J9.mono{P}{N}{H}{f:Exit->Env->Aw->Prop}(h:J9 P N c m H C)(j:∀e b d,C e b d->f e b d):J9 P N c m H f:=λr X g a w s k=>wpIn_mono (h r X g a w s k) λ_ _ _ ⟨i,b,d,q,r⟩=>⟨i,b,d,j _ _ _ q,r⟩
def fZ(K:Env->Aw->Prop)(Q:Exit->Env->Aw->Prop):Exit->Env->Aw->Prop
 |.normal,env,H=>K env H
 |e,env,H=>Q e env H
def qV(id:S)(Q:Exit->Env->Aw->Prop):Exit->Env->Aw->Prop
 |.exit id',env,H=>if id'=id then Q .normal env H else Q (.exit id') env H
 |e,env,H=>Q e env H
section rules
variable {P:Program}{N:Nat}{env:Env}{H:Aw}{Q:Exit->Env->Aw->Prop}
def J9.skip(h:Q .normal env H):J9 P N .skip env H Q:=λ_ _ _ _ _ s _=>wpIn_skip ⟨_,_,_,h,s,G1.refl _ _ _,.same rfl⟩
def J9.ret(h:Q .ret env H):J9 P N .ret env H Q:=λ_ _ _ _ _ s _=>wpIn_ret ⟨_,_,_,h,s,G1.refl _ _ _,.same rfl⟩
def J9.exit(h:Q (.exit n) env H):J9 P N (.exit n) env H Q:=λ_ _ _ _ _ s _=>wpIn_exit ⟨_,_,_,h,s,G1.refl _ _ _,.same rfl⟩
def J9.seq{x y}(h:J9 P N x env H (fZ (λb d=>J9 P N y b d Q) Q)):J9 P N (.seq x y) env H Q:=by
 intro r X g a w s k;refine wpIn_seq (wpIn_mono (h r X g a w s k) ?_);rintro e n u ⟨j,b,d,q,f,c,i⟩;cases e with
 |normal=>apply wpIn_mono (q r X j n u f (k.later c));rintro e a2 v ⟨p,env2,m,q2,t,l,o⟩;exact⟨p,env2,m,q2,t,c.trans l,i.trans f.sim c l o⟩
 |_=>exact⟨j,b,d,q,f,c,i⟩
theorem J9.block{id}(h:J9 P N c env H (qV id Q)):J9 P N (.block id c) env H Q:=by intro r X g a w s k;refine wpIn_block (wpIn_mono (h r X g a w s k) ?_);rintro e f j ⟨i,b,d,q,r⟩;cases e<;>grind[qV,Exit.inBlock]
def Fa(N n0:S)(env:Env)(H:Aw)(env2:Env)(H2:Aw):Prop:=
 n0<=W H2/\∀X h a w,St X h N env H a w->
  ∃h2,St X h2 N env2 H2 a w/\(∀id,id<n0->h2.gen id=h.gen id/\h2.io id=h.io id/\h2.cap id=h.cap id)/\∀B,owned h2 H2 B->owned h H B
def Fa.ext{g:Aw}{j i:Gh}{f:Aw}{w:World}(hn:W f=N)(o:N≤W g)
  (k:∀id,id<N->i.gen id=h.gen id/\i.io id=h.io id/\i.cap id=h.cap id) (m:∀B,owned i g B->owned h H B) (x:G1 j f d h H w):G1 j f d i g w where
 os:=x.os
 tape:=x.tape
 output:=x.output
 size:=x.size
 keep:=x.keep
 n:=o!
 gen id hid:=by rw[(k id o!).1];exact x.gen id hid
 same id hid e:=by obtain⟨a,b,c⟩:=k id o!;rw[a]at e;rw[b,c];exact x.same id hid e
 fresh B hB:=x.fresh B (m B hB)
 loops:=x.loops
theorem Fa.refl(N:S)(env:Env)(H:Aw):Fa N (W H) env H env H:=⟨Al _,λ_ h _ _ s=>⟨h,s,λ_ _=>⟨rfl,rfl,rfl⟩,λ_ h=>h⟩⟩
def J9.weak{d}(f:Fa N (W H) env H m d)(h:J9 P N c m d Q):J9 P N c env H Q:=by intro r X g a w s k;obtain⟨y,t,n,o⟩:=f.2 X g a w s;apply wpIn_mono (h r X y a w t k);rintro e v x ⟨l,b,i,q,p,u,j⟩;exact⟨l,b,i,q,p,(Fa.ext rfl f.1 n o (G1.refl g H w)).trans u,j⟩
end rules
def Env.get:Env->S->Ad
 |[],_=>.any
 |(k,v)::r,t=>if k=t then v else Env.get r t
def Env.put(env:Env)(t:S)(v:Ad):Env:=(t,v)::env.filter λp=>decide (p.1≠t)
def Env.putO(env:Env):Ω S->Ad->Env
 |some t,v=>env.put t v
 |none,_=>env
theorem OU{env}{t}:Env.get env t=.any\/(t,Env.get env t)∈env:=by induction env<;>grind[Env.get]
def sH:Value->Ad
 |.bool b=>.bool b
 |.int k n=>.int k n
 |.string s=>.str s.data.toList
 |.pointer D=>.nilp
 |.slice D 0 0=>.nils
 |.nilFunc=>.nilf
 |_=>.any
def ADH:Value->Ad
 |.agg cs=>if cs.toList.all (·.oneCell')then .agg (cs.toList.map sH)else .any
 |v=>sH v
theorem qf(x:Cx)(v:Value):Bv x (sH v) v:=by unfold sH;split;exact .bool _;exact .int _ _;exact .str _ rfl;exact .nilp;exact .nils;exact .nilf;exact .any _
theorem zS(x:Cx)(v:Value):Bv x (ADH v) v:=by unfold ADH;split;rename_i b;split;rename_i h;refine .agg q! (λj c a=>?_) λj v c a d=>?_;grind;grind[qf];exact .any _;exact qf x _
def BR(env:Env):Operand->Ad
 |.tmp t=>env.get t
 |.const v=>ADH v
 |.global _=>.any
 |.func f=>.fn (.func f) [] []
def DN(h:PD q m r)(o:Operand):Bv q (BR m o) (r.eval o):=by
 cases o with
 |tmp t=>rcases OU (env:=m) (t:=t)with e|x;simp only[BR,e];exact .any _;exact(h _ _ x).2
 |const v=>exact zS q v
 |global g=>exact .any _
 |func f=>exact .fn rfl rfl (λ_ _ _ h=>by simp at h) (λ_ _ _ h=>by simp at h)
theorem PD.put(h:PD q m r){d:S}{v}(i:d<r.tmps.size)(j:Bv q v g):PD q (m.put d v) (r.put (Z d) g):=by
 intro t u a;simp only[Act.put];rcases Av.1 a with e|a;simp_all;rw[BQ]at a;obtain⟨a,b⟩:=a;have b:t≠d:=k!
 obtain⟨f,x⟩:=h t u a;have:(r.tmps.setIfInBounds d g).getD t undef=r.tmps.getD t undef:=by rw[RI,RI,wK (b ·.symm)]
 grind
def PD.putO(h:PD q m r){v}(b:∀x,t=Z x->x<r.tmps.size)(e:Bv q v g):PD q (m.putO t v) (r.put t g):=by
 cases t with
 |none=>exact h
 |some t=>exact h.put (b t rfl) e
def fT(a:Act)(d:Ω S)(c:Value):(a.put d c).tmps.size=a.tmps.size:=by cases d<;>simp[Act.put]
def JS(P:Program)(N:S)(o:Oper)(env:Env)(H:Aw)(K:Ad->Aw->Prop):Prop:=
 ∀r X h a w,St X h N env H a w->∀Q:Exit->Act->World->Prop,
  Oper.wpIn (FR r) 0 P o a w (λa' w'=>∃c v h' H',a'=a.put o.dst c/\K v H'/\Bv (cx X h' H' w') v c/\JT X h' H' w'/\G1 h H w h' H' w') Q
def JS.mono{P}{N}{H}{d:Ad->Aw->Prop}(h:JS P N o m H O)(i:∀v b,O v b->d v b):JS P N o m H d:=λr X g a w s Q=>Oper.wpIn_mono (λ_ _ ⟨c,v,f,b,e,k,r⟩=>⟨c,v,f,b,e,i _ _ k,r⟩) (h r X g a w s Q)
def Op.plain:Op->Bool
 |.defer _=>η
 |_=>E
def C1(n:Op.plain o.op=E)(h:∀X h a w,St X h N m H a w→ ∀Q:Exit→Act→World→Prop,
  Oper.wp P o a w (λp b=>∃c v i e,p=a.put o.dst c/\J v e/\Bv (cx X i e b) v c/\JT X i e b/\G1 h H w i e b) Q):JS P N o m H J:=by
 intro r X g a w s Q;have d:=h X g a w s Q;refine⟨λ_ _=>P!,?_⟩;rw[Oper.semAt_eq _ _ _ (λc j=>by rw[j]at n;cases n)];unfold Oper.wp at d;generalize (execOp a.eval o).run P w=res at d;have j:∀{f}{args}{b}{R},Calls P f args b R->CallsIn (FR r) (0-1) P f args b R:=by
  intro f args b R t;have K:CallsIn Fence.wide (0-1) P f args b R:=callsIn_wide.2 t;cases r with
  |none=>exact K
  |some l=>exact K
 cases res with
 |ok v b=>
  cases v with
  |enter f args=>exact⟨(λh=>by cases h),j d⟩
  |row row args=>refine⟨(λh=>by cases h),λc q _=>?_⟩;obtain⟨v,k,u,y⟩:=d c q;exact⟨v,k,u,stepsIn_wide.2 y⟩
  |round l f tmps assign body=>exact d.elim
  |_=>exact d
 |halt x b=>cases x<;>exact d
def XT(ops:Array Oper)(env:Env)(j:S):Ad:=
 match (ops[j]?).bind (·.dst)with
 |some d=>env.get d
 |none=>.any
def Yl(ops:Array Oper)(g:Ω (S×Bool))(env:Env)(A B:Prop):Prop:=
 match g with
 |none=>A
 |some (j,want)=>
  match XT ops env j with
  |.bool b=>(b=want->A)/\(b=(!want)->B)
  |.tup []=>B
  |_=>False
def PZ(n:S)(ops:Ψ Oper):Bool:=ops.all λo=>match o.dst with|some d=>decide (d<n)|none=>E
theorem zh(f:PD q m r){A B:Prop}(h:Yl I o.guard m A B):
  (Region.wanted o (yielded I r.tmps)=E/\A)\/(Region.wanted o (yielded I r.tmps)=η/\B):=by
 unfold Yl at h;unfold Region.wanted;cases u:o.guard with
 |none=>grind
 |some p=>
  obtain⟨j,want⟩:=p;rw[u]at h;simp only at h⊢;cases g:XT I m j with
  |bool b=>
   rw[g]at h;simp only at h;have a:yielded I r.tmps j=Z b:=by
    unfold XT at g;unfold yielded;cases l:(I[j]?).bind (·.dst)with
    |none=>grind
    |some d=>
     rw[l]at g;simp only at g;simp only[AD];rcases OU (env:=m) (t:=d)with e|x;grind;rw[g]at x;obtain⟨n,hr⟩:=f _ _ x;have:r.tmps[d]?=Z (.bool b):=by
      have i:r.tmps.getD d undef=.bool b:=by generalize r.tmps.getD d undef=c at hr;cases hr;rfl
      rw[RI]at i;grind[Array.getElem?_eq_getElem]
     rw[this]
   rw[a];by_cases s:b=want;grind;refine .inr ⟨by simp[s],h.2 ?_⟩;cases b<;>cases want<;>simp_all
  |tup v=>
   cases v with
   |cons _ _=>grind
   |nil=>
    rw[g]at h;simp only at h;refine .inr ⟨?_,h⟩;have a:yielded I r.tmps j=D:=by
     unfold XT at g;unfold yielded;cases l:(I[j]?).bind (·.dst)with
     |none=>rfl
     |some d=>
      rw[l]at g;simp only at g;simp only[AD];rcases OU (env:=m) (t:=d)with e|x;grind;rw[g]at x;obtain⟨n,hr⟩:=f _ _ x;have i:∃k,r.tmps.getD d undef=.tuple k:=by generalize r.tmps.getD d undef=c at hr;cases hr;exact⟨_,rfl⟩
      obtain⟨k,i⟩:=i;have:r.tmps[d]?=Z (.tuple k):=t!
      rw[this]
    rw[a];rfl
  |_=>grind
section
variable {P:Program}{N:Nat}{env:Env}{H:Aw}{Q:Exit->Env->Aw->Prop}
def J9.cond{y}{b:Bool}(d:BR env p=.bool b)(h:b=E->J9 P N c env H Q)(f:b=η->J9 P N y env H Q):J9 P N (.cond p c y) env H Q:=by
 intro r X g a w s k;have hr:=DN s.env p;rw[d]at hr;have e:a.eval p=.bool b:=by generalize a.eval p=v at hr;cases hr;rfl
 apply wpIn_cond e;cases b;exact f rfl r X g a w s k;exact h rfl r X g a w s k
end
mutual
def Ad.idsAll(p:S->Bool):Ad->Bool
 |.ptr id _ _=>p id
 |.sl id _ _ _ _=>p id
 |.yf id=>p id
 |.mp id=>p id
 |.itp id m=>p id&&p m
 |.vptr cs=>Ad.idsAllL p cs
 |.vs _ rows=>Ad.idsAllL p rows
 |.vx _ rows=>Ad.idsAllL p rows
 |.fn _ a b=>Ad.idsAllL p a&&Ad.idsAllL p b
 |.agg cs=>Ad.idsAllL p cs
 |.tup cs=>Ad.idsAllL p cs
 |.bool _|.int _ _|.str _|.nilp|.nils|.nilf|.any=>E
def Ad.idsAllL(p:S->Bool):Ψ Ad->Bool
 |[]=>E
 |v::r=>Ad.idsAll p v&&Ad.idsAllL p r
end
mutual
def Ad.ren(ρ:S->S):Ad->Ad
 |.ptr id g off=>.ptr (ρ id) g off
 |.sl id g sz off len=>.sl (ρ id) g sz off len
 |.yf id=>.yf (ρ id)
 |.mp id=>.mp (ρ id)
 |.itp id m=>.itp (ρ id) (ρ m)
 |.vptr cs=>.vptr (Ad.renL ρ cs)
 |.vs sz rows=>.vs sz (Ad.renL ρ rows)
 |.vx sz rows=>.vx sz (Ad.renL ρ rows)
 |.fn f a b=>.fn f (Ad.renL ρ a) (Ad.renL ρ b)
 |.agg cs=>.agg (Ad.renL ρ cs)
 |.tup cs=>.tup (Ad.renL ρ cs)
 |.bool b=>.bool b
 |.int k n=>.int k n
 |.str s=>.str s
 |.nilp=>.nilp
 |.nils=>.nils
 |.nilf=>.nilf
 |.any=>.any
def Ad.renL(ρ:S->S):Ψ Ad->Ψ Ad
 |[]=>[]
 |v::r=>Ad.ren ρ v::Ad.renL ρ r
end
theorem NS(a:S->S)(l:Ψ Ad):Ad.renL a l=l.map (Ad.ren a):=by induction l<;>grind[Ad.renL]
theorem Dv(p:S->Bool)(l:Ψ Ad):Ad.idsAllL p l=E↔∀v∈l,v.idsAll p=E:=by induction l<;>grind[Ad.idsAllL]
theorem NP{p:S->Bool}(h:Ad.idsAllL p f=E)(a:f[N]?=Z k):k.idsAll p=E:=by grind[Dv]
theorem xM(a:S->S)(v:Ad):(v.ren a).cells=v.cells.map (Ad.ren a):=by cases v<;>simp[Ad.ren,Ad.cells,NS]
def Vk{p:S->Bool}(h:k.idsAll p=E):∀u∈k.cells,u.idsAll p=E:=by
 cases k<;>simp only[Ad.cells,A5]<;>first
  |(intro u a;subst a;exact h)
  |(simp only[Ad.idsAll]at h;exact(Dv _ _).1 h)
theorem Bv.ren{x y:Cx}{p:Nat→Bool}{ρ:Nat→Nat}(G:∀id,p id=E→id<x.n→ρ id<y.n∧y.gen (ρ id)=x.gen id∧y.io (ρ id)=x.io id∧y.cap (ρ id)=x.cap id)
  (Z_:y.w=x.w) (hO:∀B,y.O B->x.O B) {v:Ad}  (r:Bv x v g):v.idsAll p=E->Bv y (v.ren ρ) g:=by
 induction r with
 |bool b=>exact λ_=>.bool b
 |int k n=>exact λ_=>.int k n
 |str t M=>exact λ_=>.str t M
 |nilp=>exact λ_=>.nilp
 | @ptr id c I g C U F A=>intro s;obtain⟨a,b,d,e⟩:=G id s C;refine .ptr a (by rw[b];exact U) F λE_=>?_;rw[b]at E_;rw[d];exact A E_
 | @vptr cs B I f L T A Y K=>intro s;simp only[Ad.idsAll]at s;simp only[Ad.ren,NS];refine .vptr f (λo=>L (hO B o)) (by rw[Z_];exact T) (λj v l=>?_) λj v l=>?_;grind;grind[Option.some.injEq,NP]
 |nils=>exact λ_=>.nils
 | @vx sz q a r K=>
  intro s;have h:=K s;have D_:(Ad.renL ρ q).length=θ q:=by rw[NS,BT]
  have S:Bv y (.vs sz (Ad.renL ρ q)) (.slice a (Ad.renL ρ q).length (Ad.renL ρ q).length):=by rw[D_];exact h
  have h3:=Bv.vx S;rw[D_]at h3;exact h3
 | @vs sz q a cap f P X ao ha Y K=>
  intro s;simp only[Ad.idsAll]at s;simp only[Ad.ren,NS];have J:∀{j:Nat}{e:Ad},(q.map (Ad.ren ρ))[j]?=Z e->∃u,q[j]?=Z u/\e=u.ren ρ:=by grind[Option.some.injEq]
  have H:∀{u:Ad}{i:Nat}{v:Ad},(u.ren ρ).cells[i]?=Z v->∃t,u.cells[i]?=Z t/\v=t.ren ρ:=by grind[xM,Option.some.injEq]
  have D_:(q.map (Ad.ren ρ)).length=θ q:=q!
  rw[<-D_];refine .vs f (by rw[D_];exact P) X (λj e l=>?_) (λW=>?_) λj e i v l V=>?_;grind[xM,List.length_map];obtain⟨B,I,e,L,T,A⟩:=ha (by simpa using W);refine⟨B,I,e,λo=>L (hO B o),by rw[Z_];exact T,λj e i v l V=>?_⟩;obtain⟨u,z,rfl⟩:=J l;obtain⟨t,M,rfl⟩:=H V;rw[Z_];exact A j u i t z M;obtain⟨u,z,rfl⟩:=J l;obtain⟨t,M,rfl⟩:=H V;exact K j u i t z M (Vk (NP s z) _ (BO M))
 | @sl id c sz I len g C U F A=>intro s;obtain⟨a,b,d,e⟩:=G id s C;refine .sl a (by rw[b];exact U) F λE_=>?_;rw[b]at E_;rw[d,e];exact A E_
 | @fn f first N Q R F S ar ax ad al=>
  intro s;simp only[Ad.idsAll,Ba]at s;simp only[Ad.ren,NS];refine .fn (by simpa using F) (by simpa using S) (λj v g l A=>?_) λj v g l A=>?_;rw[CU]at l;cases z:first[j]? with
  |none=>rw[z]at l;cases l
  |some u=>rw[z]at l;simp only[Bt,Ar]at l;subst l;exact ad j u g z A (NP s.1 z)
  rw[CU]at l;cases z:N[j]? with
  |none=>rw[z]at l;cases l
  |some u=>rw[z]at l;simp only[Bt,Ar]at l;subst l;exact al j u g z A (NP s.2 z)
 | @yf id g C F A=>intro s;obtain⟨a,b,d,e⟩:=G id s C;refine .yf a F λE_=>?_;rw[b]at E_;rw[d];exact A E_
 | @mp id g C F A=>intro s;obtain⟨a,b,d,e⟩:=G id s C;refine .mp a F λE_=>?_;rw[b]at E_;rw[d];exact A E_
 | @itp id m g C hm F A=>intro s;simp only[Ad.idsAll,Ba]at s;obtain⟨a,b,d,e⟩:=G id s.1 C;obtain⟨a2,b2,d2,e2⟩:=G m s.2 hm;refine .itp a a2 F λE_=>?_;rw[b]at E_;rw[d,b2,d2,e];exact A E_
 |nilf=>exact λ_=>.nilf
 | @agg cs ap h F Y K=>
  intro s;simp only[Ad.idsAll]at s;simp only[Ad.ren,NS];refine .agg (by simpa using h) F λj v g l A=>?_;rw[CU]at l;cases z:cs[j]? with
  |none=>rw[z]at l;cases l
  |some u=>rw[z]at l;simp only[Bt,Ar]at l;subst l;exact K j u g z A (NP s z)
 | @tup vs a0 h Y K=>
  intro s;simp only[Ad.idsAll]at s;simp only[Ad.ren,NS];refine .tup (by simpa using h) λj v g l A=>?_;rw[CU]at l;cases z:vs[j]? with
  |none=>rw[z]at l;cases l
  |some u=>rw[z]at l;simp only[Bt,Ar]at l;subst l;exact K j u g z A (NP s z)
 |any g=>exact λ_=>.any g
mutual
theorem ABh{p:S->Bool}{d:S->S}(c:∀id,p id=E->d id=id):∀v:Ad,v.idsAll p=E->v.ren d=v
 |.ptr id g off,h=>by simp only[Ad.ren,c id h]
 |.sl id g sz off len,h=>by simp only[Ad.ren,c id h]
 |.yf id,h=>by simp only[Ad.ren,c id h]
 |.mp id,h=>by simp only[Ad.ren,c id h]
 |.itp id m,h=>by simp only[Ad.idsAll,Ba]at h;simp only[Ad.ren,c id h.1,c m h.2]
 |.vptr cs,h=>by simp only[Ad.ren,W9 c cs h]
 |.vs sz rows,h=>by simp only[Ad.ren,W9 c rows h]
 |.vx sz rows,h=>by simp only[Ad.ren,W9 c rows h]
 |.fn f a b,h=>by simp only[Ad.idsAll,Ba]at h;simp only[Ad.ren,W9 c a h.1,W9 c b h.2]
 |.agg cs,h=>by simp only[Ad.ren,W9 c cs h]
 |.tup cs,h=>by simp only[Ad.ren,W9 c cs h]
 |.bool _,_=>rfl
 |.int _ _,_=>rfl
 |.str _,_=>rfl
 |.nilp,_=>rfl
 |.nils,_=>rfl
 |.nilf,_=>rfl
 |.any,_=>rfl
theorem W9{p:S->Bool}{b:S->S}(a:∀id,p id=E->b id=id):∀l:Ψ Ad,Ad.idsAllL p l=E->Ad.renL b l=l
 |[],_=>rfl
 |v::r,h=>by simp only[Ad.idsAllL,Ba]at h;simp only[Ad.renL,ABh a v h.1,W9 a r h.2]
end
def tI(P:Program)(t:TypeId):Ω (Bool×S):=
 match P.info? t,P.underlying t with
 |some i,Z d=>Z ((match d with|.struct _|.array _ _=>E|_=>η),i.size)
 |_,_=>D
def Yh(h:tI P b=Z (M,n))(w:World):(isAgg b).run P w=.ok M w:=by unfold tI at h;split at h;rename_i i d c a;unfold isAgg;simp only[Sem.run_bind,run_underlying a,Result.andThen_ok];split<;>simp_all;cases h
def Ln{P}(h:tI P b=Z (M,n))(w:World):(sizeOf b).run P w=.ok n w:=by unfold tI at h;split at h;rename_i i d a c;simp at h;simp[sizeOf,typeInfo,a,h.2];cases h
def Qg(H:Aw):Ad->S->Ω (Ψ Ad)
 |.ptr id g off,n=>
  match H[id]? with
  |some (.live g' cs)=>if g=g'/\off+n<=W cs then Z ((cs.drop off).take n)else D
  |_=>D
 |.vptr cs,n=>if n<=W cs then Z (cs.take n)else D
 |_,_=>D
def nZ(x:Cx)(vs:Ψ Ad)(cs:Ψ Value):Prop:=W cs=W vs/\∀(j:S)(v:Ad)(c:Value),vs[j]?=Z v->cs[j]?=Z c->Bv x v c
theorem PK(B a j:S):(⟨B,a,D⟩:Addr).add j=⟨B,a+j,D⟩:=by grind[Addr.add]
theorem QM{w:World}{c:S×S}(h:w.heap[N]?=Z (.cells u b c))(B:S):w.cell? ⟨N,B,D⟩=u[B]? :=by grind[World.cell?]
theorem vR(s:JT j h H d)(r:Bv (cx j h H d) k g)(hr:Qg H k n=Z f):
  ∃(B a:Nat)(X:Ψ Value),g=.pointer (Z ⟨B,a,D⟩)/\θ X=n/\(∀v u,X[v]?=Z u->d.cell? ((⟨B,a,D⟩:Addr).add v)=Z u/\u.oneCell'=E)/\nZ (cx j h H d) f X:=by
 cases r with
 | @ptr id w a g O Z_ V x=>
  simp only[Qg]at hr;split at hr;rename_i U X L;split at hr;rename_i m;obtain⟨rfl,F⟩:=m;simp only[Ar]at hr;subst hr;obtain⟨t,q⟩:=s.live id w X L;obtain⟨B,o,rfl⟩:=x t;rcases q with⟨hn,_⟩|⟨D_,I,T,S,G,l,K,E_,A,M,i⟩;rw[hn]at o;cases o;have:D_=B:=by rw[show(cx j h H d).io id=Z B from o]at l;injection l with e;exact e.symm
  subst this;refine⟨D_,a,(List.range n).map (λv=>G (a+v)),rfl,q!,?_,?_,?_⟩;intro v u p;have b:v<n:=by grind[Nat.lt_or_ge,u?]
  have Q:u=G (a+v):=by grind[List.getElem?_range]
  subst Q;have y:X[a+v]?=Z (X[a+v]' o!):=Au o!;obtain⟨J,P,_⟩:=i _ _ y;rw[PK,QM (w:=d) K];exact⟨J,P⟩;grind[List.length_map,List.length_range,r?,List.length_drop];grind[Nat.lt_or_ge,u?,List.getElem?_range,Option.some.injEq];cases hr;cases hr
 | @vptr X B a G Y W x R=>
  simp only[Qg]at hr;split at hr;rename_i A;simp only[Ar]at hr;subst hr;refine⟨B,a,(List.range n).map G,rfl,q!,?_,?_,?_⟩;intro v u p;have b:v<n:=by grind[Nat.lt_or_ge,u?]
  rw[CU,Rq b]at p;simp only[Bt,Ar]at p;subst p;rw[PK];exact x v _ (Au o!);grind[List.length_map,List.length_range,r?];intro v u c p z;have b:v<n:=by rcases A0 v n with C|N;exact C;simp_all[Ct]
  rw[dA,C! b]at p;rw[CU,Rq b]at z;simp only[Bt,Ar]at z;subst z;exact R v u p;cases hr
 |_=>simp only[Qg]at hr;cases hr
def jV(P:Program)(t:TypeId)(H:Aw)(v:Ad):Ω Ad:=
 match tI P t with
 |some (E,n)=>(Qg H v n).map Ad.agg
 |some (η,_)=>(Qg H v 1).bind List.head?
 |none=>D
theorem zr(s:JT j h H d)(r:Bv (cx j h H d) k g)(e:jV P b H k=Z U):
  ∃B v l,g=.pointer (Z ⟨B,v,D⟩)/\(loadVar b ⟨B,v,D⟩).run P d=.ok l d/\Bv (cx j h H d) U l:=by
 unfold jV at e;split at e;rename_i n X;cases hr:Qg H k n with
 |none=>grind
 |some o=>rw[hr]at e;simp at e;subst e;obtain⟨B,v,f,rfl,u,t,a⟩:=vR s r hr;refine⟨B,v,.agg f.toArray,rfl,?_,?_⟩;unfold loadVar;simp only[Sem.run_bind,Yh X,Result.andThen_ok,if_true,Ln X];subst u;rw[run_loadCells_list d ⟨B,v,D⟩ f λw k i=>(t w k i).1];rfl;refine .agg (by simpa using a.1) (λw g i=>?_) λw k g i p=>?_;grind;exact a.2 w k g i k!
 rename_i n X;cases hr:Qg H k 1 with
 |none=>grind
 |some o=>
  rw[hr]at e;simp at e;obtain⟨B,v,f,rfl,u,t,a⟩:=vR s r hr;match f,u with
  |[c0],_=>
   match o,a.1 with
   |[u0],_=>simp at e;subst e;refine⟨B,v,c0,rfl,?_,a.2 0 _ _ rfl rfl⟩;unfold loadVar;have m:=(t 0 c0 rfl).1;simp only[Addr.add,if_true]at m;simp[Yh X,m]
 cases e
def oS(P:Program)(env:Env)(H:Aw):ResultVar->Ω Ad
 |.tmp t=>Z (env.get t)
 |.cell a t=>jV P t H (env.get a)
def Tk(P:Program)(env:Env)(H:Aw):Ψ ResultVar->Ω (Ψ Ad)
 |[]=>Z []
 |r::rs=>
  match oS P env H r,Tk P env H rs with
  |some v,Z vs=>Z (v::vs)
  |_,_=>D
def jW(P:Program)(fn:Func)(env:Env)(H:Aw):Ω Ad:=
 match Tk P env H fn.results.toList with
 |some [v]=>Z v
 |some vs=>Z (.tup vs)
 |none=>D
def lF(h:PD q m r)(t:S):Bv q (m.get t) (r.tmps.getD t undef):=DN h (.tmp t)
def vT(tmps:Array Value):ResultVar->Sem Value
 |.tmp t=>pure (tmps.getD t undef)
 |.cell a t=>do loadVar t (<-asAddr (tmps.getD a undef))
def ABj(b:Func)(tmps:Array Value):results b tmps=(do
  let a<-b.results.mapM (vT tmps);pure (if h:a.size=1 then a[0]else .tuple a)):=rfl
theorem sg{P}{N}{X:S→Prop}{h}{env}{H}{a}{w}(s:St X h N env H a w):∀g(i:Ψ Ad),Tk P env H g=Z i→
  ∃f,Sem.run P (g.mapM (vT a.tmps)) w=.ok f w/\nZ (cx X h H w) i f
 |[],i,hv=>by simp only[Tk,Ar]at hv;subst hv;exact⟨[],rfl,rfl,λ_ _ _ h=>by cases h⟩
 |r::g,i,hv=>by
  simp only[Tk]at hv;split at hv;rename_i v l k n;simp at hv;subst hv;obtain⟨f,o,b⟩:=sg s g l n;have e:∃c,Sem.run P (vT a.tmps r) w=.ok c w/\Bv (cx X h H w) v c:=by
   cases r with
   |tmp t=>simp only[oS,Ar]at k;subst k;exact⟨_,rfl,lF s.env t⟩
   |cell x t=>obtain⟨B,y,m,p,q,hr⟩:=zr s.sim (lF s.env x) k;refine⟨m,?_,hr⟩;simp only[vT,p];simp[asAddr,q]
  obtain⟨c,z,hr⟩:=e;refine⟨c::f,?_,by simpa using b.1,?_⟩;simp_all;intro j u d C A;cases j with
  |zero=>grind
  |succ j=>exact b.2 j u d k! k!
  cases hv
theorem ADk{g}(s:St j h N m H r d)(v:jW P g m H=Z k):
  ∃c,(results g r.tmps).run P d=.ok c d/\Bv (cx j h H d) k c:=by
 unfold jW at v;cases e:Tk P m H g.results.toList with
 |none=>grind
 |some l=>
  rw[e]at v;obtain⟨f,p,b⟩:=sg s _ l e;have n:Sem.run P (g.results.mapM (vT r.tmps)) d=.ok f.toArray d:=by grind[Array.mapM_eq_mapM_toList,Sem.run_map,Result.andThen_ok]
  rw[ABj];simp only[Sem.run_bind,n];simp only[Result.andThen_ok,Sem.run_pure,Result.ok.injEq,and_true,exists_eq_left'];match l,b with
  |[],b=>simp at v;subst v;have:f=[]:=D8 (by simpa using b.1);subst this;exact .tup rfl λw k c i _=>by cases i
  |[v0],b=>
   simp at v;subst v;match f,b.1 with
   |[c0],_=>exact b.2 0 _ _ rfl rfl
  |v0::v1::a,b=>
   simp at v;subst v;have X:f.toArray.size≠1:=by rw[Yp,b.1];simp
   rw[dif_neg X];exact .tup (by simpa using b.1) λw k c i o=>b.2 w k c i k!
def PE(n0:S)(v:Ad)(H:Aw)(v2:Ad)(H2:Aw):Prop:=
 n0<=W H2/\∀X h w c,JT X h H w->Bv (cx X h H w) v c->
  ∃h2,JT X h2 H2 w/\Bv (cx X h2 H2 w) v2 c/\(∀id,id<n0->h2.gen id=h.gen id/\h2.io id=h.io id/\h2.cap id=h.cap id)/\∀B,owned h2 H2 B->owned h H B
def PE.refl(v:Ad)(H:Aw)(hn:N<=W H):PE N v H v H:=⟨hn,λ_ h _ _ s r=>⟨h,s,r,λ_ _=>⟨rfl,rfl,rfl⟩,λ_ h=>h⟩⟩
def AKg(P:Program)(fn:Func)(n0:S)(Q:Ad->Aw->Prop):Exit->Env->Aw->Prop
 |.normal,env,H|.ret,env,H=>∃v v2 H2,jW P fn env H=Z v/\PE n0 v H v2 H2/\Q v2 H2
 |_,_,_=>False
def env0:S->Ψ Ad->Env
 |_,[]=>[]
 |i,v::r=>(i,v)::env0 (i+1) r
theorem zY{t:S}{v:Ad}:∀{i}{l},(t,v)∈env0 i l->i<=t/\l[t-i]?=Z v
 |i,u::r,h=>by simp only[env0,Av]at h;rcases h with⟨rfl,rfl⟩|h;simp;obtain⟨a,b⟩:=zY h;grind
theorem nD{y:Ω (Ψ Deferred)}(b:d.heap[N]?=Z (.deferred B))(w a:S):(d.putObj N (.deferred y)).cell? ⟨w,a,D⟩=d.cell? ⟨w,a,D⟩:=by grind[World.cell?,World.putObj_heap_same,World.putObj_heap_other]
def JT.shut(s:JT j h H d){x y:Ω (Ψ Deferred)}(J:d.heap[N]?=Z (.deferred x)):
  (cx j h H d).Later (cx j h H (d.putObj N (.deferred y)))/\JT j h H (d.putObj N (.deferred y)):=by
 have C:(cx j h H d).Later (cx j h H (d.putObj N (.deferred y))):=⟨by simp[cx],λB _ _ G=>nD J B G,λ_ _ h=>h,Al _,λ_ _=>Al _,λ_ _ _=>⟨rfl,rfl⟩⟩
 have D_:∀{B:Nat}{o:Obj},d.heap[B]?=Z o->(∀z,o≠.deferred z)->(d.putObj N (.deferred y)).heap[B]?=Z o:=by intro B o a F;by_cases i:B=N;subst i;rw[J]at a;injection a with e;exact(F x e.symm).elim;rw[World.putObj_heap_other i,a]
 refine⟨C,λB a=>⟨by simpa using(s.out B a).1,(s.out B a).2⟩,λid g K l=>?_,λid L l=>?_,s.inj,s.bldKeep λid e l _=>⟨l,rfl,rfl,rfl,λB o _ a F=>(D_ a F).trans a.symm⟩⟩;obtain⟨A,n⟩:=s.live id g K l;refine⟨A,?_⟩;rcases n with⟨hn,rfl⟩|⟨B,p,T,M,f,c,q,k,E_,u,b⟩;exact .inl ⟨hn,rfl⟩;refine .inr ⟨B,p,T,M,f,c,D_ q (λz=>q!),k,E_,u,λX v U=>?_⟩;obtain⟨V,W,Y⟩:=b X v U;exact⟨V,W,Y.later C⟩;obtain⟨A,B,r,c,q,w,O,P,Q,R,S,I⟩:=s.lp id L l;exact⟨A,B,r,c,D_ q (λz=>q!),w,O,P,Q,R,S,λt v m=>⟨(I t v m).1,(I t v m).2.later C⟩⟩
theorem G1.shut{a}{c}{b}(x:G1 h H d a c b){y z:Ω (Ψ Deferred)}(w:d.heap.size<=N)(e:b.heap[N]?=Z (.deferred z)):G1 h H d a c (b.putObj N (.deferred y))where
 os:=x.os
 tape:=x.tape
 output:=x.output
 size:=by simpa using x.size
 keep B hB hn:=by rw[World.putObj_heap_other o!];exact x.keep B hB hn
 n:=x.n
 gen:=x.gen
 same:=x.same
 fresh:=x.fresh
 loops B r hB:=by obtain⟨f,a⟩:=x.loops B r hB;grind[World.putObj_heap_other]
def pe{P}{A}{N}{X:S→Prop}{g h}{H b p:Aw}{z:World}{v t:Ad}{f}{a}{Q:Ad→Aw→Prop}(o:jW P A f b=Z v)(j:PE (W H) v b t p)(B:Q t p):
  ∀(i:Ψ Deferred)(w:World),i.Nodup->(∀d∈i,∃D_,d={target:=.collected D_,args:= #[]}/\z.heap.size<=D_/\w.heap[D_]?=Z (.deferred (Z [])))->
   St X h N f b a w->G1 g H z h b w->
   LeavesInM Fence.wide 0 P A a.tmps (λe u=>∃c v h b,e=.returned c/\Q v b/\JT X h b u/\Bv (cx X h b u) v c/\G1 g H z h b u) i .returning w
 |[],w,_,_,s,x=>by obtain⟨c,m,l⟩:=ADk s o;obtain⟨J,n,r,I,K⟩:=j.2 X h w c s.sim l;exact⟨c,m,c,t,J,p,rfl,B,n,r,Fa.ext rfl j.1 I K x⟩
 |d::i,w,hnd,hds,s,x=>by obtain⟨D_,rfl,G,q⟩:=hds d q!;simp only[G4]at hnd;refine⟨q!,.inl ⟨D_,_,rfl,run_takeDeferred q,?_⟩⟩;have C:=s.sim.shut (y:=D) q;refine pe o j B i _ hnd.2 (λF k=>?_) ⟨C.2,s.env.later C.1,s.size⟩ (x.shut G q);obtain⟨E_,rfl,o,j⟩:=hds F (CZ _ k);refine⟨E_,rfl,o,?_⟩;rw[World.putObj_heap_other,j];rintro rfl;exact hnd.1 k
theorem Kl{b:Func}(E_:P.funcs[z]?=Z b)(C:b.body=Z c)(hn:W f≤b.ntmps)
  (I:J9 P b.ntmps c (env0 0 f) H (AKg P b (W H) J)):Ek P z f H J:=by
 intro X g w a s M hr;have D_:PD (cx X g H w) (env0 0 f) {tmps:=a++Array.replicate (b.ntmps-a.size) undef,defers:=[]}:=by
  intro t v m;obtain⟨_,N⟩:=zY m;have G:t<W f:=k!
  have L:a[t]?=Z (a[t]' o!):=OR o!;have:(a++Array.replicate (b.ntmps-a.size) undef).getD t undef=a[t]' o!:=by simp_all[Yv]
  grind
 refine(callsIn_wide (n:=0)).1 (callsIn_of_wp_marks E_ C trivial (wpIn_mono (I D X g {tmps:=a++Array.replicate (b.ntmps-a.size) undef,defers:=[]} w ⟨s,D_,w!⟩ (λl e=>by cases e)) ?_));rintro e F i ⟨u,j,d,q,Q,K,A,B,y,x⟩;have k:∀v h O,jW P b j d=Z v->PE (W H) v d h O->J h O->LeavesInM Fence.wide 0 P b F.tmps (λe i=>∃c v u d,e=.returned c/\J v d/\JT X u d i/\Bv (cx X u d i) v c/\G1 g H w u d i) F.defers .returning i:=by intro v h O o p r;rw[B,Dc];exact pe o p r A i y x Q K
 cases e with
 |normal=>obtain⟨v,h,O,o,p,r⟩:=q;exact k v h O o p r
 |ret=>obtain⟨v,h,O,o,p,r⟩:=q;exact k v h O o p r
 |_=>exact q.elim
def Enters(P:Program)(F:FuncId):Bool:=
 match P.funcs[F]? with
 |some fn=>fn.body.isSome&& !(fn.name== "runtime.NumGoroutine")
 |none=>false
def jI(h:Enters P z=E)(args:Array Value)(w:World):(callFunc z args).run P w=.ok (.enter z args) w:=by unfold Enters at h;split at h;rename_i a c;unfold callFunc;cases b:a.body<;>simp_all;cases h
def Fw.ren(ρ:S->S):Fw->Fw
 |.dead=>.dead
 |.live g cs=>.live g (Ad.renL ρ cs)
 |.lp L=>.lp {L with env:=L.env.map λp=>(p.1,p.2.ren ρ)}
 |.mp k es=>.mp k es
 |.it n s=>.it n s
def Fw.idsAll(p:S->Bool):Fw->Bool
 |.dead=>E
 |.live _ cs=>Ad.idsAllL p cs
 |.lp L=>L.env.all λq=>q.2.idsAll p
 |.mp _ _=>E
 |.it _ _=>E
def aI(H:Aw)(bs:Ψ S):Aw:=bs.map λb=>(H.getD b .dead).ren (bs.idxOf ·)
def Tw(H:Aw)(bs:Ψ S)(j:S):S:=if j<W bs then bs.getD j 0 else W H+(j-W bs)
def cY(ρ:S->S):Aw->Ψ S->Aw->Aw
 |H,b::bs,e::es=>cY ρ (H.set b (e.ren ρ)) bs es
 |H,_,_=>H
def Vm(H:Aw)(bs:Ψ S)(Hc:Aw):Aw:=cY (Tw H bs) H bs Hc++(Hc.drop (W bs)).map (Fw.ren (Tw H bs))
def Ta(c:S->S):∀bs H a,(cY c H bs a).length=W H
 |[],H,a=>by cases a<;>rfl
 |b::bs,H,[]=>rfl
 |b::bs,H,e::es=>by simp only[cY];rw[Ta c bs];simp
def jJ(c:S->S){id:S}:∀(bs:Ψ S)H a,id∉bs->(cY c H bs a)[id]?=H[id]?
 |[],H,a,_=>by cases a<;>rfl
 |b::bs,H,[],_=>rfl
 |b::bs,H,e::es,h=>by simp only[Av,not_or]at h;simp only[cY];rw[jJ c bs _ _ h.2,Dd (h.1 ·.symm)]
def xP(a:S->S):∀(bs:Ψ S)(H c:Aw)(j b:S),bs.Nodup->bs[j]?=Z b->b<W H->W bs<=W c->(cY a H bs c)[b]?=(c[j]?).map (Fw.ren a)
 |[],_,_,_,_,_,hj,_,_=>by simp at hj
 |b0::bs,H,[],_,_,_,_,_,hl=>by simp at hl
 |b0::bs,H,e::es,j,b,hnd,hj,hb,hl=>by
  simp only[G4]at hnd;simp only[cY];cases j with
  |zero=>simp at hj;subst hj;rw[jJ a bs _ _ hnd.1];simp[hb]
  |succ j=>simp at hj;rw[xP a bs _ es j b hnd.2 hj (by simpa using hb) (by simpa using hl)];simp
def pY(h:N∈s):s.idxOf N<W s:=List.idxOf_lt_length_of_mem h
theorem iw(h:N∈s):s[s.idxOf N]?=Z N:=k!
theorem rA(a:s.Nodup)(h:s[N]?=Z n):s.idxOf n=N:=k!
section
variable {X:Nat->Prop}{h:Gh}{H:Aw}{w:World}{bs:Ψ Nat}
mutual
theorem sP:∀v:Ad,v.idsAll (λ_=>E)=E
 |.itp _ _=>rfl
 |.ptr _ _ _=>rfl
 |.sl _ _ _ _ _=>rfl
 |.yf _=>rfl
 |.mp _=>rfl
 |.vptr d=>NR d
 |.vs _ c=>NR c
 |.vx _ c=>NR c
 |.fn _ a b=>by simp only[Ad.idsAll,NR a,NR b,YY]
 |.agg d=>NR d
 |.tup d=>NR d
 |.bool _|.int _ _|.str _|.nilp|.nils|.nilf|.any=>rfl
theorem NR:∀l:Ψ Ad,Ad.idsAllL (λ_=>E) l=E
 |[]=>rfl
 |v::r=>by simp only[Ad.idsAllL,sP v,NR r,YY]
end
def Xs(X:S->Prop)(h:Gh)(H:Aw)(bs:Ψ S)(B:S):Prop:=X B\/∃id e,id∉bs/\H[id]?=Z e/\e≠Fw.dead/\h.io id=Z B
def Xd(h:Gh)(bs:Ψ S):Gh:=⟨λj=>(bs[j]?).bind h.io,λj=>((bs[j]?).map h.gen).getD 0,λj=>((bs[j]?).map h.cap).getD 0⟩
def AAN{a:S->S}:A.ren a=.dead↔A=.dead:=by cases A<;>simp[Fw.ren]
theorem mm(d:(aI H bs)[N]?=Z A)(c:A≠.dead):∃b a,bs[N]?=Z b/\H[b]?=Z a/\a≠.dead/\A=a.ren (bs.idxOf ·):=by grind[aI,Fw.ren]
theorem AF3(e:(aI H bs)[N]?=Z (Fw.live n f)):∃b a,bs[N]?=Z b/\H[b]?=Z (Fw.live n a)/\f=Ad.renL (bs.idxOf ·) a:=by obtain⟨b,d,h,j,_,i⟩:=mm e q!;cases d<;>grind[Fw.ren]
theorem fS(d:owned (Xd h bs) (aI H bs) N):∃b e,b∈bs/\H[b]?=Z e/\e≠Fw.dead/\h.io b=Z N:=by obtain⟨j,e,f,c,a⟩:=d;grind[mm,Xd]
theorem yl(x:S)(c:τ (x∈bs)=E)(_:x<(cx X h H w).n):
  bs.idxOf x<(cx (Xs X h H bs) (Xd h bs) (aI H bs) w).n/\(cx (Xs X h H bs) (Xd h bs) (aI H bs) w).gen (bs.idxOf x)=(cx X h H w).gen x/\(cx (Xs X h H bs) (Xd h bs) (aI H bs) w).io (bs.idxOf x)=(cx X h H w).io x/\(cx (Xs X h H bs) (Xd h bs) (aI H bs) w).cap (bs.idxOf x)=(cx X h H w).cap x:=by
 have a:x∈bs:=k!
 have b:=iw a;refine⟨by simpa[cx,aI]using pY a,?_,?_,?_⟩<;>simp[cx,Xd,b]
def AF4(B:S)(a:(cx (Xs X h H bs) (Xd h bs) (aI H bs) w).O B):(cx X h H w).O B:=by rcases a with(a|⟨id,e,_,d,c,f⟩)|a;exact .inl a;exact .inr ⟨id,e,d,c,f⟩;obtain⟨b,e,_,d,c,f⟩:=fS a;exact .inr ⟨b,e,d,c,f⟩
theorem P4{w:World}{o:Obj}(h:w.heap[N]?=Z o):N<w.heap.size:=k!
theorem JT.io_at(s:JT X h H w)(c:H[N]?=Z A)(p:A≠.dead)(b:h.io N=Z n):n<w.heap.size:=by
 cases A with
 |dead=>grind
 |live g l=>obtain⟨_,hn|⟨d,i,T,t,f,a,j,_⟩⟩:=s.live N g l c;rw[show(cx X h H w).io N=h.io N from rfl,b]at hn;grind;rw[show(cx X h H w).io N=h.io N from rfl,b]at a;injection a with A;subst A;exact P4 j
 |lp L=>obtain⟨_,d,r,a,j,_⟩:=s.lp N L c;rw[show(cx X h H w).io N=h.io N from rfl,b]at a;injection a with A;subst A;exact P4 j
 |mp k q=>obtain⟨d,i,m,_,o,_⟩:=s.bld N _ c rfl;grind[P4]
 |it e seen=>obtain⟨d,m,_,o⟩:=s.bld N _ c rfl;grind[P4]
def eK{a:S->S}:(A.ren a).isB=A.isB:=by cases A<;>rfl
def BAt.ren{h h':Gh}{w w':World}{id id':S}{ρ:S->S}(b:BAt h w id A)(g:h'.io id'=h.io id)(a:h'.gen id'=h.gen id)(f:h'.cap id'=h.cap id)(l: ∀B (o:Obj),h.io id=some B->w.heap[B]? =some o->w'.heap[B]? =w.heap[B]?):BAt h' w' id' (A.ren ρ):=by
 cases A with
 |mp k p=>obtain⟨B,i,c,j,d,m⟩:=b;exact⟨B,i,g.trans c,a.trans j,(l B _ c d).trans d,m⟩
 |it n seen=>obtain⟨B,c,j,d⟩:=b;exact⟨B,g.trans c,a.trans j,by rw[f];exact(l B _ c d).trans d⟩
 |_=>trivial
theorem JT.sub(s:JT X h H w)(K:bs.Nodup)(hb:∀b∈bs,((H.getD b .dead).idsAll λid=>decide (id∈bs))=E):JT (Xs X h H bs) (Xd h bs) (aI H bs) w where
 out B n:=by have M:¬(∃b e,b∈bs/\H[b]?=Z e/\e≠Fw.dead/\h.io b=Z B)->¬owned (Xd h bs) (aI H bs) B:=λhn ho=>hn (fS ho);rcases n with n|⟨id,e,Z_,d,o,k⟩;exact⟨(s.out B n).1,M λ⟨b,e,_,d,o,k⟩=>(s.out B n).2 ⟨b,e,d,o,k⟩⟩;exact⟨s.io_at d o k,M λ⟨b,e',hm,x,Q,C⟩=>Z_ (s.inj id b e e' B d x o Q k C▸hm)⟩
 live j g cs hj:=by
  obtain⟨b,A,a,D_,rfl⟩:=AF3 hj;obtain⟨Y,J⟩:=s.live b g A D_;refine⟨by simpa[cx,Xd,a]using Y,?_⟩;rcases J with⟨hn,rfl⟩|⟨B,N,T,fz,f,y,c,G,ad,W,l⟩;exact .inl ⟨by simpa[cx,Xd,a]using hn,rfl⟩;refine .inr ⟨B,N,T,fz,f,by simpa[cx,Xd,a]using y,c,by simpa[cx,Xd,a]using G,by rw[NS,BT];exact ad,W,?_⟩;intro i v z;rw[NS,CU]at z;cases hu:A[i]? with
  |none=>rw[hu]at z;cases z
  |some u=>rw[hu]at z;simp only[Bt,Ar]at z;subst z;obtain⟨d,k,x⟩:=l i u hu;refine⟨d,k,Bv.ren (p:=λid=>decide (id∈bs)) (yl ·) rfl AF4 x ?_⟩;have:=hb b (BO a);grind[NP,Fw.idsAll]
 lp j L hj:=by
  obtain⟨b,P,a,D_,o,I⟩:=mm hj q!;cases P with
  |dead=>exact(o rfl).elim
  |live g cs=>simp[Fw.ren]at I
  |mp=>simp[Fw.ren]at I
  |it=>simp[Fw.ren]at I
  |lp L0=>simp only[Fw.ren,Fw.lp.injEq]at I;subst I;obtain⟨Y,B,r,y,c,d,k,x,C,h5,h6,h7⟩:=s.lp b L0 D_;refine⟨by simpa[cx,Xd,a]using Y,B,r,by simpa[cx,Xd,a]using y,c,d,k,x,C,h5,h6,λt v m=>?_⟩;obtain⟨q,hq,e⟩:=Bs.1 m;simp only[Eh]at e;obtain⟨rfl,rfl⟩:=e;refine⟨(h7 q.1 q.2 hq).1,Bv.ren (p:=λid=>decide (id∈bs)) (yl ·) rfl AF4 (h7 q.1 q.2 hq).2 ?_⟩;have:=hb b (BO a);grind[Fw.idsAll,List.all_eq_true]
 inj i i' e e' B d k hn1 hn2 x C:=by obtain⟨b,c0,E_,R,U,_⟩:=mm d hn1;obtain⟨b',O,F,S,V,_⟩:=mm k hn2;have e:=s.inj b b' c0 O B R S U V (by simpa[Xd,E_]using x) (by simpa[Xd,F]using C);subst e;rw[<-rA K E_,<-rA K F]
 bld j e hj n:=by obtain⟨b,P,a,D_,o,rfl⟩:=mm hj (by rintro rfl;cases n);rw[eK]at n;exact(s.bld b P D_ n).ren (by simp[Xd,a]) (by simp[Xd,a]) (by simp[Xd,a]) (λ_ _ _ _=>rfl)
def N6(h:Gh)(H:Aw)(bs:Ψ S)(hc:Gh):Gh:=
 let pick {α:Type} (f fc:S->α) (id:S):α:=if id∈bs then fc (bs.idxOf id)else if id<W H then f id else fc (W bs+(id-W H))
 ⟨pick h.io hc.io,pick h.gen hc.gen,pick h.cap hc.cap⟩
def nU{a}:(Vm H bs a).length=W H+(W a-W bs):=by simp[Vm,Ta]
def Zc{c:Aw}(h:bs.Nodup)(k:W bs≤W c)(a:(Vm H bs c)[N]?=Z A):
  (N∉bs/\N<W H/\H[N]?=Z A)\/∃j f,N=Tw H bs j/\c[j]?=Z f/\A=f.ren (Tw H bs):=by
 unfold Vm at a;rcases A0 N (W H) with b|b;rw[CY (by rw[Ta];exact b)]at a;by_cases g:N∈bs;have i:=iw g;rw[xP _ bs H c _ N h i b k]at a;cases d:c[bs.idxOf N]? with
 |none=>rw[d]at a;cases a
 |some f=>rw[d]at a;simp only[Bt,Ar]at a;refine .inr ⟨bs.idxOf N,f,?_,d,a.symm⟩;unfold Tw;rw[C! (pY g),Rp,i];rfl
 rw[jJ _ bs H c g]at a;exact .inl ⟨g,b,a⟩;rw[Cn (by rw[Ta];exact b),Ta,CU,KC]at a;cases d:c[W bs+(N-W H)]? with
 |none=>rw[d]at a;cases a
 |some f=>rw[d]at a;simp only[Bt,Ar]at a;refine .inr ⟨_,f,?_,d,a.symm⟩;unfold Tw;rw[D! o!];omega
theorem dE{hc}{d:Aw}(f:bs.Nodup)(a:∀b∈bs,b<W H)(j:S)(g:j<W d):
  Tw H bs j<(Vm H bs d).length/\(N6 h H bs hc).gen (Tw H bs j)=hc.gen j/\(N6 h H bs hc).io (Tw H bs j)=hc.io j/\(N6 h H bs hc).cap (Tw H bs j)=hc.cap j:=by
 rw[nU];unfold Tw;split;grind[N6];have c:W H+(j-W bs)∉bs:=λc=>by have:=a _ c;omega
 have e:W bs+(W H+(j-W bs)-W H)=j:=o!
 simp only[N6,c,if_false,show¬(W H+(j-W bs)<W H)from by omega,e,and_true];omega
theorem oQ{g}{f:Aw}(c:bs.Nodup)(k:∀b∈bs,b<W H)(r:W bs≤W f)(s:owned (N6 h H bs g) (Vm H bs f) N):
  (∃id e,id∉bs/\H[id]?=Z e/\e≠Fw.dead/\h.io id=Z N)\/owned g f N:=by
 obtain⟨id,e,o,l,a⟩:=s;rcases Zc c r o with⟨u,p,t⟩|⟨j,m,rfl,q,d⟩;grind[N6];have i:j<W f:=k!
 rw[(dE (h:=h) (hc:=g) c k j i).2.2.1]at a;exact .inr ⟨j,m,q,λn=>l (d.trans (AAN.2 n)),a⟩
theorem G1.back{m}{j}(l:bs.Nodup)(k:∀b∈bs,b<W H)(x:G1 (Xd h bs) (aI H bs) w m j d):G1 h H w (N6 h H bs m) (Vm H bs j) d:=by
 have r:W bs<=W j:=by have:=x.n;simpa[aI]using this
 refine⟨x.os,x.tape,x.output,x.size,λB p hn=>x.keep B p λa=>?_,?_,?_,?_,?_,x.loops⟩;obtain⟨b,e,_,g,f,i⟩:=fS a;exact hn ⟨b,e,g,f,i⟩;rw[nU];omega;intro id c;by_cases o:id∈bs;have q:=iw o;have:=x.gen (bs.idxOf id) (by simpa[aI]using pY o);grind[N6,Xd];simp[N6,o,c];intro id c;by_cases o:id∈bs;have q:=iw o;have:=x.same (bs.idxOf id) (by simpa[aI]using pY o);grind[N6,Xd];simp[N6,o,c];intro B a;rcases oQ l k r a with⟨id,e,_,g,f,i⟩|a;exact .inl ⟨id,e,g,f,i⟩;rcases x.fresh B a with a|a;obtain⟨b,e,_,g,f,i⟩:=fS a;exact .inl ⟨b,e,g,f,i⟩;grind
def Bv.back{v:Gh}{e:Aw}(c:bs.Nodup)(f:∀b∈bs,b<W H)(l:W bs≤W e)
  (r:Bv (cx (Xs X h H bs) v e d) k g):Bv (cx X (N6 h H bs v) (Vm H bs e) d) (k.ren (Tw H bs)) g:=by
 refine Bv.ren (x:=cx (Xs X h H bs) v e d) (y:=cx X (N6 h H bs v) (Vm H bs e) d) (ρ:=Tw H bs) (p:=λ_=>E) (λj _ i=>dE (h:=h) (hc:=v) c f j i) rfl (λB a=>?_) r (sP k);rcases a with a|a;exact .inl (.inl a);rcases oQ c f l a with a|a;exact .inl (.inr a);exact .inr a
theorem JT.back{C:Gh}{N:Aw}(s:JT X h H w)(l:bs.Nodup)(z:∀b∈bs,b<θ H)(x:G1 (Xd h bs) (aI H bs) w C N d)
  (sc:JT (Xs X h H bs) C N d):JT X (N6 h H bs C) (Vm H bs N) d:=by
 have Y:θ bs<=θ N:=by have:=x.n;simpa[aI]using this
 have xb:=G1.back (h:=h) l z x;have M:∀{id:Nat}{e:Fw}{B:Nat}{o:Obj},id∉bs->H[id]?=Z e->e≠.dead->h.io id=Z B->w.heap[B]?=Z o->d.heap[B]?=Z o:=by intro id e B o y E_ ao c n;refine(x.keep B (P4 n) λho=>?_).trans n;obtain⟨b,e',ap,I,h0,S⟩:=fS ho;exact y (s.inj id b e e' B E_ I ao h0 c S▸ap)
 have lt:∀{j:Nat}{D_:Fw},N[j]?=Z D_->j<θ N:=by intro j D_ F;rcases A0 j (θ N) with A|A;exact A;grind[u?]
 refine⟨λB O=>⟨DH (s.out B O).1 x.size,λho=>?_⟩,λid g cs U=>?_,λid L U=>?_,λid ar e e' B G A ad al I S=>?_,λid e U O=>?_⟩;rcases oQ l z Y ho with⟨id,e,_,G,h0,A⟩|ho;exact(s.out B O).2 ⟨id,e,G,h0,A⟩;exact(sc.out B (.inl O)).2 ho;rcases Zc l Y U with⟨y,k,E_⟩|⟨j,D_,rfl,F,a⟩;obtain⟨W,K⟩:=s.live id g cs E_;refine⟨by simpa[cx,N6,y,k]using W,?_⟩;rcases K with⟨hn,rfl⟩|⟨B,Q,T,fz,f,c,n,J,Z_,V,p⟩;exact .inl ⟨by simpa[cx,N6,y,k]using hn,rfl⟩;refine .inr ⟨B,Q,T,fz,f,by simpa[cx,N6,y,k]using c,M y E_ q! c n,by simpa[cx,N6,y,k]using J,Z_,V,λi v P=>?_⟩;obtain⟨G,A,I⟩:=p i v P;exact⟨G,A,I.later (xb.later X)⟩;cases D_ with
 |dead=>simp[Fw.ren]at a
 |lp L=>simp[Fw.ren]at a
 |mp=>simp[Fw.ren]at a
 |it=>simp[Fw.ren]at a
 |live g0 R=>
  simp only[Fw.ren,Fw.live.injEq]at a;obtain⟨rfl,rfl⟩:=a;obtain⟨_,r1,r2,r3⟩:=dE (h:=h) (hc:=C) l z j (lt F);obtain⟨W,K⟩:=sc.live j g R F;refine⟨r1.trans W,?_⟩;rcases K with⟨hn,rfl⟩|⟨B,Q,T,fz,f,c,n,J,Z_,V,p⟩;exact .inl ⟨r2.trans hn,rfl⟩;refine .inr ⟨B,Q,T,fz,f,r2.trans c,n,J.trans r3.symm,by rw[NS,BT];exact Z_,V,λi v P=>?_⟩;rw[NS,CU]at P;cases hu:R[i]? with
  |none=>rw[hu]at P;cases P
  |some u=>rw[hu]at P;simp only[Bt,Ar]at P;subst P;obtain⟨G,A,I⟩:=p i u hu;exact⟨G,A,Bv.back l z Y I⟩
 rcases Zc l Y U with⟨y,k,E_⟩|⟨j,D_,rfl,F,a⟩;obtain⟨W,B,r,c,n,G,A,I,S,h5,h6,h7⟩:=s.lp id L E_;exact⟨by simpa[cx,N6,y,k]using W,B,r,by simpa[cx,N6,y,k]using c,M y E_ q! c n,G,A,I,S,h5,h6,λt v m=>⟨(h7 t v m).1,(h7 t v m).2.later (xb.later X)⟩⟩;cases D_ with
 |dead=>simp[Fw.ren]at a
 |live g0 R=>simp[Fw.ren]at a
 |mp=>simp[Fw.ren]at a
 |it=>simp[Fw.ren]at a
 |lp L0=>simp only[Fw.ren,Fw.lp.injEq]at a;subst a;obtain⟨_,r1,r2,r3⟩:=dE (h:=h) (hc:=C) l z j (lt F);obtain⟨W,B,r,c,n,G,A,I,S,h5,h6,h7⟩:=sc.lp j L0 F;refine⟨r1.trans W,B,r,r2.trans c,n,G,A,I,S,h5,h6,λt v m=>?_⟩;obtain⟨q,hq,e⟩:=Bs.1 m;simp only[Eh]at e;obtain⟨rfl,rfl⟩:=e;exact⟨(h7 q.1 q.2 hq).1,Bv.back l z Y (h7 q.1 q.2 hq).2⟩
 have key:∀{id:Nat}{e:Fw},(Vm H bs N)[id]?=Z e→e≠.dead→(N6 h H bs C).io id=Z B→
   (id∉bs/\H[id]?=Z e/\h.io id=Z B)\/∃j D_,id=Tw H bs j/\N[j]?=Z D_/\D_≠.dead/\C.io j=Z B:=by
  intro id e U ao c;rcases Zc l Y U with⟨y,k,E_⟩|⟨j,D_,rfl,F,a⟩;exact .inl ⟨y,E_,by simpa[N6,y,k]using c⟩;exact .inr ⟨j,D_,rfl,F,λh0=>ao (a.trans (AAN.2 h0)),by rw[<-(dE (h:=h) (hc:=C) l z j (lt F)).2.2.1];exact c⟩
 rcases key G ad I with⟨m1,a1,b1⟩|⟨j1,g1,e1,a1,d1,b1⟩<;>rcases key A al S with⟨m2,a2,b2⟩|⟨j2,g2,e2,a2,d2,b2⟩;exact s.inj _ _ _ _ B a1 a2 ad al b1 b2;exact((sc.out B (.inr ⟨_,_,m1,a1,ad,b1⟩)).2 ⟨j2,g2,a2,d2,b2⟩).elim;exact((sc.out B (.inr ⟨_,_,m2,a2,al,b2⟩)).2 ⟨j1,g1,a1,d1,b1⟩).elim;rw[e1,e2,sc.inj _ _ _ _ B a1 a2 d1 d2 b1 b2];rcases Zc l Y U with⟨y,k,E_⟩|⟨j,D_,rfl,F,rfl⟩;have b:=s.bld id e E_ O;have a:e.ren (λx=>x)=e:=by cases e<;>simp_all[Fw.ren,Fw.isB]
 have:=b.ren (h':=N6 h H bs C) (w':=d) (id':=id) (ρ:=λx=>x) (by simp[N6,y,k]) (by simp[N6,y,k]) (by simp[N6,y,k]) (λB o c hb=>(M y E_ (by rintro rfl;cases O) c hb).trans hb.symm);rwa [a]at this;rw[eK]at O;obtain⟨_,r1,r2,r3⟩:=dE (h:=h) (hc:=C) l z j (lt F);exact(sc.bld j D_ F O).ren r2 r1 r3 (λ_ _ _ _=>rfl)
end
def o7(env:Env)(c:Call)(first caps:Ψ Ad):Ψ Ad:=first++c.args.toList.map (BR env)++caps
def fI(P:Program)(s f:S):Ω (S×TypeId×S):=
 match P.underlying s with
 |some (.struct fs)=>
  match fs[f]? with
  |some fd=>
   match tI P fd.type with
   |some (_,n)=>Z (fd.offset,fd.type,n)
   |none=>D
  |none=>D
 |_=>D
def eI(P:Program)(t:TypeId):Ω (Ω S×TypeId×S):=
 match P.underlying t with
 |some (.array len e)=>(tI P e).map λi=>(Z len,e,i.2)
 |some (.slice e)=>(tI P e).map λi=>(D,e,i.2)
 |_=>D
inductive Kd where
 |bool|int (k:IntKind)|str|bytes|other
 deriving DecidableEq
def kd(P:Program)(t:TypeId):Kd:=
 match P.underlying t with
 |some .bool=>.bool
 |some (.int k)=>.int k
 |some .string=>.str
 |some (.slice e)=>match P.underlying e with|some (.int .u8)=>.bytes|_=>.other
 |_=>.other
def UB(H:Aw)(id g:S):Bool:=
 match H[id]? with
 |some (.live g' _)=>g'==g
 |_=>η
def JT.cur{w}(s:JT X h H w)(a:UB H N n=E):h.gen N=n:=by unfold UB at a;split at a;rename_i c b d;have:=(s.live N c b d).1;simp at a;exact this.trans a;cases a
def shift(H:Aw)(k:S):Ad->Ω Ad
 |.ptr id g off=>if UB H id g then Z (.ptr id g (off+k))else D
 |.vptr cs=>if k<=W cs then Z (.vptr (cs.drop k))else D
 |_=>D
theorem xR(s:JT j h H d)(r:Bv (cx j h H d) k g)(b:shift H N k=Z U):
  ∃B a,g=.pointer (Z ⟨B,a,D⟩)/\Bv (cx j h H d) U (.pointer (Z ((⟨B,a,D⟩:Addr).add N))):=by
 cases r with
 | @ptr id X a g e o t l=>simp only[shift]at b;split at b;rename_i v;simp at b;subst b;obtain⟨B,i,rfl⟩:=l (s.cur v);refine⟨B,a,rfl,.ptr e o rfl λ_=>⟨B,i,by rw[PK]⟩⟩;cases b
 | @vptr q B a f n m l x=>simp only[shift]at b;split at b;simp at b;subst b;refine⟨B,a,rfl,?_⟩;rw[PK];refine .vptr (λw=>f (N+w)) n m (λw k p=>?_) λw k p=>?_;grind;grind;cases b
 |_=>grind[shift]
def Wn(P:Program)(H:Aw)(s f:S)(v:Ad):Ω Ad:=
 match fI P s f with
 |some (off,_,n)=>if n=0 then D else shift H off v
 |none=>D
def vy(sim:JT j h H d)(r:Bv (cx j h H d) k g)(f:Wn P H N n k=Z U):
  ∃i,(Instr.fieldAt N g n).run P d=.ok i d/\Bv (cx j h H d) U i:=by
 unfold Wn at f;split at f;rename_i X t v a;split at f;cases f;rename_i hn;obtain⟨B,o,rfl,hr⟩:=xR sim r f;unfold fI at a;split at a;rename_i p w;split at a;rename_i l e;split at a;rename_i b m s;obtain⟨rfl,rfl,rfl⟩:=a;refine⟨_,?_,hr⟩;simp[Instr.fieldAt,run_underlying w,e,Instr.sureAddr,fieldPlace,Ln s,hn];cases a;cases a;cases a;cases f
def Ws(P:Program)(H:Aw)(t:TypeId)(v:Ad)(i:Ad):Ω Ad:=
 match eI P t,i with
 |some (Z len,_,sz),.int _ i=>if 0<=i/\i<len then shift H (i.toNat*sz) v else D
 |some (D,_,sz),.int _ i=>
  match v with
  |.vs sz' rows=>if 0<=i/\sz=sz' then(rows[i.toNat]?).map λe=>.vptr e.cells else D
  |.sl id g sz' off len=>if 0<=i/\i<len/\sz=sz'/\UB H id g=E then Z (.ptr id g (off+i.toNat*sz))else D
  |_=>D
 |_,_=>D
theorem wD(sim:JT j h H d){u:Ad}{Q:Value}(r:Bv (cx j h H d) k g)(T:Bv (cx j h H d) U Q)
  (l:Ws P H b k U=Z u):∃O,(Instr.indexAt b g Q).run P d=.ok O d/\Bv (cx j h H d) u O:=by
 unfold Ws at l;split at l;rename_i len e sz X n c;cases T;split at l;rename_i A;obtain⟨B,o,rfl,hr⟩:=xR sim r l;unfold eI at c;split at c;rename_i F y i;cases m:tI P y with
 |none=>rw[m]at c;cases c
 |some p=>rw[m]at c;simp only[Bt,Ar,Eh]at c;obtain⟨rfl,rfl,rfl⟩:=c;refine⟨_,?_,hr⟩;simp[Instr.indexAt,asIntOf,run_underlying i,Instr.sureAddr,A,Ln m]
 rename_i y i;cases m:tI P y<;>grind;cases c;cases l;rename_i e sz X n c;cases T;have i:∃U,P.underlying b=Z (.slice e)/\tI P e=Z U/\U.2=sz:=by
  unfold eI at c;split at c;rename_i F y i;cases m:tI P y with
  |none=>rw[m]at c;cases c
  |some p=>rw[m]at c;simp at c
  rename_i y i;cases m:tI P y with
  |none=>rw[m]at c;cases c
  |some p=>rw[m]at c;simp only[Bt,Ar,Eh]at c;obtain⟨_,rfl,rfl⟩:=c;exact⟨p,i,m,rfl⟩
  cases c
 obtain⟨p,i,m,rfl⟩:=i;cases r with
 | @vs N q a cap f C Y S W Z_=>
  simp only at l;split at l;rename_i A;obtain⟨G,rfl⟩:=A;cases x:q[n.toNat]? with
  |none=>rw[x]at l;cases l
  |some R=>
   rw[x]at l;simp only[Bt,Ar]at l;subst l;have s:n.toNat<θ q:=by rcases A0 n.toNat (θ q) with I|I;exact I;rw[Ct I]at x;cases x
   obtain⟨B,z,rfl,V,t,J⟩:=W (by intro e;rw[e]at s;simp at s);refine⟨.pointer (Z ⟨B,z+n.toNat*p.2,D⟩),?_,.vptr (f n.toNat ·) V t (λv k M=>?_) λv k M=>Z_ _ R _ k x M⟩;have E_:n<θ q:=o!
   simp[Instr.indexAt,asIntOf,run_underlying i,G,E_,Ln m,PK];have:=J _ R v k x M;rw[WZ];exact this
  cases l
 | @sl id w N z len g K x h1 J=>simp only at l;split at l;rename_i A;obtain⟨G,s,rfl,D_⟩:=A;simp only[Ar]at l;subst l;rcases J (sim.cur D_)with⟨_,hl,_,_⟩|⟨B,cap,L,C,_,rfl⟩;omega;refine⟨.pointer (Z ⟨B,z+n.toNat*p.2,D⟩),?_,.ptr K x rfl λ_=>⟨B,L,rfl⟩⟩;simp[Instr.indexAt,asIntOf,run_underlying i,G,s,Ln m,PK];cases l
 |_=>cases l
 cases l
def vN(P:Program)(t:TypeId)(cs:Ψ Ad)(off:S):Ω Ad:=
 match tI P t with
 |some (E,n)=>if off+n<=W cs then Z (.agg ((cs.drop off).take n))else D
 |some (η,_)=>cs[off]?
 |none=>D
theorem AAH{P:Program}{w:World}(l:u.size=W e)(o:∀(j:S)(c:Value),u[j]?=Z c→c.oneCell'=E)
  (m:∀(j:S)(v:Ad)(c:Value),e[j]?=Z v->u[j]?=Z c->Bv q v c) (d:vN P b e N=Z k):∃c,(part b u N).run P w=.ok c w/\Bv q k c:=by
 unfold vN at d;split at d;rename_i n f;split at d;rename_i i;simp at d;subst d;refine⟨.agg (u.extract N (N+n)),by simp[part,Yh f,Ln f],.agg w! (λj c h=>?_) λj v c h g=>?_⟩;grind[Array.getElem?_extract];grind;cases d;rename_i n f;have x:N<W e:=k!
 have g:u[N]?=Z (u[N]' o!):=OR o!;exact⟨_,by simp[part,Yh f,g],m N k _ d g⟩;cases d
def uZ(P:Program)(s f:S)(v:Ad):Ω Ad:=
 match fI P s f,v with
 |some (off,t,_),.agg cs=>vN P t cs off
 |_,_=>D
def ADL(r:Bv q k g)(f:uZ P N n k=Z U):∃b,(Instr.field N g n).run P d=.ok b d/\Bv q U b:=by
 unfold uZ at f;split at f;rename_i o t v i a;cases r with
 | @agg i j w x m=>obtain⟨b,l,hr⟩:=AAH (P:=P) (w:=d) w x m f;unfold fI at a;split at a;rename_i s h;split at a;rename_i p e;split at a;simp at a;obtain⟨rfl,rfl,rfl⟩:=a;exact⟨b,by simp[Instr.field,run_underlying h,e,asAgg,l],hr⟩;cases a;cases a;cases a
 cases f
def lY(P:Program)(t:TypeId)(v i:Ad):Ω Ad:=
 match v,i with
 |.agg cs,.int _ i=>
  match eI P t with
  |some (Z len,e,sz)=>if 0<=i/\i<len then vN P e cs (i.toNat*sz)else D
  |_=>D
 |.str s,.int _ i=>if kd P t=.str/\0<=i then(s[i.toNat]?).map λb=>.int .u8 b.toNat else D
 |_,_=>D
theorem uz{P}(h:kd P b=.str):P.underlying b=Z .string:=by unfold kd at h;grind
theorem AJE(h:kd P b=.int G):P.underlying b=Z (.int G):=by unfold kd at h;grind
theorem ADR{u:Ad}{t}(r:Bv q k g)(B:Bv q U t)(a:lY P b k U=Z u):∃f,(Instr.index b g t).run P d=.ok f d/\Bv q u f:=by
 unfold lY at a;split at a;rename_i C x n;cases B;split at a;rename_i len e sz v;split at a;rename_i w;cases r with
 | @agg C D_ m F J=>
  obtain⟨f,G,hr⟩:=AAH (P:=P) (w:=d) m F J a;unfold eI at v;split at v;rename_i A E_ o;cases z:tI P E_ with
  |none=>grind
  |some p=>rw[z]at v;simp only[Bt,Ar,Eh]at v;obtain⟨rfl,rfl,rfl⟩:=v;exact⟨f,by simp[Instr.index,asIntOf,run_underlying o,w,Ln z,G],hr⟩
  simp_all;cases v
 cases a;cases a;rename_i s x n;cases B;cases r with
 | @str s h I=>
  split at a;rename_i w;subst I;cases y:h.data.toList[n.toNat]? with
  |none=>grind
  |some i=>
   rw[y]at a;simp only[Bt,Ar]at a;subst a;have j:h[n.toNat]?=Z i:=by
    obtain⟨H,v⟩:=EX.1 y;have l:n.toNat<h.size:=by simpa using H
    rw[getElem?_pos h n.toNat l];exact E! Z v
   exact⟨.int .u8 i.toNat,by simp[Instr.index,asIntOf,run_underlying (uz w.1),w.2,j],.int _ _⟩
  cases a
 cases a
def ADv(P:Program)(g:TypeId->Option (List Kd)):List Field->S->Option (List Kd)
 |[],_=>some []
 |f::r,off=>
  if f.offset=off/\(f.name== "_")=false then
   match g f.type with
   |some ks=>if ks.length=P.cellsOf f.type then(ADv P g r (off+ks.length)).map (ks++ ·)else none
   |none=>none
  else none
def xo(P:Program):S->TypeId->Ω (Ψ Kd)
 |0,_=>D
 |d+1,t=>
  match P.underlying t with
  |some .bool=>Z [.bool]
  |some (.int k)=>Z [.int k]
  |some .string=>Z [.str]
  |some (.array n e)=>
   match xo P d e with
   |some ks=>if W ks=P.cellsOf e/\(P.info? e).isSome then Z (ς n ks).flatten else D
   |none=>D
  |some (.struct fs)=>if P.stoodInHeld t then D else ADv P (xo P d) fs.toList 0
  |_=>D
def ABF:Kd->Ad->Bool
 |.bool,.bool _=>E
 |.int k,.int k' _=>decide (k=k')
 |.str,.str _=>E
 |_,_=>η
def typed:Ψ Kd->Ψ Ad->Bool
 |[],[]=>E
 |k::ks,v::vs=>ABF k v&&typed ks vs
 |_,_=>η
def sEq:Ad->Ad->Bool
 |.bool a,.bool b=>a==b
 |.int _ a,.int _ b=>a==b
 |.str a,.str b=>a==b
 |_,_=>η
def vv:Ψ Ad->Ψ Ad->Bool
 |[],[]=>E
 |a::as,b::bs=>sEq a b&&vv as bs
 |_,_=>η
def YW{k1 b:Ψ Kd}:∀{a},typed (k1++b) a=E->typed k1 (a.take (W k1))=E/\typed b (a.drop (W k1))=E:=by
 induction k1 with
 |nil=>intro a h;exact⟨by simp[typed],by simpa using h⟩
 |cons k f e=>
  intro a h;cases a with
  |nil=>simp[typed]at h
  |cons v a=>simp only[EW,typed,Ba]at h;obtain⟨c,d⟩:=e h.2;exact⟨by simp[typed,h.1,c],by simpa using d⟩
def Gy:∀{a}{b},typed a b=E->W b=W a
 |[],[],_=>rfl
 |_::_,_::_,h=>by simp only[typed,Ba]at h;simp[Gy h.2]
 |[],_::_,h=>by simp[typed]at h
 |_::_,[],h=>by simp[typed]at h
def qj:∀n(c bs:Ψ Ad),W c=W bs->vv c bs=(vv (c.take n) (bs.take n)&&vv (c.drop n) (bs.drop n))
 |0,c,bs,_=>by simp[vv]
 |n+1,[],[],_=>by simp[vv]
 |n+1,a::c,b::bs,h=>by simp only[Bh,Nat.add_right_cancel_iff]at h;simp only[vv,List.take_succ_cons,List.drop_succ_cons,qj n c bs h,Bool.and_assoc]
 |n+1,[],_::_,h=>by simp at h
 |n+1,_::_,[],h=>by simp at h
def Over(P:Program)(x:Cx)(t:TypeId)(as:List Ad)(a:Value):Prop:=
 ∃(b:Bool)(n:S)(cs:List Value),tI P t=δ (b,n)/\θ as=n/\nZ x as cs/\(if b then a=.agg cs.toArray else cs=[a])
def EqF(P:Program)(d:S)(t:TypeId)(ks:Ψ Kd):Prop:=
 ∀w x a b as bs,Over P x t as a->Over P x t bs b->typed ks as=E->typed ks bs=E->(Op.equalIn d t a b).run P w=.ok (vv as bs) w
def mc{P:Program}{off n:S}{w:World}(hr:nZ q f v)(t:tI P b=δ (M,n))(m:M=η→n=1)(o:off+n≤θ f):
  ∃a,(part b v.toArray off).run P w=.ok a w/\Over P q b ((f.drop off).take n) a:=by
 have e:nZ q ((f.drop off).take n) ((v.drop off).take n):=by refine⟨by simp[hr.1],λj x c g i=>?_⟩;rw[dA]at g i;split at g;rename_i k;rw[C! k]at i;rw[KC]at g i;exact hr.2 _ x c g i;cases g
 cases M with
 |true=>refine⟨.agg (v.toArray.extract off (off+n)),by simp[part,Yh t,Ln t],ζ,n,(v.drop off).take n,t,w!,e,?_⟩;simp only[if_true,Value.agg.injEq];apply Array.toList_inj.1;simp only[Array.toList_extract,wM,Tr]
 |false=>
  obtain rfl:=m rfl;have l:off<θ v:=by rw[hr.1];omega
  refine⟨v[off],by simp[part,Yh t,l],η,1,(v.drop off).take 1,t,w!,e,?_⟩;rw[D! q!,OQ l];rfl
def oT{d}{e:Ψ Kd}(h:xo P d b=Z e):∃t,tI P b=Z (t,P.cellsOf b)/\(t=η->W e=1):=by
 cases d with
 |zero=>simp[xo]at h
 |succ d=>
  unfold xo at h;unfold tI Program.cellsOf;cases f:P.info? b with
  |none=>
   have a:P.underlying b=D:=by simp[Program.underlying,f]
   rw[a]at h;cases h
  |some i=>
   cases a:P.underlying b with
   |none=>rw[a]at h;cases h
   |some c=>rw[a]at h;refine⟨_,rfl,?_⟩;cases c<;>simp_all<;>(subst h;rfl)
def AAQ{P:Program}{d:S}{g:TypeId→Option (List Kd)}(C: ∀t i,g t=some i→EqF P d t i∧ ∃b,tI P t=some (b,P.cellsOf t)∧(b=false→i.length=1)){x:Cx}{w:World}{l bs:List Ad}{H I:List Value}
  (A:nZ x l H) (B:nZ x bs I) (j:l.length=bs.length): ∀(m:List Field) (h:S) (i:List Kd),ADv P g m h=some i->h<=l.length->typed i (l.drop h)=true->typed i (bs.drop h)=true->(Op.eqFields d H.toArray I.toArray m).run P w= .ok (vv (l.drop h) (bs.drop h)) w
 |[],h,i,hk,_,ta,tb=>by simp only[ADv,Ar]at hk;subst hk;have J:=Gy ta;have K:=Gy tb;rw[D8 J,D8 K];simp[Op.eqFields,vv]
 |f::m,h,i,hk,ho,ta,tb=>by
  simp only[ADv]at hk;split at hk;rename_i L;obtain⟨rfl,k⟩:=L;split at hk;rename_i k1 u;split at hk;rename_i o;cases hr:ADv P g m (f.offset+k1.length)with
  |none=>rw[hr]at hk;cases hk
  |some N=>
   rw[hr]at hk;simp only[Bt,Ar]at hk;subst hk;obtain⟨q,y⟩:=YW ta;obtain⟨r,z⟩:=YW tb;obtain⟨s,b,D_,n⟩:=C _ _ u;have E_:=Gy q;have O:=Gy r;have v:f.name≠ "_" :=by simpa using k
   obtain⟨a,Q,F⟩:=mc (P:=P) (w:=w) (off:=f.offset) A D_ (λe=>o▸n e) (by rw[<-o];simp at E_;omega);obtain⟨c,R,G⟩:=mc (P:=P) (w:=w) (off:=f.offset) B D_ (λe=>o▸n e) (by rw[<-o];simp at O;omega);rw[<-o]at F G;have p:=s w x a c _ _ F G q r;have M:=AAQ C (w:=w) A B j m (f.offset+k1.length) N hr (by simp at E_;omega) (by simpa[LK]using y) (by simpa[LK]using z);rw[qj k1.length _ _ (by simp[j])];simp only[Op.eqFields,if_pos v,Sem.run_bind,Q,R,p,Result.andThen_ok];cases vv ((l.drop f.offset).take k1.length) ((bs.drop f.offset).take k1.length);simp;simp only[Bn,QK,if_false,mE,M,LK]
  cases hk;cases hk;cases hk
def xN{P:Program}{d:S}{e:TypeId}{f:Ψ Kd}(o:EqF P d e f){b:Bool}(s:tI P e=Z (b,W f))(j:b=η→W f=1){x:Cx}{w:World}{h bs:Ψ Ad}{z A:Ψ Value}
  (u:nZ x h z) (v:nZ x bs A) (g:W h=W bs):∀(n i:S),i*W f<=W h->typed (ς n f).flatten (h.drop (i*W f))=E->typed (ς n f).flatten (bs.drop (i*W f))=E->(Op.eqItems d e (W f) z.toArray A.toArray (List.range' i n)).run P w=.ok (vv (h.drop (i*W f)) (bs.drop (i*W f))) w
 |0,i,_,ta,tb=>by have B:=Gy ta;have C:=Gy tb;rw[D8 (l:=h.drop _) (by simpa using B),D8 (l:=bs.drop _) (by simpa using C)];simp[Op.eqItems,vv]
 |n+1,i,ho,ta,tb=>by
  rw[nj,qR]at ta tb;obtain⟨q,k⟩:=YW ta;obtain⟨r,m⟩:=YW tb;have y:=Gy q;have E_:=Gy r;obtain⟨a,H,F⟩:=mc (P:=P) (w:=w) (off:=i*W f) u s j (by simp at y;omega);obtain⟨c,I,G⟩:=mc (P:=P) (w:=w) (off:=i*W f) v s j (by simp at E_;omega);have p:=o w x a c _ _ F G q r;rw[LK]at k m;have t:i*W f+W f=(i+1)*W f:=by rw[D5];omega
  rw[t]at k m;have D_:=xN o s j (w:=w) u v g n (i+1) (by simp at y;omega) k m;rw[qj (W f) _ _ (by simp[g]),LK,LK,t];rw[List.range'_succ];simp only[Op.eqItems,Sem.run_bind,H,I,p,Result.andThen_ok];cases vv ((h.drop (i*W f)).take (W f)) ((bs.drop (i*W f)).take (W f));simp;simp[D_]
def xq{P}(d:Nat):∀m t(y:Ψ Kd),xo P m t=Z y->EqF P (d+m) t y
 |0,_,_,h=>by simp[xo]at h
 |m+1,t,y,h=>by
  obtain⟨bt,T,_⟩:=oT h;intro w x a b F bs X Y o p;obtain⟨O,n1,xs,c,U,ra,j⟩:=X;obtain⟨Z_,n2,ys,r,V,E_,l⟩:=Y;rw[c]at r;simp only[Ar,Eh]at r;obtain⟨rfl,rfl⟩:=r;have I:=Gy o;have J:=Gy p;have g:∀q,P.underlying t=Z q->O=(match q with|.struct _|.array _ _=>E|_=>η):=by intro q S;unfold tI at c;rw[S]at c;split at c;rename_i G;injection G with e;subst e;simp only[Ar,Eh]at c;exact c.1.symm;cases c
  unfold xo at h;split at h;rename_i f;simp only[Ar]at h;subst h;have:=g _ f;simp only at this;subst this;simp only[QK,if_false]at j l;subst j l;match F,I,bs,J with
  |[u],_,[v],_=>have C:=ra.2 0 u a rfl rfl;have D_:=E_.2 0 v b rfl rfl;simp only[typed,Rm]at o p;cases u<;>simp[ABF]at o;cases v<;>simp[ABF]at p;cases C;cases D_;rw[show d+(m+1)=(d+m)+1 from rfl,run_equalIn_bool' w (d+m) t _ _ f];simp[vv,sEq]
  rename_i k f;simp only[Ar]at h;subst h;have:=g _ f;simp only at this;subst this;simp only[QK,if_false]at j l;subst j l;match F,I,bs,J with
  |[u],_,[v],_=>have C:=ra.2 0 u a rfl rfl;have D_:=E_.2 0 v b rfl rfl;simp only[typed,Rm]at o p;cases u<;>simp[ABF]at o;cases v<;>simp[ABF]at p;cases C;cases D_;subst o p;rw[show d+(m+1)=(d+m)+1 from rfl,run_equalIn_int w (d+m) t _ _ _ _ f];simp[vv,sEq]
  rename_i f;simp only[Ar]at h;subst h;have:=g _ f;simp only at this;subst this;simp only[QK,if_false]at j l;subst j l;match F,I,bs,J with
  |[u],_,[v],_=>
   have C:=ra.2 0 u a rfl rfl;have D_:=E_.2 0 v b rfl rfl;simp only[typed,Rm]at o p;cases u<;>simp[ABF]at o;cases v<;>simp[ABF]at p;cases C with
   |str s1 Q=>
    cases D_ with
    |str s2 R=>subst Q R;rw[show d+(m+1)=(d+m)+1 from rfl,run_equalIn_string w (d+m) t _ _ f];simp[vv,sEq,ByteArray.toList_eq]
  rename_i n e f;split at h;rename_i k1 A;split at h;rename_i H;simp only[Ar]at h;subst h;have:=g _ f;simp only at this;subst this;simp only[if_true]at j l;subst j l;obtain⟨N,s⟩:=fq.1 H.2;obtain⟨b,L,B⟩:=oT A;rw[<-H.1]at L;have i:=xN (xq d m e k1 A) L B (w:=w) ra E_ o! n 0 q! (by simpa using o) (by simpa using p);rw[show d+(m+1)=(d+m)+1 from rfl,run_equalIn_array w (d+m) _ _ f s,<-H.1,List.range_eq_range'];simpa using i;cases h;cases h;rename_i K f;split at h;cases h;rename_i W;have:=g _ f;simp only at this;subst this;simp only[if_true]at j l;subst j l;have z:P.fieldsOf t=K:=by simp[Program.fieldsOf,f]
  have i:=AAQ (d:=d+m) (λt y M=>⟨xq d m t y M,oT M⟩) (w:=w) ra E_ o! K.toList 0 y h q! (by simpa using o) (by simpa using p);rw[show d+(m+1)=(d+m)+1 from rfl,run_equalIn_struct w (d+m) t _ _ (by rw[z];exact f) (by simpa using W),z];simpa using i;cases h
def qT(op:BinOp)(k:IntKind)(a b:Int):Ω Ad:=
 match op with
 |.add=>Z (.int k (k.wrap (a+b)))
 |.sub=>Z (.int k (k.wrap (a-b)))
 |.mul=>Z (.int k (k.wrap (a*b)))
 |.quo=>if b=0 then D else Z (.int k (k.wrap (a.tdiv b)))
 |.rem=>if b=0 then D else Z (.int k (a.tmod b))
 |.and=>Z (.int k (k.wrap (κ k.bits a&&&κ k.bits b).toNat))
 |.or=>Z (.int k (k.wrap (κ k.bits a|||κ k.bits b).toNat))
 |.xor=>Z (.int k (k.wrap (κ k.bits a^^^κ k.bits b).toNat))
 |.andNot=>Z (.int k (k.wrap (κ k.bits a&&& ~~~κ k.bits b).toNat))
 |.eql=>Z (.bool (a==b))
 |.neq=>Z (.bool (a !=b))
 |.lss=>Z (.bool (τ (a<b)))
 |.leq=>Z (.bool (τ (a<=b)))
 |.gtr=>Z (.bool (τ (a>b)))
 |.geq=>Z (.bool (τ (a>=b)))
 |.shl|.shr=>D
def AAv{d}{a}(w:World)(h:qT d G i a=Z k):∃c,(binOp d b (.int G i) (.int G a)).run P w=.ok c w/\Bv q k c:=by
 cases d<;>simp only[qT]at h<;>(try split at h)<;>first
  |cases h;done
  |(simp at h;subst h;first
    |exact⟨_,by simp[binOp,Op.intArith,Op.intDiv,Op.intBits, *],.int _ _⟩
    |exact⟨_,by simp[binOp,Op.intCmp],.bool _⟩)
def lw(op:BinOp)(k:IntKind)(a b:Int):Option Ad:=
 if b<0 then ε else
 match op with
 |.shl=>δ (.int k (k.wrap (a*2^min b.toNat k.bits)))
 |.shr=>δ (.int k (a.fdiv (2^min b.toNat k.bits)))
 |_=>ε
def AEf(P:Program)(t:TypeId):Ω (Ψ Kd):=
 if P.eqGuardType P.depth t then D else
 match xo P 12 t with
 |some ks=>if tI P t=Z (E,W ks)then Z ks else D
 |none=>D
def xh(op:BinOp)(a b:Ψ UInt8):Ω Ad:=
 match op with
 |.add=>if W a+W b<=9223372036854775807 then Z (.str (a++b))else D
 |.eql=>Z (.bool (a==b))
 |.neq=>Z (.bool (a !=b))
 |.lss=>Z (.bool (Op.bytesLess a b))
 |.leq=>Z (.bool (Op.bytesLess a b||a==b))
 |.gtr=>Z (.bool (!(Op.bytesLess a b||a==b)))
 |.geq=>Z (.bool (!Op.bytesLess a b))
 |_=>D
def zI(P:Program)(op:BinOp)(t:TypeId)(x y:Ad):Ω Ad:=
 match x,y with
 |.int k a,.int k' b=>
  match op with
  |.shl|.shr=>lw op k a b
  |_=>if k=k' then qT op k a b else D
 |.bool a,.bool b=>
  match op with
  |.eql=>if kd P t=.bool then Z (.bool (a==b))else D
  |.neq=>if kd P t=.bool then Z (.bool (!(a==b)))else D
  |_=>D
 |.str a,.str b=>xh op a b
 |.agg as,.agg bs=>
  match AEf P t with
  |some ks=>
   if typed ks as=E/\typed ks bs=E then
    match op with
    |.eql=>Z (.bool (vv as bs))
    |.neq=>Z (.bool (!vv as bs))
    |_=>D
   else D
  |none=>D
 |_,_=>D
theorem ACZ(h:kd P b=.bool):P.underlying b=Z .bool:=by unfold kd at h;grind
def toList_data(t:ByteArray):t.toList=t.data.toList:=ByteArray.toList_eq t
def AGj{e:BinOp}{u:Ad}{f:Value}(w:World)(ra:Bv q k f)(A:Bv q U g)(h:zI P e b k U=δ u):
  ∃c,(do eqGuard e b p a f g;binOp e b f g:Sem Value).run P w=.ok c w/\Bv q u c:=by
 unfold zI at h;split at h;rename_i x n T y;cases ra;cases A;have m:(eqGuard e b p a (.int x n) (.int T y)).run P w=.ok () w:=by unfold eqGuard;cases e<;>simp
 simp only[Sem.run_bind,m,Result.andThen_ok];split at h;unfold lw at h;split at h;cases h;rename_i C;simp only[Ar]at h;subst h;exact⟨_,by simp[binOp,Op.shift,C],.int _ _⟩;unfold lw at h;split at h;cases h;rename_i C;simp only[Ar]at h;subst h;exact⟨_,by simp[binOp,Op.shift,C],.int _ _⟩;simp_all[AAv];rename_i t X;cases ra;cases A;have m:(eqGuard e b p a (.bool t) (.bool X)).run P w=.ok () w:=by unfold eqGuard;cases e<;>simp
 simp only[Sem.run_bind,m,Result.andThen_ok];split at h;split at h;rename_i I;simp only[Ar]at h;subst h;exact⟨_,run_eql_bool w b t X (ACZ I),.bool _⟩;cases h;split at h;rename_i I;simp only[Ar]at h;subst h;refine⟨_,?_,.bool _⟩;simp only[binOp];simp[run_equal_bool w b t X (ACZ I)];cases h;cases h
 ·rename_i s1 s2;cases ra with
  |str s L=>
   cases A with
   |str z O=>
    have m:(eqGuard e b p a (.string s) (.string z)).run P w=.ok () w:=by unfold eqGuard;cases e<;>simp
    simp only[Sem.run_bind,m,Result.andThen_ok];subst L O;unfold xh at h;split at h;split at h;rename_i S;simp only[Ar]at h;subst h;have o:¬(((s.size+z.size:Nat):Int)>IntKind.i64.max):=by
     have Z_:θ s.data.toList=s.size:=q!
     have e2:θ z.data.toList=z.size:=q!
     have K:IntKind.i64.max=9223372036854775807:=g!
     rw[K];omega
    exact⟨.string (s++z),by simp only[binOp];simp only[Op.stringOp,D! o];rfl,.str _ q!⟩;cases h;all_goals first
     |cases h;done
     |(simp only[Ar]at h
       subst h;exact⟨_,by simp only[binOp];simp[Op.stringOp,toList_data,bne],.bool _⟩)
 rename_i B bs;cases ra with
 | @agg B f V M Y=>
  cases A with
  | @agg bs g W N vb=>
   split at h;rename_i ks d;unfold AEf at d;split at d;cases d;rename_i G;split at d;rename_i J E_;split at d;rename_i r;simp only[Ar]at d;subst d;split at h;rename_i i;have F:=xq (P:=P) 9988 12 b J E_;have Q:=Gy i.1;have R:=Gy i.2;have l:(Op.equalIn 10000 b (.agg f) (.agg g)).run P w=.ok (vv B bs) w:=
    F w q (.agg f) (.agg g) B bs ⟨ζ,_,f.toList,r,o!,⟨by simpa using V,λj v c H D_=>Y j v c H (by simpa using D_)⟩,q!⟩
     ⟨ζ,_,g.toList,r,o!,⟨by simpa using W,λj v c H D_=>vb j v c H (by simpa using D_)⟩,q!⟩ i.1 i.2
   have m:(eqGuard e b p a (.agg f) (.agg g)).run P w=.ok () w:=run_eqGuard_agg w e b p a f g (by simpa using G);simp only[Sem.run_bind,m,Result.andThen_ok];split at h;simp only[Ar]at h;subst h;exact⟨_,by rw[run_eql_struct,l];rfl,.bool _⟩;simp only[Ar]at h;subst h;exact⟨_,by rw[run_neq_struct,l];rfl,.bool _⟩;cases h;cases h;cases d;cases d;cases h
 cases h
def unV(op:UnOp)(v:Ad):Ω Ad:=
 match op,v with
 |.neg,.int k n=>Z (.int k (k.wrap (0-n)))
 |.xor,.int k n=>Z (.int k (k.wrap (κ k.bits (if k.signed then-1 else k.max)^^^κ k.bits n).toNat))
 |.not,.bool b=>Z (.bool !b)
 |_,_=>D
def AJm{b}(w:World)(r:Bv q k g)(h:unV b k=Z U):∃a,(Op.unary b g).run P w=.ok a w/\Bv q U a:=by unfold unV at h;split at h;cases r;simp at h;subst h;exact⟨_,by simp[Op.unary,Op.intArith],.int _ _⟩;cases r;simp at h;subst h;exact⟨_,by simp only[Op.unary];rfl,.int _ _⟩;cases r;simp at h;subst h;exact⟨_,by simp[Op.unary],.bool _⟩;cases h
def rowsOf(H:Aw):Ad->Ω (Ψ Ad)
 |.vs sz rows=>if sz=1 then Z (rows.flatMap Ad.cells)else D
 |.sl id g sz off len=>
  match H[id]? with
  |some (.live g' cs)=>if g=g'/\sz=1/\off+len<=W cs then Z ((cs.drop off).take len)else D
  |_=>D
 |.nils=>Z []
 |_=>D
def u8s:Ψ Ad->Ω (Ψ UInt8)
 |[]=>Z []
 |.int .u8 n::r=>(u8s r).map (UInt8.ofNat n.toNat:: ·)
 |_=>D
def X6(P:Program)(H:Aw)(src dst:TypeId)(v:Ad):Ω Ad:=
 match kd P dst,v with
 |.int k,.int _ n=>if(P.underlying src).isSome then Z (.int k (k.wrap n))else D
 |.str,.str s=>if(P.underlying src).isSome then Z (.str s)else D
 |.str,v=>
  if kd P src=.bytes then
   match rowsOf H v with
   |some cs=>(u8s cs).map Ad.str
   |none=>D
  else D
 |_,_=>D
theorem rY{sz:S}:∀{rows:Ψ Ad},(∀(j:S)(e:Ad),rows[j]?=Z e->W e.cells=sz)->(rows.flatMap Ad.cells).length=W rows*sz
 |[],_=>q!
 |e::r,h=>by have b:=h 0 e rfl;have d:=rY (rows:=r) λj a c=>h (j+1) a k!;grind
theorem flat_get{sz:S}(c:0<sz):∀{rows:Ψ Ad},(∀(j:S)(e:Ad),rows[j]?=Z e→W e.cells=sz)→ ∀(i:S)(v:Ad),(rows.flatMap Ad.cells)[i]?=Z v→
  ∃e,rows[i/sz]?=Z e/\e.cells[i%sz]?=Z v
 |e::r,h,i,v,hi=>by
  have d:=h 0 e rfl;simp at hi;rcases A0 i sz with f|a;grind[Nat.div_eq_of_lt,Nat.mod_eq_of_lt];rw[Cn o!,d]at hi;obtain⟨b,l,m⟩:=flat_get c (rows:=r) (λj b n=>h (j+1) b k!) (i-sz) v hi;have g:i/sz=(i-sz)/sz+1:=by rw[<-Nat.add_div_right _ c,Nat.sub_add_cancel a]
  have k:i%sz=(i-sz)%sz:=by rw[<-Nat.add_mod_right (i-sz),Nat.sub_add_cancel a]
  grind
def ABl{P:Program}(s:JT j h H d)(r:Bv (cx j h H d) k g)(hr:rowsOf H k=Z f):
  ∃a n cap V,g=.slice a n cap/\n=θ f/\nZ (cx j h H d) f V/\((a=D/\n=0)\/∃C,a=Z C/\(loadCells C n).run P d=.ok V.toArray d):=by
 cases r with
 |nils=>simp only[rowsOf,Ar]at hr;subst hr;exact⟨D,0,0,[],rfl,rfl,⟨rfl,λ_ _ _ h=>by cases h⟩,.inl ⟨rfl,rfl⟩⟩
 | @vs sz b a cap K D_ ar m Z_ hv=>
  simp only[rowsOf]at hr;split at hr;rename_i R;subst R;simp only[Ar]at hr;subst hr;have l:=rY m;rw[Nat.mul_one]at l;cases b with
  |nil=>
   cases a with
   |none=>exact⟨D,0,cap,[],rfl,rfl,⟨rfl,λ_ _ _ h=>by cases h⟩,.inl ⟨rfl,rfl⟩⟩
   |some C=>exact⟨Z C,0,cap,[],rfl,rfl,⟨rfl,λ_ _ _ h=>by cases h⟩,.inr ⟨C,rfl,by simp[loadCells,loadCellsFrom]⟩⟩
  |cons Y I=>
   obtain⟨B,i,rfl,hO,hB,L⟩:=Z_ q!;generalize Y::I=b at*;refine⟨_,θ b,cap,(List.range (θ b)).map λv=>K v 0,rfl,l.symm,⟨by simp[l],λv k c A o=>?_⟩,.inr ⟨_,rfl,?_⟩⟩;obtain⟨e,p,E_⟩:=flat_get o! m v k A;rw[Nat.div_one]at p;rw[Nat.mod_one]at E_;have t:v<θ b:=by rcases A0 v (θ b) with y|y;exact y;rw[Ct y]at p;cases p
   rw[CU,Rq t]at o;simp only[Bt,Ar]at o;subst o;exact hv v e 0 k p E_;have:=run_loadCells (P:=P) d ⟨B,i,D⟩ (θ b) (K · 0) λv A=>by have J:b[v]?=Z (b[v]):=Au A;have hl:=m v _ J;have M:(b[v]).cells[0]?=Z ((b[v]).cells[0]' o!):=Au o!;rw[PK];have:=(L v _ 0 _ J M).1;simpa[cx]using this
   exact this
  cases hr
 | @sl id w sz i len g ao hg R L=>
  simp only[rowsOf]at hr;split at hr;rename_i g' x J;split at hr;rename_i z;obtain⟨rfl,rfl,ap⟩:=z;simp only[Ar]at hr;subst hr;obtain⟨G,F⟩:=s.live id w x J;rcases L G with⟨q,rfl,rfl,rfl⟩|⟨B,cap,q,D_,N,rfl⟩;exact⟨D,0,0,[],rfl,q!,⟨q!,λ_ _ _ _ h=>by cases h⟩,.inl ⟨rfl,rfl⟩⟩;rcases F with⟨hn,_⟩|⟨Q,W,T,fz,K,u,hb,S,U,al,X⟩;rw[hn]at q;cases q;have:Q=B:=by rw[q]at u;injection u with e;exact e.symm
  subst this;refine⟨_,len,cap,(List.range len).map λv=>K (i+v),rfl,w!,⟨w!,λv k c A o=>?_⟩,.inr ⟨_,rfl,?_⟩⟩;have t:v<len:=by rcases A0 v len with y|y;exact y;rw[Ct (by simpa using y)]at o;cases o
  rw[dA,C! t,KC]at A;rw[CU,Rq t]at o;simp only[Bt,Ar]at o;subst o;exact(X _ k A).2.2;exact run_loadCells (P:=P) d ⟨Q,i,D⟩ len (λv=>K (i+v)) λv A=>by have O:x[i+v]?=Z (x[i+v]' o!):=Au o!;rw[PK,QM (w:=d) hb];exact(X _ _ O).1
  cases hr;cases hr
 |_=>simp only[rowsOf]at hr;cases hr
theorem AAZ{x}:∀{d}{b}{bs:Ψ UInt8},nZ x d b->u8s d=Z bs->∃e:Ψ Int,b=e.map (Value.int .u8)/\bs=e.map λn=>UInt8.ofNat n.toNat
 |[],b,bs,hr,hb=>by simp only[u8s]at hb;rw[D8 hr.1];simp_all
 |v::d,b,bs,hr,hb=>by
  match b,hr with
  |u::b,hr=>
   have h:=hr.2 0 v u rfl rfl;have l:nZ x d b:=⟨by have:=hr.1;simpa using this,λj a c p o=>hr.2 (j+1) a c k! k!⟩
   unfold u8s at hb;split at hb<;>rename_i f<;>(try cases f)<;>try (cases hb;done)
   cases k:u8s d with
   |none=>grind
   |some g=>obtain⟨e,i,m⟩:=AAZ l k;cases h;exact⟨_::e,by rw[i];rfl,k!⟩
def AA9(a:Ψ Int):∀s:ByteArray,(a.foldl (λr n=>r.push (UInt8.ofNat n.toNat)) s).data.toList=s.data.toList++a.map λn=>UInt8.ofNat n.toNat:=by induction a<;>simp_all
theorem AFA{P}(h:kd P b=.bytes):∃e,P.underlying b=Z (.slice e)/\P.underlying e=Z (.int .u8):=by unfold kd at h;grind
theorem AEm(s:JT j h H d)(r:Bv (cx j h H d) k g)(v:X6 P H b Y k=Z U):
  ∃y,(convert b Y g).run P d=.ok y d/\Bv (cx j h H d) U y:=by
 unfold X6 at v;split at v;rename_i X I n o;split at v;rename_i i;obtain⟨C,i⟩:=fq.1 i;simp only[Ar]at v;subst v;cases r;exact⟨_,by simp[convert,run_underlying i,run_underlying (AJE o),Conv.intToInt],.int _ _⟩;cases v;rename_i J o;split at v;rename_i i;obtain⟨C,i⟩:=fq.1 i;simp only[Ar]at v;subst v;cases r with
 |str t F=>exact⟨_,by simp[convert,run_underlying i,run_underlying (uz o)],.str _ F⟩
 cases v;rename_i L o _;split at v;rename_i D_;split at v;rename_i B p;cases q:u8s B with
 |none=>rw[q]at v;cases v
 |some bs=>
  rw[q]at v;simp only[Bt,Ar]at v;subst v;obtain⟨e,m,z⟩:=AFA D_;obtain⟨a,n,cap,K,rfl,hn,l,f⟩:=ABl (P:=P) s r p;obtain⟨x,rfl,rfl⟩:=AAZ l q;rcases f with⟨rfl,E_⟩|⟨A,rfl,w⟩;have:x=[]:=by have G:=l.1;grind[List.length_map,List.eq_nil_of_length_eq_zero]
  subst this;exact⟨.string .empty,by simp[convert,run_underlying m,run_underlying (uz o),run_underlying z,Conv.bytesToString],.str _ rfl⟩;refine⟨_,?_,.str _ (AA9 x ByteArray.empty)⟩;simp only[convert,Sem.run_bind,run_underlying m,run_underlying (uz o),run_underlying z,Result.andThen_ok];exact run_bytesToString d A n cap x (by simpa using w)
 cases v;cases v;cases v
def rE(P:Program)(H:Aw)(t:TypeId)(v:Ad):Ω Ad:=
 match P.underlying t,v with
 |some .string,.str s=>Z (.int .i64 (W s))
 |some (.array n _),_=>Z (.int .i64 n)
 |some (.slice _),.vs _ rows=>Z (.int .i64 (W rows))
 |some (.slice _),.sl _ _ _ _ len=>Z (.int .i64 len)
 |some (.slice _),.nils=>Z (.int .i64 0)
 |_,_=>D
def AHK{P}{w}{t ty:TypeId}(s:JT j h H w)(r:Bv (cx j h H w) k g)(b:rE P H t k=Z U):
  ∃f,(Builtin.len_ #[t] ty #[g]).run P w=.ok f w/\Bv (cx j h H w) U f:=by
 unfold rE at b;split at b;rename_i p d;simp only[Ar]at b;subst b;cases r with
 |str u m=>
  refine⟨.int .i64 u.size,by simp[Builtin.len_,run_underlying d,goInt],?_⟩;have:W p=u.size:=by rw[<-m];simp
  rw[this];exact .int _ _
 rename_i n e d;simp only[Ar]at b;subst b;exact⟨.int .i64 n,by simp[Builtin.len_,run_underlying d,goInt],.int _ _⟩;rename_i sz i d;simp only[Ar]at b;subst b;cases r;exact⟨_,by simp[Builtin.len_,run_underlying d,goInt],.int _ _⟩;rename_i id v sz o len d;simp only[Ar]at b;subst b;cases r with
 |sl l x X q=>obtain⟨a,cap,rfl⟩:=X;exact⟨_,by simp[Builtin.len_,run_underlying d,goInt],.int _ _⟩
 rename_i d;simp only[Ar]at b;subst b;cases r;exact⟨_,by simp[Builtin.len_,run_underlying d,goInt],.int _ _⟩;cases b
def mmV(mx:Bool):Ψ Ad->Ω Ad
 |[.int k a,.int _ b]=>Z (.int k (if mx then(if b>a then b else a)else(if b<a then b else a)))
 |_=>D
def AFL{P:Program}{w:World}{mx}{ts:Array TypeId}{ty:TypeId}{u:Ad}{c}(x:Bv q k g)(h:Bv q U c)(a:mmV mx [k,U]=Z u):
  ∃f,((if mx then Builtin.max_ ts ty #[g,c]else Builtin.min_ ts ty #[g,c]):Sem Value).run P w=.ok f w/\Bv q u f:=by
 cases k<;>try (simp[mmV]at a;done)
 cases U<;>try (simp[mmV]at a;done)
 cases x;cases h;simp only[mmV,Ar]at a;subst a;cases mx;exact⟨_,by simp[Builtin.min_,Builtin.min2],.int _ _⟩;exact⟨_,by simp[Builtin.max_,Builtin.max2],.int _ _⟩
def mm3:Ad->Ad->Ad->Ω Ad
 |.int k a,.int _ b,.int _ c=>Z (.int k (if c<(if b<a then b else a)then c else(if b<a then b else a)))
 |_,_,_=>D
def AHP{P:Program}{w:World}{ts:Array TypeId}{ty:TypeId}{h u:Ad}{d e}(i:Bv q k g)(j:Bv q U d)(x:Bv q h e)(a:mm3 k U h=Z u):
  ∃b,(Builtin.min_ ts ty #[g,d,e]).run P w=.ok b w/\Bv q u b:=by
 unfold mm3 at a;split at a;cases i;cases j;cases x;simp at a;subst a;exact⟨_,by simp[Builtin.min_,Builtin.min2],.int _ _⟩;cases a
def vH:Ad->Ω S
 |.int _ i=>if 0<=i then Z i.toNat else D
 |_=>D
def XB(d:S):Ω Ad->Ω S
 |none=>Z d
 |some v=>vH v
def cZ(P:Program)(H:Aw)(t:TypeId)(v:Ad)(lo hi mx:Ω Ad):Ω Ad:=
 match v with
 |.str s=>
  match XB 0 lo,XB (W s) hi,mx with
  |some l,Z h,D=>if kd P t=.str/\l<=h/\h<=W s then Z (.str ((s.drop l).take (h-l)))else D
  |_,_,_=>D
 |.vs sz rows=>
  match XB 0 lo,XB (W rows) hi,XB (W rows) mx,eI P t with
  |some l,Z h,Z m,Z (D,_,sz')=>if sz=sz'/\l<=h/\h<=m/\m<=W rows/\(mx.isSome=E->hi.isSome=E)then(match mx with|none=>Z (.vs sz ((rows.drop l).take (h-l)))|some _=>if m=h then Z (.vx sz ((rows.drop l).take (h-l)))else D)else D
  |_,_,_,_=>D
 |.sl id g sz off len=>
  match XB 0 lo,XB len hi,XB len mx,eI P t with
  |some l,Z h,Z m,Z (D,_,sz')=>
   if sz=sz'/\0<sz/\l<=h/\h<=m/\m<=len/\UB H id g=E/\(mx.isSome=E->hi.isSome=E)then
    if l=0 then Z (.sl id g sz off h)else if l=h then Z (.vs sz [])else Z (.sl id g sz (off+l*sz) (h-l))
   else D
  |_,_,_,_=>D
 |.nils=>
  match XB 0 lo,XB 0 hi,XB 0 mx,eI P t with
  |some 0,Z 0,Z 0,Z (D,_,_)=>if mx.isSome=E->hi.isSome=E then Z .nils else D
  |_,_,_,_=>D
 |_=>D
theorem ADY(r:Bv q k g)(h:vH k=Z n):∃x i,g=.int x i/\0<=i/\i.toNat=n:=by
 cases k<;>try (simp[vH]at h;done)
 cases r;grind[vH]
def run_sliceBound{P:Program}{w:World}{code}(r:Bv q k g)(h:vH k=Z n)(b:n<=N):(Instr.sliceBound g N code).run P w=.ok n w:=by
 obtain⟨x,i,rfl,a,rfl⟩:=ADY r h;have:i<=N:=o!
 simp[Instr.sliceBound,asIntOf,a,this]
def Zg{P:Program}{w:World}{isSlice:Bool}{len cap l h m:S}{k j mx:Ω Ad}{e b cmx:Ω Value}(i:∀v,k=Z v→ ∃c,e=Z c∧Bv q v c)(g:k=D→e=D)
  (o:∀v,j=Z v->∃c,b=Z c/\Bv q v c) (t:j=D->b=D) (z:∀v,mx=Z v->∃c,cmx=Z c/\Bv q v c) (u:mx=D->cmx=D)
  (a:XB 0 k=Z l) (x:XB len j=Z h) (D_:XB len mx=Z m) (s:l<=h) (E_:h<=m) (J:m<=len) (K:len<=cap) (F:mx.isSome=E->j.isSome=E):
  (Instr.sliceBounds isSlice len cap e b cmx).run P w=.ok (l,h,if mx.isSome then m else cap) w:=by
 unfold Instr.sliceBounds;cases mx with
 |none=>
  obtain rfl:=u rfl;cases j with
  |none=>
   obtain rfl:=t rfl;simp only[XB,Ar]at x;subst x;cases k with
   |none=>obtain rfl:=g rfl;simp only[XB,Ar]at a;simp[a]
   |some v=>obtain⟨d,rfl,r⟩:=i v rfl;have n:=λc=>run_sliceBound (P:=P) (w:=w) (code:=c) r a s;simp[n]
  |some A=>
   obtain⟨B,rfl,y⟩:=o A rfl;have p:=λc=>run_sliceBound (P:=P) (w:=w) (code:=c) y x (show h<=cap by omega);cases k with
   |none=>obtain rfl:=g rfl;simp only[XB,Ar]at a;simp[a,p]
   |some v=>obtain⟨d,rfl,r⟩:=i v rfl;have n:=λc=>run_sliceBound (P:=P) (w:=w) (code:=c) r a s;simp[p,n]
 |some H=>
  obtain⟨I,rfl,G⟩:=z H rfl;have f:=F rfl;cases j with
  |none=>simp at f
  |some A=>
   obtain⟨B,rfl,y⟩:=o A rfl;have C:=λc=>run_sliceBound (P:=P) (w:=w) (code:=c) G D_ (show m<=cap by omega);have p:=λc=>run_sliceBound (P:=P) (w:=w) (code:=c) y x E_;simp only[Sem.run_bind,C,p,Result.andThen_ok,Option.isSome_some,if_true];cases k with
   |none=>obtain rfl:=g rfl;simp only[XB,Ar]at a;simp[a]
   |some v=>obtain⟨d,rfl,r⟩:=i v rfl;have n:=λc=>run_sliceBound (P:=P) (w:=w) (code:=c) r a s;simp[n]
theorem QB{P}(a:eI P b=Z (D,Y,N)):P.underlying b=Z (.slice Y)/\∃t,tI P Y=Z (t,N):=by unfold eI at a;split at a;simp_all;rename_i c d;cases f:tI P c<;>grind;cases a
theorem ADq{lo W p:Ω Ad}{Q O D_:Ω Value}(s:JT j h H d)(r:Bv (cx j h H d) k g)
  (N:∀k,lo=Z k->∃g,Q=Z g/\Bv (cx j h H d) k g) (J:lo=D->Q=D)
  (L:∀k,W=Z k->∃g,O=Z g/\Bv (cx j h H d) k g) (I:W=D->O=D) (T:∀k,p=Z k->∃g,D_=Z g/\Bv (cx j h H d) k g) (K:p=D->D_=D)
  (u:cZ P H b k lo W p=Z U):∃c',(Instr.sliceAt b g Q O D_).run P d=.ok c' d/\Bv (cx j h H d) U c':=by
 unfold cZ at u;split at u;rename_i s';split at u;rename_i l o t R;split at u;rename_i y;obtain⟨hk,h1,V⟩:=y;simp only[Ar]at u;subst u;obtain rfl:=K rfl;cases r with
 |str t' ht=>
  have n:θ s'=t'.size:=by rw[<-ht];simp
  rw[n]at R V;have y:=Zg (P:=P) (w:=d) (isSlice:=η) (len:=t'.size) (cap:=t'.size) (mx:=D) (cmx:=D) N J L I (λ_ h=>by cases h) (λ_=>rfl) t R rfl h1 V (Al _) (Al _) (λh=>by cases h);refine⟨.string (t'.extract l o),?_,.str _ ?_⟩;simp only[Instr.sliceAt,Instr.slice,Sem.run_bind,run_underlying (uz hk),Result.andThen_ok,Option.isSome_none,QK,if_false,y,Sem.run_pure];simp_all[wM]
 cases u;cases u;rename_i sz X;split at u;rename_i l o m e a4 t R em he;split at u;rename_i y;obtain⟨rfl,h1,V,h3,h4⟩:=y;obtain⟨C,c,A⟩:=QB he;cases r with
 | @vs sz X a cap f E_ Z_ ap ha a3=>
  have y:=Zg (P:=P) (w:=d) (isSlice:=E) (len:=θ X) (cap:=cap) N J L I T K t R em h1 V h3 E_ h4;have G:∀{v:Nat}{e:Ad},((X.drop l).take (o-l))[v]?=Z e->X[l+v]?=Z e:=k!
  have n:((X.drop l).take (o-l)).length=o-l:=w!
  refine⟨.slice (if(if p.isSome then m else cap)=l then a else a.map (·.add (l*sz))) (o-l) ((if p.isSome then m else cap)-l),?_,?_⟩;simp only[Instr.sliceAt,Instr.slice,Sem.run_bind,run_underlying C,Result.andThen_ok,y,Ln A,Sem.run_pure];have hM:o<=(if p.isSome then m else cap):=by split<;>omega
  have ad:p.isSome=E->(if p.isSome then m else cap)=m:=λq=>by rw[C! q]
  generalize (if p.isSome then m else cap)=M at hM ad;have z:Bv (cx j h H d) (.vs sz ((X.drop l).take (o-l))) (.slice (if M=l then a else a.map (·.add (l*sz))) ((X.drop l).take (o-l)).length (M-l)):=?_;rw[n]at z;cases p with
  |none=>simp only[Ar]at u;subst u;exact z
  |some vm=>
   simp only at u;split at u;rename_i a2;simp only[Ar]at u;subst u;have e:=ad rfl;rw[a2]at e;rw[e]at z⊢;have g1:Bv (cx j h H d) (.vs sz ((X.drop l).take (o-l))) (.slice (if o=l then a else a.map (·.add (l*sz))) ((X.drop l).take (o-l)).length ((X.drop l).take (o-l)).length):=by rw[n];exact z
   have g2:=Bv.vx g1;rw[n]at g2;exact g2;cases u
  refine .vs (λv i=>f (l+v) i) (by rw[n];omega) Z_ (λv e hj=>ap _ e (G hj)) (λa7=>?_) λv e i k hj W=>a3 _ e i k (G hj) W;have a6:l<o:=by rcases A0 l o with h5|h5;exact h5;simp_all[D8]
  obtain⟨B,x,rfl,hO,hB,hc⟩:=ha (by intro e;rw[e]at h3;simp at h3;omega);refine⟨B,x+l*sz,?_,hO,hB,λv e i k hj W=>?_⟩;grind[PK];have:=hc _ e i k (G hj) W;rw[D5]at this;rw[show x+l*sz+(v*sz+i)=x+(l*sz+v*sz+i)from by omega];exact this
 cases u;cases u;rename_i id w sz x len;split at u;rename_i l o m e a4 t R em he;split at u;rename_i y;obtain⟨rfl,Z_,h1,V,h3,al,h4⟩:=y;obtain⟨C,c,A⟩:=QB he;cases r with
 | @sl id w sz x len g Y hg a5 hc=>
  rcases hc (s.cur al)with⟨S,rfl,rfl,rfl⟩|⟨B,cap,S,E_,F,rfl⟩;have y:=Zg (P:=P) (w:=d) (isSlice:=E) (len:=0) (cap:=0) N J L I T K t R em h1 V h3 (Al _) h4;have a0:l=0:=o!
  have ax:o=0:=o!
  have a1:m=0:=o!
  subst a0 ax a1;simp only[if_true,Ar]at u;subst u;refine⟨.slice D 0 0,?_,.sl Y hg ⟨_,_,rfl⟩ λ_=>.inl ⟨S,rfl,rfl,rfl⟩⟩;simp only[Instr.sliceAt,Instr.slice,Sem.run_bind,run_underlying C,Result.andThen_ok,y,Ln A,Sem.run_pure];cases p<;>simp;have y:=Zg (P:=P) (w:=d) (isSlice:=E) (len:=len) (cap:=cap) N J L I T K t R em h1 V h3 E_ h4
  have ar:(Instr.sliceAt b (.slice (Z ⟨B,x,D⟩) len cap) Q O D_).run P d=
    .ok (.slice (if(if p.isSome then m else cap)=l then Z ⟨B,x,D⟩else(Z ⟨B,x,D⟩:Ω Addr).map (·.add (l*sz))) (o-l) ((if p.isSome then m else cap)-l)) d:=by
   simp only[Instr.sliceAt,Instr.slice,Sem.run_bind,run_underlying C,Result.andThen_ok,y,Ln A,Sem.run_pure]
  refine⟨_,ar,?_⟩;have hM:o<=(if p.isSome then m else cap)/\(if p.isSome then m else cap)<=cap:=by split<;>omega
  generalize (if p.isSome then m else cap)=M at hM;split at u;rename_i hl;subst hl;simp only[Ar]at u;subst u;refine .sl Y hg ⟨_,_,rfl⟩ λ_=>.inr ⟨B,M,S,hM.1,?_,?_⟩;exact Cl (Nat.add_le_add_left (NW _ hM.2) _) F;simp[PK];rename_i hl;split at u;rename_i ao;subst ao;simp only[Ar]at u;subst u;rw[G5];exact Bv.vs (rows:=[]) (λ_ _=>undef) (BV _) Z_ (λ_ _ h=>by simp at h) (λh=>(h rfl).elim) λ_ _ _ _ h=>by simp at h
  rename_i ao;simp only[Ar]at u;subst u;refine .sl Y hg ⟨_,_,rfl⟩ λ_=>.inr ⟨B,M-l,S,o!,?_,?_⟩;rw[WZ,<-D5];have:l+(M-l)=M:=o!
  rw[this];exact Cl (Nat.add_le_add_left (NW _ hM.2) _) F;rw[D! o!];simp[PK]
 cases u;cases u;split at u;rename_i e sz t R em he;split at u;rename_i h4;simp only[Ar]at u;subst u;obtain⟨C,c,A⟩:=QB he;cases r;have y:=Zg (P:=P) (w:=d) (isSlice:=E) (len:=0) (cap:=0) N J L I T K t R em (Al _) (Al _) (Al _) (Al _) h4;refine⟨.slice D 0 0,?_,.nils⟩;simp only[Instr.sliceAt,Instr.slice,Sem.run_bind,run_underlying C,Result.andThen_ok,y,Ln A,Sem.run_pure];cases p<;>simp;cases u;cases u;cases u
def Ad.solid:Ad->Bool
 |.any=>η
 |.tup _=>η
 |_=>E
def cells_one(h:g.oneCell'=E):g.cells= #[g]:=by cases g<;>first|rfl|(simp[Value.oneCell']at h;done)
theorem Xa(r:Bv q k g)(h:k.solid=E):Bv q (.agg k.cells) (.agg g.cells):=by
 have one:∀{u}{d},Bv q u d->d.oneCell'=E->d.cells= #[d]->u.cells=[u]->Bv q (.agg u.cells) (.agg d.cells):=by intro u d A v c z;rw[c,z];refine .agg rfl (λj g s=>?_) λj k g s l=>?_;grind;grind
 cases r with
 |agg o v p=>exact .agg o v p
 |any g=>simp[Ad.solid]at h
 |tup o p=>simp[Ad.solid]at h
 |ptr i m v l=>exact one (.ptr i m v l) v (cells_one v) rfl
 |sl i m v l=>obtain⟨a,cap,rfl⟩:=v;exact one (.sl i m ⟨a,cap,rfl⟩ l) rfl (cells_one rfl) rfl
 |bool b=>exact one (.bool b) rfl rfl rfl
 |int x n=>exact one (.int x n) rfl rfl rfl
 |str t y=>exact one (.str t y) rfl rfl rfl
 |nilp=>exact one .nilp rfl rfl rfl
 |vptr f a b g d=>exact one (.vptr f a b g d) rfl rfl rfl
 |nils=>exact one .nils rfl rfl rfl
 |vs f a b g d e=>exact one (.vs f a b g d e) rfl rfl rfl
 |vx r=>exact one (.vx r) rfl rfl rfl
 |fn a b g d=>exact one (.fn a b g d) rfl rfl rfl
 |yf i v l=>exact one (.yf i v l) v (cells_one v) rfl
 |mp i v l=>exact one (.mp i v l) v (cells_one v) rfl
 |itp i w v l=>exact one (.itp i w v l) v (cells_one v) rfl
 |nilf=>exact one .nilf rfl rfl rfl
def XZ(cs:Ψ Ad)(off:S)(vs:Ψ Ad):Ψ Ad:=cs.take off++vs++cs.drop (off+W vs)
theorem lu(h:N+W e<=W f):(XZ f N e).length=W f:=by grind[XZ]
theorem vV(h:N+W e<=W f)(j:S):(XZ f N e)[j]?=if N<=j/\j<N+W e then e[j-N]? else f[j]? :=by grind[XZ,List.getElem?_append_left]
inductive ah where
 |arr (sz:S)
 |str (l:List (S×S))
def ah.at_:ah->S->Ω (S×S)
 |.arr sz,i=>Z (i*sz,sz)
 |.str l,i=>l[i]?
def Zk(P:Program)(t:TypeId):Ω (Ψ Ad):=
 match (P.info? t).bind (·.zero)with
 |some z=>if z.cells.toList.all (·.oneCell')then Z (z.cells.toList.map sH)else D
 |none=>D
def vQ(P:Program)(t:TypeId):Ω ah:=
 match P.underlying t with
 |some (.struct fs)=>(fs.toList.mapM λf=>(P.info? f.type).map λi=>(f.offset,i.size)).map ah.str
 |some (.array _ e)=>(P.info? e).map λi=>ah.arr i.size
 |_=>D
def sL(p:ah):Ψ Ad->Ψ (S×Ad)->Ω (Ψ Ad)
 |cs,[]=>Z cs
 |cs,(i,v)::r=>
  match p.at_ i with
  |some (off,size)=>if v.solid=E/\W v.cells=size/\off+size<=W cs then sL p (XZ cs off v.cells) r else D
  |none=>D
def uG(P:Program)(t:TypeId)(parts:Ψ (S×Ad)):Ω Ad:=
 match Zk P t,vQ P t with
 |some z,Z p=>(sL p z parts).map Ad.agg
 |_,_=>D
theorem fb(x:Cx)(h:Zk P b=Z f):∃i v,P.info? b=Z i/\i.zero=Z v/\Bv x (.agg f) (.agg v.cells):=by
 unfold Zk at h;cases d:P.info? b with
 |none=>grind
 |some i=>
  cases t:i.zero with
  |none=>grind
  |some v=>rw[d]at h;simp only[AD,t]at h;split at h;rename_i a;simp at h;subst h;refine⟨i,v,rfl,t,.agg q! (λj c e=>?_) λj u c e z=>?_⟩;grind;grind[qf];cases h
theorem foldl_set(a:S):∀(l:Ψ Value)(k:S)(b:Array Value),a+k+W l≤b.size→
  ((l.zipIdx k).foldl (λb (p:Value×S)=>b.setIfInBounds (a+p.2) p.1) b).size=b.size/\∀j,((l.zipIdx k).foldl (λb (p:Value×S)=>b.setIfInBounds (a+p.2) p.1) b)[j]?=if a+k<=j/\j<a+k+W l then l[j-(a+k)]? else b[j]?
 |[],k,b,_=>by simp;intro j c d;omega
 |v::l,k,b,h=>by simp at h⊢;obtain⟨c,d⟩:=foldl_set a l (k+1) (b.setIfInBounds (a+k) v) w!;grind
theorem AFw{d:Array Value}{off:S}(r:Bv q (.agg e) (.agg u))(p:Bv q (.agg f) (.agg d))(h:off+W f≤W e)(a:Array Value)
  (x:a.size=u.size) (i:∀j,a[j]?=if off<=j/\j<off+d.size then d[j-off]? else u[j]?):Bv q (.agg (XZ e off f)) (.agg a):=by
 cases r with
 |agg m g t=>
  cases p with
  |agg n k o=>refine .agg (by rw[x,m,lu h]) (λj c l=>?_) λj v c l s=>?_;grind;grind[vV]
theorem wg{x}(p:ah):∀(b:Ψ (S×Ad))(a:Ψ (S×Value))f d(n:Ψ Ad),a.map (·.1)=b.map (·.1)→
  (∀(j:S)(q:S×Ad)(o:S×Value),b[j]?=Z q->a[j]?=Z o->Bv x q.2 o.2)->Bv x (.agg f) (.agg d)->sL p f b=Z n->
  ∃l,Instr.fill p.at_ d a=Z l/\Bv x (.agg n) (.agg l)
 |[],a,f,d,n,m,_,r,h=>by
  have:a=[]:=t!
  subst this;simp only[sL,Ar]at h;subst h;exact⟨d,rfl,r⟩
 |(i,v)::b,(i',c)::a,f,d,n,m,hr,r,h=>by
  simp at m;obtain⟨rfl,m⟩:=m;simp only[sL]at h;split at h;rename_i e size E_;split at h;rename_i u;obtain⟨g,rfl,s⟩:=u;have t:=Xa (hr 0 (i',v) (i',c) rfl rfl) g;have z:c.cells.size=W v.cells:=by cases t with|agg h _ _=>exact h
  have w:d.size=W f:=by cases r with|agg h _ _=>exact h
  have k:=foldl_set e c.cells.toList 0 d k!;have B:c.cells.zipIdx.foldl (λf (p:Value×S)=>f.setIfInBounds (e+p.2) p.1) d=(c.cells.toList.zipIdx 0).foldl (λf (p:Value×S)=>f.setIfInBounds (e+p.2) p.1) d:=by rw[<-Array.foldl_toList,Array.toList_zipIdx]
  have A:=AFw (off:=e) r t s ((c.cells.toList.zipIdx 0).foldl (λf (p:Value×S)=>f.setIfInBounds (e+p.2) p.1) d) k.1 (λj=>k!);obtain⟨l,C,D_⟩:=wg p b a _ _ n m (λj q o F y=>hr (j+1) q o k! k!) A h;grind[Instr.fill];cases h;cases h
theorem AC7{u:Ψ (S×Ad)}{a:Array (S×Value)}(E_:a.toList.map (·.1)=u.map (·.1))
  (hr:∀(j:S)(w:S×Ad)(A:S×Value),u[j]?=Z w->a.toList[j]?=Z A->Bv q w.2 A.2) (h:uG P b u=Z k):∃c,(Instr.build b a).run P d=.ok c d/\Bv q k c:=by
 unfold uG at h;split at h;rename_i z p F t;cases y:sL p z u with
 |none=>grind
 |some H=>
  rw[y]at h;simp at h;subst h;obtain⟨i,v,D_,x,G⟩:=fb q F;obtain⟨m,s,C⟩:=wg p u a.toList z v.cells H E_ hr G y;refine⟨.agg m,run_build d b a m ?_,C⟩;unfold Program.built;rw[D_];unfold vQ at t;split at t;rename_i B r;rw[r];cases o:B.toList.mapM (λf=>(P.info? f.type).map λi=>(f.offset,i.size))with
  |none=>grind
  |some l=>simp only[x,o];rw[<-s];congr 1;grind[ah.at_]
  rename_i n e r;rw[r];cases g:P.info? e with
  |none=>grind
  |some I=>rw[g]at t;simp at t;subst t;simp only[x,g];exact s
  cases t
 cases h
def Ch(P:Program)(env:Env)(H:Aw):Op->Ω Ad
 |.move x|.assign x=>Z (BR env x)
 |.pick c a b=>
  match BR env c with
  |.bool t=>Z (if t then BR env a else BR env b)
  |_=>D
 |.load t a=>jV P t H (BR env a)
 |.nilCheck x=>
  match BR env x with
  |.ptr id g off=>if UB H id g then Z (.ptr id g off)else D
  |.vptr cs=>Z (.vptr cs)
  |.fn (.func f) a b=>Z (.fn (.func f) a b)
  |_=>D
 |.binOp op t x y _=>zI P op t (BR env x) (BR env y)
 |.unOp op _ x=>unV op (BR env x)
 |.convert s d x=>X6 P H s d (BR env x)
 |.fieldAddr s x f=>Wn P H s f (BR env x)
 |.field s x f=>uZ P s f (BR env x)
 |.indexAddr t x i=>Ws P H t (BR env x) (BR env i)
 |.index t x i=>lY P t (BR env x) (BR env i)
 |.slice t x lo hi mx=>cZ P H t (BR env x) (lo.map (BR env)) (hi.map (BR env)) (mx.map (BR env))
 |.extract x i=>
  match BR env x with
  |.tup vs=>vs[i]?
  |_=>D
 |.makeFunc f a b=>Z (.fn f (a.toList.map (BR env)) (b.toList.map (BR env)))
 |.build t parts=>uG P t (parts.toList.map λp=>(p.1,BR env p.2))
 |.call {callee:=.builtin .len,args:=⟨[x]⟩,argTypes:=⟨[t]⟩}=>rE P H t (BR env x)
 |.call {callee:=.builtin .max,args:=⟨[x,y]⟩,.. }=>mmV E [BR env x,BR env y]
 |.call {callee:=.builtin .min,args:=⟨[x,y]⟩,.. }=>mmV η [BR env x,BR env y]
 |.call {callee:=.builtin .min,args:=⟨[x,y,z]⟩,.. }=>mm3 (BR env x) (BR env y) (BR env z)
 |_=>D
def ADg{P}{N}{X:Nat→Prop}{h}{env}{H}{a}{w}{o:Oper}{v:Ad}(s:St X h N env H a w)(b:Ch P env H o.op=Z v):
  ∃c,(execOp a.eval o).run P w=.ok (.value c) w/\Bv (cx X h H w) v c:=by
 have k:=λx=>DN s.env x;have d:∀{m:Sem Value},(∃c,m.run P w=.ok c w/\Bv (cx X h H w) v c)->∃c,(do pure (Next.value (<-m)):Sem Next).run P w=.ok (.value c) w/\Bv (cx X h H w) v c:=by rintro m ⟨c,u,hr⟩;exact⟨c,by simp[u],hr⟩
 unfold execOp;cases e:o.op with
 |move x=>rw[e]at b;simp only[Ch,Ar]at b;subst b;exact⟨_,rfl,k x⟩
 |assign x=>rw[e]at b;simp only[Ch,Ar]at b;subst b;exact⟨_,rfl,k x⟩
 |pick c x y=>rw[e]at b;simp only[Ch]at b;split at b;rename_i t ht;have u:=k c;rw[ht]at u;simp only[Ar]at b;subst b;generalize W:a.eval c=cv at u;cases u;simp only[W,asBool];cases t;exact⟨_,q!,k y⟩;exact⟨_,q!,k x⟩;cases b
 |load t x=>rw[e]at b;simp only[Ch]at b;obtain⟨B,ad,D_,E_,hl,hr⟩:=zr s.sim (k x) b;exact d ⟨D_,by rw[E_];simp[Instr.loadAt,Instr.sureAddr,hl],hr⟩
 |nilCheck x=>
  rw[e]at b;simp only[Ch]at b;have z:=k x;split at b;rename_i id g ad E_;rw[E_]at z;split at b;rename_i M;simp only[Ar]at b;subst b;generalize A:a.eval x=c at z;cases z with
  |ptr Y S n u=>obtain⟨B,al,rfl⟩:=u (s.sim.cur M);exact⟨_,by simp only[A];rfl,.ptr Y S n u⟩
  cases b;rename_i cs E_;rw[E_]at z;simp only[Ar]at b;subst b;generalize A:a.eval x=c at z;cases z with
  |vptr f n r U V=>exact⟨_,by simp only[A];rfl,.vptr f n r U V⟩
  rename_i f p q E_;rw[E_]at z;simp only[Ar]at b;subst b;generalize A:a.eval x=c at z;cases z with
  |fn n r U V=>exact⟨_,by simp only[A];rfl,.fn n r U V⟩
  cases b
 |binOp op t x y yt=>rw[e]at b;simp only[Ch]at b;exact d (AGj w (k x) (k y) b)
 |unOp op t x=>rw[e]at b;simp only[Ch]at b;exact d (AJm w (k x) b)
 |convert p q x=>rw[e]at b;simp only[Ch]at b;exact d (AEm s.sim (k x) b)
 |fieldAddr p x f=>rw[e]at b;simp only[Ch]at b;exact d (vy s.sim (k x) b)
 |field p x f=>rw[e]at b;simp only[Ch]at b;exact d (ADL (k x) b)
 |indexAddr t x i=>rw[e]at b;simp only[Ch]at b;exact d (wD s.sim (k x) (k i) b)
 |index t x i=>rw[e]at b;simp only[Ch]at b;exact d (ADR (k x) (k i) b)
 |slice t x lo hi T=>
  rw[e]at b;simp only[Ch]at b;have G:∀(y:Ω Operand)(v:Ad),y.map (BR env)=Z v->∃c,y.map a.eval=Z c/\Bv (cx X h H w) v c:=by
   intro y v Q;cases y with
   |none=>cases Q
   |some y=>simp only[Bt,Ar]at Q;subst Q;exact⟨_,rfl,k y⟩
  have C:∀(y:Ω Operand),y.map (BR env)=D->y.map a.eval=D:=by
   intro y Q;cases y with
   |none=>rfl
   |some y=>cases Q
  exact d (ADq s.sim (k x) (G lo) (C lo) (G hi) (C hi) (G T) (C T) b)
 |extract x i=>
  rw[e]at b;simp only[Ch]at b;have z:=k x;split at b;rename_i vs E_;rw[E_]at z;generalize u:a.eval x=c at z;cases z with
  | @tup vs R hs Z_=>
   have ao:i<θ vs:=by rcases A0 i (θ vs) with r|r;exact r;rw[Ct r]at b;cases b
   have S:R[i]?=Z (R[i]' o!):=OR o!;refine d ⟨_,?_,Z_ i v _ b S⟩;simp only[Instr.extract,u,S];rfl
  cases b
 |makeFunc f p q=>
  rw[e]at b;simp only[Ch,Ar]at b;subst b;have L:∀(p:Array Operand)(j:Nat)(v:Ad)(c:Value),(p.toList.map (BR env))[j]?=Z v->(p.map a.eval)[j]?=Z c->Bv (cx X h H w) v c:=by
   intro p j v c J u;rw[CU,QJ]at J;rw[dC]at u;cases O:p[j]? with
   |none=>rw[O]at J;cases J
   |some y=>rw[O]at J u;simp only[Bt,Ar]at J u;subst J u;exact k y
  exact d ⟨_,rfl,.fn q! q! (L p) (L q)⟩
 |build t I=>
  rw[e]at b;simp only[Ch]at b;refine d (AC7 ?_ ?_ b);simp;intro j q q' K F;rw[CU,QJ]at K;rw[QJ,dC]at F;cases O:I[j]? with
  |none=>rw[O]at K;cases K
  |some y=>rw[O]at K F;simp only[Bt,Ar]at K F;subst K F;exact k y.2
 |call c=>
  rw[e]at b;simp only[Ch]at b;split at b<;>rename_i l<;>first
   |(cases b;done)
   |(cases l;done)
   |skip
  injection l with l;subst l;simp only[resolve,invoke,builtin,Sem.run_bind,Sem.run_pure,Result.andThen_ok,Q7,B4,Hj];obtain⟨D_,n,r⟩:=AHK (ty:=o.type) s.sim (k _) b;exact⟨D_,by rw[n];rfl,r⟩;injection l with l;subst l;simp only[resolve,invoke,builtin,Sem.run_bind,Sem.run_pure,Result.andThen_ok,Q7,B4,Hj];obtain⟨D_,n,r⟩:=AFL (P:=P) (w:=w) (mx:=E) (ts:=_) (ty:=o.type) (k _) (k _) b;exact⟨D_,by simp only[if_true]at n;rw[n];rfl,r⟩;injection l with l;subst l;simp only[resolve,invoke,builtin,Sem.run_bind,Sem.run_pure,Result.andThen_ok,Q7,B4,Hj];obtain⟨D_,n,r⟩:=AFL (P:=P) (w:=w) (mx:=η) (ts:=_) (ty:=o.type) (k _) (k _) b;exact⟨D_,by simp only[QK,if_false]at n;rw[n];rfl,r⟩;injection l with l;subst l;simp only[resolve,invoke,builtin,Sem.run_bind,Sem.run_pure,Result.andThen_ok,Q7,B4,Hj];obtain⟨D_,n,r⟩:=AHP (P:=P) (w:=w) (ts:=_) (ty:=o.type) (k _) (k _) (k _) b;exact⟨D_,by rw[n];rfl,r⟩
 |_=>rw[e]at b;simp[Ch]at b
def Du{P}{N}{H}{v:Ad}(b:Ch P m H o.op=Z v)(e:O v H):JS P N o m H O:=by apply C1 (by cases f:o.op<;>first|rfl|(rw[f]at b;simp[Ch]at b));intro X h a w s Q;obtain⟨c,d,hr⟩:=ADg s b;unfold Oper.wp;rw[d,Oper.upon_value];exact⟨c,v,h,H,rfl,e,hr,s.sim,G1.refl _ _ _⟩
section
variable {X:Nat->Prop}{h:Gh}{H:Aw}{w:World}
def Gh.at_(h:Gh)(id:S)(io:Ω S)(gen cap:S):Gh:=
 ⟨λi=>if i=id then io else h.io i,λi=>if i=id then gen else h.gen i,λi=>if i=id then cap else h.cap i⟩
def Holds(x:Cx)(cs:Ψ Ad)(arr:Array Value)(fz:S×S):Prop:=
 ∃f:S->Value,W cs<=arr.size/\(∀i,i<arr.size->(τ (fz.1<=i)&&τ (i<fz.2))=η)/\
  ∀(j:S)(v:Ad),cs[j]?=Z v->arr[j]?=Z (f j)/\(f j).oneCell'=E/\Bv x v (f j)
def Qn(r:Bv q (.agg f) (.agg u)):Holds q f u (0,0):=by
 cases r with
 |agg l h k=>
  refine⟨λj=>u.getD j undef,o!,λi _=>q!,λj v x=>?_⟩;have b:j<u.size:=by rcases A0 j (W f) with g|g;omega;rw[Ct g]at x;cases x
  have d:u[j]?=Z (u[j]):=OR b;have e:u.getD j undef=u[j]:=by simp[b]
  show u[j]?=Z (u.getD j undef)/\(u.getD j undef).oneCell'=E/\Bv q v (u.getD j undef);rw[e];exact⟨d,h j _ d,k j v _ x d⟩
def JT.of_ext'{i:Gh}{p:Aw}(s:JT X h H w)(V:G1 h H w i p d)
  (key:∀(id:Nat)(e:Fw),p[id]?=Z e->e≠.dead->(H[id]?=Z e/\i.gen id=h.gen id/\i.io id=h.io id/\i.cap id=h.cap id/\∀B,h.io id=Z B->d.heap[B]?=w.heap[B]?)\/((∃g K,e=.live g K/\AB0 (cx X i p d) id g K)\/(∃L,e=.lp L/\xY (cx X i p d) id L)\/(e.isB=E/\BAt i d id e)))
  (inj:∀(id x:Nat)(e W:Fw)(B:Nat),p[id]?=Z e->p[x]?=Z W->e≠.dead->W≠.dead->i.io id=Z B->i.io x=Z B->id=x):JT X i p d:=by
 have hl:=V.later X;refine⟨λB l=>⟨DH (s.out B l).1 V.size,λN=>?_⟩,λid g K I=>?_,λid L I=>?_,inj,λid e I l=>?_⟩;rcases V.fresh B N with N|N;exact(s.out B l).2 N;have:=(s.out B l).1;omega;rcases key id _ I q! with⟨c,y,q,M,z⟩|⟨Y,D_,e,hn⟩|⟨L,e,_⟩|⟨e,_⟩;obtain⟨T,J⟩:=s.live id g K c;refine⟨y.trans T,?_⟩;rcases J with⟨hn,rfl⟩|⟨B,C,T',P,f,A,R,G,U,S,o⟩;exact .inl ⟨q.trans hn,rfl⟩;refine .inr ⟨B,C,T',P,f,q.trans A,(z B A).trans R,G.trans M.symm,U,S,λj v hj=>?_⟩;obtain⟨p1,p2,p3⟩:=o j v hj;exact⟨p1,p2,p3.later hl⟩;injection e with a b;subst a b;exact hn;cases e;cases e;rcases key id _ I q! with⟨c,y,q,M,z⟩|⟨Y,D_,e,hn⟩|⟨L',e,hn⟩|⟨e,_⟩;obtain⟨T,B,r,A,R,u,E_,F,Q,h5,h6,Z_⟩:=s.lp id L c;exact⟨y.trans T,B,r,q.trans A,(z B A).trans R,u,E_,F,Q,h5,h6,λt v m=>⟨(Z_ t v m).1,(Z_ t v m).2.later hl⟩⟩;cases e;injection e with a;subst a;exact hn;cases e;rcases key id _ I (by rintro rfl;cases l)with⟨c,y,q,M,z⟩|⟨Y,D_,e,hn⟩|⟨L',e,hn⟩|⟨_,hn⟩;cases e with
 |mp k es=>obtain⟨B,O,u,E_,F,Q⟩:=s.bld id _ c l;exact⟨B,O,q.trans u,y.trans E_,(z B u).trans F,Q⟩
 |it n seen=>obtain⟨B,u,E_,F⟩:=s.bld id _ c l;exact⟨B,q.trans u,y.trans E_,by rw[M];exact(z B u).trans F⟩
 |_=>cases l
 subst e;cases l;subst e;cases l;exact hn
def JT.of_ext{a:Gh}{b:Aw}(s:JT X h H w)(m:G1 h H w a b d)
  (key:∀(id:S)(e:Fw),b[id]?=Z e->e≠.dead->(H[id]?=Z e/\a.gen id=h.gen id/\a.io id=h.io id/\a.cap id=h.cap id/\∀B,h.io id=Z B->d.heap[B]?=w.heap[B]?)\/((∃g j,e=.live g j/\AB0 (cx X a b d) id g j)\/∃L,e=.lp L/\xY (cx X a b d) id L))
  (inj:∀(id c:S)(e k:Fw)(B:S),b[id]?=Z e->b[c]?=Z k->e≠.dead->k≠.dead->a.io id=Z B->a.io c=Z B->id=c):JT X a b d:=
 s.of_ext' m (λi e l f=>(key i e l f).imp id λh=>h.imp id .inl) inj
def JQ{e:Fw}(a:(H++[A])[N]?=Z e):(N<W H/\H[N]?=Z e)\/(N=W H/\e=A):=by rcases RG N (W H) with b|rfl|c;rw[CY b]at a;exact .inl ⟨b,a⟩;rw[Cn (Al _),G5]at a;simp at a;exact .inr ⟨rfl,a.symm⟩;rw[Ct w!]at a;cases a
def Jv{e:Fw}(c:N<W H)(a:(H.set N A)[n]?=Z e):(n≠N/\H[n]?=Z e)\/(n=N/\e=A):=by by_cases b:n=N;subst b;rw[HE c]at a;simp at a;exact .inr ⟨rfl,a.symm⟩;rw[Dd (b ·.symm)]at a;exact .inl ⟨b,a⟩
def G1.push(o:Obj)(cap:S)(E_:Fw):
  G1 h H w (h.at_ (W H) (Z w.heap.size) 0 cap) (H++[E_]) {w with heap:=w.heap.push o}where
 os:=rfl
 tape:=rfl
 output:=rfl
 size:=q!
 keep B hB _:=by simp[UG,Bq hB]
 n:=q!
 gen id hid:=by simp[Gh.at_,Bq hid]
 same id hid _:=by simp[Gh.at_,Bq hid]
 fresh B ho:=by obtain⟨id,e,b,d,a⟩:=ho;rcases JQ b with⟨c,b⟩|⟨rfl,rfl⟩;exact .inl ⟨id,e,b,d,by simpa[Gh.at_,Bq c]using a⟩;simp[Gh.at_]at a;exact .inr o!
 loops B r hB:=⟨r,by have:=P4 hB;simp[UG,Bq this,hB]⟩
def JT.push_any(s:JT X h H w)(o:Obj)(cap:S)(E_:Fw)
  (t:E_≠.dead->((∃g l,E_=.live g l/\AB0 (cx X (h.at_ (W H) (Z w.heap.size) 0 cap) (H++[E_]) {w with heap:=w.heap.push o}) (W H) g l)\/∃L,E_=.lp L/\xY (cx X (h.at_ (W H) (Z w.heap.size) 0 cap) (H++[E_]) {w with heap:=w.heap.push o}) (W H) L)):
  JT X (h.at_ (W H) (Z w.heap.size) 0 cap) (H++[E_]) {w with heap:=w.heap.push o}:=by
 refine s.of_ext (G1.push o cap E_) (λid e f d=>?_) λid u e v B p q b c i j=>?_;rcases JQ f with⟨a,f⟩|⟨rfl,rfl⟩;refine .inl ⟨f,by simp[Gh.at_,Bq a],by simp[Gh.at_,Bq a],by simp[Gh.at_,Bq a],λB k=>?_⟩;have:=s.io_at f d k;simp[UG,Bq this];exact .inr (t d);rcases JQ p with⟨l1,m⟩|⟨rfl,_⟩<;>rcases JQ q with⟨l2,n⟩|⟨rfl,_⟩;exact s.inj _ _ _ _ B m n b c (by simpa[Gh.at_,Bq l1]using i) (by simpa[Gh.at_,Bq l2]using j);have r:=s.io_at m b (by simpa[Gh.at_,Bq l1]using i);simp[Gh.at_]at j;omega;have r:=s.io_at n c (by simpa[Gh.at_,Bq l2]using j);simp[Gh.at_]at i;omega;rfl
def JT.push(s:JT X h H w)(a:Array Value)(T:TypeId)(c:S×S)(g:List Ad)(i:Holds (cx X h H w) g a c):
  JT X (h.at_ (θ H) (δ w.heap.size) 0 a.size) (H++[.live 0 g]) {w with heap:=w.heap.push (.cells a T c)}:=by
 refine s.push_any _ _ _ λ_=>.inl ⟨0,g,rfl,?_⟩;obtain⟨f,e,d,b⟩:=i;refine⟨by simp[cx,Gh.at_],.inr ⟨w.heap.size,a,T,c,f,by simp[cx,Gh.at_],by show(w.heap.push (.cells a T c))[w.heap.size]?=_;simp,by simp[cx,Gh.at_],e,d,λj v k=>?_⟩⟩;obtain⟨l,m,n⟩:=b j v k;exact⟨l,m,n.later ((G1.push _ _ _).later X)⟩
def JT.upd(s:JT X h H w){id g g' B:Nat}{K cs':List Ad}{arr:Array Value}{T:TypeId}{fz:Nat×Nat}{w':World}(y:H[id]?=δ (Fw.live g K))(hg:g≤g')
  (z:g'=g->h.io id=δ B/\h.cap id=arr.size) (a:h.io id=δ B\/w.heap.size<=B) (hb:w'.heap[B]?=δ (.cells arr T fz)) (N:∀k,k<w.heap.size->k≠B->w'.heap[k]?=w.heap[k]?)
  (R:w'.os=w.os) (C:w'.tape=w.tape) (G:w'.output=w.output) (A:w.heap.size<=w'.heap.size) (hh:Holds (cx X h H w) cs' arr fz):
  JT X (h.at_ id (δ B) g' arr.size) (H.set id (.live g' cs')) w'/\G1 h H w (h.at_ id (δ B) g' arr.size) (H.set id (.live g' cs')) w':=by
 have q:id<θ H:=by rcases A0 id (θ H) with o|o;exact o;rw[Ct o]at y;cases y
 have u:h.gen id=g:=(s.live id g K y).1;have S:G1 h H w (h.at_ id (δ B) g' arr.size) (H.set id (.live g' cs')) w':=by refine⟨R,C,G,A,λk O hn=>?_,q!,λi n=>?_,λi n e=>?_,λk ho=>?_,λk r hr=>⟨r,?_⟩⟩;refine N k O λe=>?_;subst e;rcases a with a|a;exact hn ⟨id,_,y,q!,a⟩;omega;by_cases e:i=id;subst e;simp[Gh.at_,u,hg];simp[Gh.at_,e];by_cases Z_:i=id;subst Z_;simp only[Gh.at_,if_true]at e⊢;have:=z (e.trans u);exact⟨this.1.symm,this.2.symm⟩;simp[Gh.at_,Z_];obtain⟨i,d,t,b,o⟩:=ho;rcases Jv q t with⟨n,l⟩|⟨rfl,_⟩;exact .inl ⟨i,d,l,b,by simpa[Gh.at_,n]using o⟩;simp[Gh.at_]at o;subst o;rcases a with a|a;exact .inl ⟨i,_,y,q!,a⟩;exact .inr a;have Q:=P4 hr;refine(N k Q λe=>?_).trans hr;subst e;rcases a with a|a;rcases(s.live id g K y).2 with⟨hn,_⟩|⟨W,Y,T',ad,f',x,D_,_⟩;rw[show(cx X h H w).io id=h.io id from rfl,a]at hn;cases hn;rw[show(cx X h H w).io id=h.io id from rfl,a]at x;injection x with e;subst e;rw[show(cx X h H w).w.heap=w.heap from rfl,hr]at D_;cases D_;omega
 have hl:=S.later X;have c:∀{i:Nat}{d:Fw},i≠id->H[i]?=δ d->d≠.dead->h.io i=δ B->False:=by intro i d n t b m;rcases a with a|a;exact n (s.inj i id d _ B t y b q! m a);have:=s.io_at t b m;omega
 refine⟨s.of_ext S (λi d t b=>?_) (λi i' d L k t o E_ F I J=>?_),S⟩;rcases Jv q t with⟨n,l⟩|⟨rfl,rfl⟩;refine .inl ⟨l,by simp[Gh.at_,n],by simp[Gh.at_,n],by simp[Gh.at_,n],λW m=>N W (s.io_at l b m) λe=>?_⟩;subst e;exact c n l b m;obtain⟨f,P,M,p⟩:=hh;refine .inr (.inl ⟨g',cs',rfl,by simp[cx,Gh.at_],.inr ⟨B,arr,T,fz,f,by simp[cx,Gh.at_],hb,by simp[cx,Gh.at_],P,M,λj v hj=>?_⟩⟩);obtain⟨p1,p2,p3⟩:=p j v hj;exact⟨p1,p2,p3.later hl⟩;rcases Jv q t with⟨U,d⟩|⟨rfl,_⟩<;>rcases Jv q o with⟨V,L⟩|⟨rfl,_⟩;exact s.inj _ _ _ _ k d L E_ F (by simpa[Gh.at_,U]using I) (by simpa[Gh.at_,V]using J);simp[Gh.at_]at J;subst J;exact(c U d E_ (by simpa[Gh.at_,U]using I)).elim;simp[Gh.at_]at I;subst I;exact(c V L F (by simpa[Gh.at_,V]using J)).elim;rfl
end
def ADN{c:S×S}(h:d.heap[N]?=Z (.cells u b c))(a:S):d.frozen? ⟨N,a,D⟩=(τ (c.1<=a)&&τ (a<c.2)):=by unfold World.frozen?;rw[h]
def Vp{P:Program}{B off:S}{T:TypeId}{h:S×S}:∀(g:Ψ Value)(i:S)a(w:World),w.heap[B]?=Z (.cells a T h)→off+i+W g≤a.size→
  (∀j,j<a.size->(τ (h.1<=j)&&τ (j<h.2))=η)->(∀v∈g,v.oneCell'=E)->
  ∃d b,(storeCells ⟨B,off,D⟩ g i).run P w=.ok () d/\d.heap[B]?=Z (.cells b T h)/\b.size=a.size/\(∀j,b[j]?=if off+i<=j/\j<off+i+W g then g[j-(off+i)]? else a[j]?)/\(∀k,k≠B->d.heap[k]?=w.heap[k]?)/\d.os=w.os/\d.tape=w.tape/\d.output=w.output/\d.heap.size=w.heap.size
 |[],i,a,w,hb,_,_,_=>⟨w,a,rfl,hb,rfl,λj=>by rw[D! q!],λ_ _=>rfl,rfl,rfl,rfl,rfl⟩
 |v::g,i,a,w,hb,hle,hfz,h1=>by
  simp only[Bh]at hle;have o:w.cell? ⟨B,off+i,D⟩=Z (a[off+i]' o!):=by rw[QM (w:=w) hb];exact OR o!
  have p:w.frozen? ⟨B,off+i,D⟩=η:=by rw[ADN hb];exact hfz _ o!
  have c:(store ⟨B,off+i,D⟩ v).run P w=.ok () (w.setCell ⟨B,off+i,D⟩ v):=by rw[run_store P w _ v .plain (h1 v q!),o];simp[p]
  have l:(w.setCell ⟨B,off+i,D⟩ v).heap[B]?=Z (.cells (a.setIfInBounds (off+i) v) T h):=by simp[World.setCell,cq,hb]
  obtain⟨d,b,r,s,t,x,y,z,A,C,D_⟩:=Vp (P:=P) (off:=off) g (i+1) (a.setIfInBounds (off+i) v) (w.setCell ⟨B,off+i,D⟩ v) l w!
   (by simpa using hfz) (λu q=>h1 u (CZ _ q))
  refine⟨d,b,?_,s,by rw[t];simp,λj=>?_,λk n=>?_,z,A,C,by rw[D_];simp[World.setCell]⟩;simp only[storeCells,PK,Sem.run_bind,c,Result.andThen_ok];exact r;rw[x];by_cases m:j=off+i;subst m;rw[D! o!,C! q!,Array.getElem?_setIfInBounds_self_of_lt o!];simp;by_cases f:off+(i+1)<=j/\j<off+(i+1)+W g;rw[C! f,C! w!,show j-(off+i)=(j-(off+(i+1)))+1 from by omega];rfl;rw[D! f,D! w!,wK (m ·.symm)];rw[y k n];simp[World.setCell,cq,PP n]
section
variable {P:Program}{N:Nat}{o:Oper}{env:Env}{H:Aw}{K:Ad->Aw->Prop}
def JS.alloc(d:o.op=.alloc b)(g:Zk P b=Z f)(z:K (.ptr (W H) 0 0) (H++[.live 0 f])):JS P N o env H K:=by
 apply C1 (by rw[d];rfl);intro X h a w s Q;obtain⟨i,v,e,c,j⟩:=fb (cx X h H w) g;have t:(execOp a.eval o).run P w=.ok (.value (.pointer (Z ⟨w.heap.size,0,D⟩))) {w with heap:=w.heap.push (.cells v.cells b)}:=by unfold execOp;rw[d];simp[Instr.alloc,zeroValue,typeInfo,e,c,newVar,newRow]
 unfold Oper.wp;rw[t,Oper.upon_value];refine⟨_,_,_,_,rfl,z,?_,s.sim.push v.cells b (0,0) f (Qn j),G1.push _ _ _⟩;exact .ptr (by simp[cx]) (by simp[cx,Gh.at_]) rfl λ_=>⟨w.heap.size,by simp[cx,Gh.at_],rfl⟩
def JS.box(c:o.op=.box b p)(g:BR env p=k)(f:k.solid=E)(e:K (.ptr (W H) 0 0) (H++[.live 0 k.cells])):JS P N o env H K:=by
 apply C1 (by rw[c];rfl);intro X h a w s Q;have d:=DN s.env p;rw[g]at d;have i:=Xa d f;have t:(execOp a.eval o).run P w=.ok (.value (.pointer (Z ⟨w.heap.size,0,D⟩))) {w with heap:=w.heap.push (.cells (a.eval p).cells b)}:=by unfold execOp;rw[c];simp[Instr.box,newVar,newRow]
 unfold Oper.wp;rw[t,Oper.upon_value];refine⟨_,_,_,_,rfl,e,?_,s.sim.push _ b (0,0) k.cells (Qn i),G1.push _ _ _⟩;exact .ptr (by simp[cx]) (by simp[cx,Gh.at_]) rfl λ_=>⟨w.heap.size,by simp[cx,Gh.at_],rfl⟩
def JS.store{id g off:Nat}{v:Ad}{cs:Ψ Ad}{b:Bool}(ho:o.op=.store Y p a)(hx:BR env p=.ptr id g off)(hy:BR env a=v)(hs:v.solid=E)
  (he:H[id]?=Z (Fw.live g cs)) (ht:tI P Y=Z (b,θ v.cells)) (J:off+θ v.cells<=θ cs) (V:K .any (H.set id (.live g (XZ cs off v.cells)))):JS P N o env H K:=by
 apply C1 (by rw[ho];rfl);intro X h y w s Q;have Z_:=DN s.env p;rw[hx]at Z_;have t:=DN s.env a;rw[hy]at t;have rz:=Xa t hs;obtain⟨I,F⟩:=s.sim.live id g cs he;obtain⟨B,i,S⟩:∃B,h.io id=Z B/\y.eval p=.pointer (Z ⟨B,off,D⟩):=by
  generalize y.eval p=c at Z_;cases Z_ with
  |ptr al O h1 hc=>obtain⟨B,i,rfl⟩:=hc I;exact⟨B,i,rfl⟩
 rcases F with⟨hn,_⟩|⟨B',D_,T,R,f,z,hb,E_,ad,G,m⟩;rw[show(cx X h H w).io id=h.io id from rfl,i]at hn;cases hn;rw[show(cx X h H w).io id=h.io id from rfl,i]at z;injection z with e;subst e;generalize U:y.eval a=c at t rz;obtain⟨M,A,W⟩:c.cells.size=θ v.cells/\(∀(j:Nat)(d:Value),c.cells[j]?=Z d->d.oneCell'=E)/\(∀(j:Nat)(u:Ad)(d:Value),v.cells[j]?=Z u->c.cells[j]?=Z d->Bv (cx X h H w) u d):=by cases rz with|agg x q r=>exact⟨x,q,r⟩
 obtain⟨w',n,p1,p2,p3,p4,p5,p6,p7,p8,p9⟩:=Vp (P:=P) (off:=off) c.cells.toList 0 D_ w hb w! G (λd hd=>by obtain⟨j,C⟩:=DW hd;exact A j d (by simpa using C));have L:(execOp y.eval o).run P w=.ok .skip w':=by unfold execOp;rw[ho];simp only[S,U,Instr.storeAt,Instr.sureAddr,Sem.run_bind,Sem.run_pure,Result.andThen_ok,storeVar,Ln ht];rw[D! (by simp[M])];simp only[Result.andThen_ok,p1]
 have hh:Holds (cx X h H w) (XZ cs off v.cells) n R:=by
  refine⟨λj=>if off<=j/\j<off+θ v.cells then c.cells.getD (j-off) undef else f j,by rw[lu J];omega,by rw[p3];exact G,λj u C=>?_⟩;rw[vV J]at C;rw[p4];simp only[NV,Dy,M,QJ];split at C;rename_i l;rw[C! l,C! l];have hl:j-off<c.cells.size:=o!
  have O:c.cells[j-off]?=Z (c.cells[j-off]):=OR hl;have e:c.cells.getD (j-off) undef=c.cells[j-off]:=by simp[hl]
  rw[e];exact⟨O,A _ _ O,W _ u _ C O⟩;rename_i l;rw[D! l,D! l];exact m j u C
 obtain⟨q1,q2⟩:=s.sim.upd (g':=g) (B:=B) (arr:=n) (T:=T) (fz:=R) (w':=w') he (Al _) (λ_=>⟨i,by rw[p3];exact E_.symm⟩) (.inl i) p2 (λk _ V=>p5 k V) p6 p7 p8 (by rw[p9];exact Al _) hh;unfold Oper.wp;rw[L,Oper.upon_skip];exact⟨_,_,_,_,rfl,V,.any _,q1,q2⟩
end
section
variable {X:Nat->Prop}{h:Gh}{H:Aw}{w w':World}
def G1.grow(b:w'.os=w.os)(f:w'.tape=w.tape)(d:w'.output=w.output)(e:w.heap.size<=w'.heap.size)(c:∀k,k<w.heap.size->w'.heap[k]?=w.heap[k]?):G1 h H w h H w':=⟨b,f,d,e,λB a _=>c B a,Al _,λ_ _=>Al _,λ_ _ _=>⟨rfl,rfl⟩,λ_ h=>.inl h,λB r a=>⟨r,(c B (P4 a)).trans a⟩⟩
def JT.grow(s:JT X h H w)(c:w'.os=w.os)(i:w'.tape=w.tape)(f:w'.output=w.output)(g:w.heap.size<=w'.heap.size)(e:∀k,k<w.heap.size->w'.heap[k]?=w.heap[k]?):JT X h H w':=s.of_ext (G1.grow c i f g e) (λ_ _ d b=>.inl ⟨d,rfl,rfl,rfl,λB a=>e B (s.io_at d b a)⟩) s.inj
def G1.virt:G1 h H w (h.at_ (W H) D 0 0) (H++[.live 0 []]) w where
 os:=rfl
 tape:=rfl
 output:=rfl
 size:=Al _
 keep B _ _:=rfl
 n:=q!
 gen id hid:=by simp[Gh.at_,Bq hid]
 same id hid _:=by simp[Gh.at_,Bq hid]
 fresh B ho:=by obtain⟨id,e,b,d,a⟩:=ho;rcases JQ b with⟨c,b⟩|⟨rfl,rfl⟩;exact .inl ⟨id,e,b,d,by simpa[Gh.at_,Bq c]using a⟩;simp[Gh.at_]at a
 loops B r hB:=⟨r,hB⟩
theorem JT.virt(s:JT X h H w):JT X (h.at_ (W H) D 0 0) (H++[.live 0 []]) w:=by refine s.of_ext G1.virt (λid e f m=>?_) λid n e o B j k a b c d=>?_;rcases JQ f with⟨l,f⟩|⟨rfl,rfl⟩;grind[Gh.at_];exact .inr (.inl ⟨0,[],rfl,by simp[cx,Gh.at_],.inl ⟨by simp[cx,Gh.at_],rfl⟩⟩);rcases JQ j with⟨l1,g⟩|⟨rfl,_⟩<;>rcases JQ k with⟨l2,i⟩|⟨rfl,_⟩;exact s.inj _ _ _ _ B g i a b (by simpa[Gh.at_,Bq l1]using c) (by simpa[Gh.at_,Bq l2]using d);simp[Gh.at_]at d;simp[Gh.at_]at c;rfl
def JT.bump(s:JT X h H w){id g:S}{cs}(n:H[id]?=Z (Fw.live g cs))(hn:h.io id=D):
  JT X (h.at_ id D (g+1) (h.cap id)) (H.set id (.live (g+1) [])) w/\G1 h H w (h.at_ id D (g+1) (h.cap id)) (H.set id (.live (g+1) [])) w:=by
 have a:id<W H:=by rcases A0 id (W H) with b|b;exact b;rw[Ct b]at n;cases n
 have c:h.gen id=g:=(s.live id g cs n).1;have own:∀B,owned (h.at_ id D (g+1) (h.cap id)) (H.set id (.live (g+1) [])) B->owned h H B:=by rintro B ⟨i,e,j,l,b⟩;rcases Jv a j with⟨f,d⟩|⟨rfl,_⟩;exact⟨i,e,d,l,by simpa[Gh.at_,f]using b⟩;simp[Gh.at_]at b
 have u:G1 h H w (h.at_ id D (g+1) (h.cap id)) (H.set id (.live (g+1) [])) w:=by refine⟨rfl,rfl,rfl,Al _,λk A hn=>rfl,q!,λi f=>?_,λi f e=>?_,λB C=>.inl (own B C),λB r y=>⟨r,y⟩⟩;by_cases e:i=id;subst e;simp[Gh.at_,c];simp[Gh.at_,e];by_cases m:i=id;subst m;simp[Gh.at_,c]at e;simp[Gh.at_,m]
 refine⟨s.of_ext u (λi e j l=>?_) (λi F e m k j b o p q t=>?_),u⟩;rcases Jv a j with⟨f,d⟩|⟨rfl,rfl⟩;exact .inl ⟨d,by simp[Gh.at_,f],by simp[Gh.at_,f],by simp[Gh.at_,f],λB z=>rfl⟩;exact .inr (.inl ⟨g+1,[],rfl,by simp[cx,Gh.at_],.inl ⟨by simp[cx,Gh.at_],rfl⟩⟩);rcases Jv a j with⟨D_,v⟩|⟨rfl,_⟩<;>rcases Jv a b with⟨E_,x⟩|⟨rfl,_⟩;exact s.inj _ _ _ _ k v x o p (by simpa[Gh.at_,D_]using q) (by simpa[Gh.at_,E_]using t);simp[Gh.at_]at t;simp[Gh.at_]at q;rfl
end
def ID(H:Aw)(sz:S):Ad->Ω (S×Ψ Ad)
 |.vs sz' rows=>if sz=sz' then Z (W rows,rows.flatMap Ad.cells)else D
 |.sl id g sz' off len=>
  match H[id]? with
  |some (.live g' cs)=>if g=g'/\sz=sz'/\off+len*sz<=W cs then Z (len,(cs.drop off).take (len*sz))else D
  |_=>D
 |.nils=>Z (0,[])
 |_=>D
theorem Ir{P:Program}{X:Nat→Prop}{h}{H}{w}{v}{c}{sz m:Nat}{J:Ψ Ad}(s:JT X h H w)(r:Bv (cx X h H w) v c)(N:0<sz)(hr:ID H sz v=Z (m,J)):
  ∃a cap S,c=.slice a m cap/\θ J=m*sz/\nZ (cx X h H w) J S/\(∀u∈S,u.oneCell'=E)/\(Builtin.lenOf c).run P w=.ok m w/\(Builtin.firstCells sz m c).run P w=.ok S.toArray w:=by
 cases r with
 |nils=>simp only[ID,Ar,Eh]at hr;obtain⟨rfl,rfl⟩:=hr;exact⟨D,0,[],rfl,q!,⟨rfl,λ_ _ _ h=>by cases h⟩,(λ_ h=>by cases h),rfl,rfl⟩
 | @vs R b a cap f y Z_ D_ ha hv=>
  simp only[ID]at hr;split at hr;rename_i F;subst F;simp only[Ar,Eh]at hr;obtain⟨rfl,rfl⟩:=hr;have q:=rY D_;cases b with
  |nil=>refine⟨a,cap,[],rfl,q!,⟨rfl,λ_ _ _ h=>by cases h⟩,(λ_ h=>by cases h),rfl,?_⟩;cases a<;>simp[Builtin.firstCells,loadCells,loadCellsFrom]
  |cons e0 E_=>
   obtain⟨B,k,rfl,hO,hB,L⟩:=ha q!;generalize e0::E_=b at*;have K:∀j,j<θ b*sz->∃e v,b[j/sz]?=Z e/\e.cells[j%sz]?=Z v:=by intro j o;have F:j/sz<θ b:=(Nat.div_lt_iff_lt_mul N).2 o;have I:b[j/sz]?=Z (b[j/sz]):=Au F;grind[Nat.mod_lt,m?]
   refine⟨_,cap,(List.range (θ b*sz)).map λj=>f (j/sz) (j%sz),rfl,q,⟨by simp[q],λj v d o G=>?_⟩,λu O=>?_,rfl,?_⟩;grind[flat_get,Nat.lt_or_ge,u?,List.getElem?_range,Option.some.injEq];grind;have:=run_loadCells (P:=P) w ⟨B,k,D⟩ (θ b*sz) (λj=>f (j/sz) (j%sz)) λj o=>by obtain⟨e,v,I,Q⟩:=K j o;rw[PK];have V:=(L _ e _ v I Q).1;rw[Nat.div_add_mod' j sz]at V;exact V
   grind[Builtin.firstCells]
  cases hr
 | @sl id g R k len c ao hg F L=>
  simp only[ID]at hr;split at hr;rename_i g' l I;split at hr;rename_i x;obtain⟨rfl,rfl,ap⟩:=x;simp only[Ar,Eh]at hr;obtain⟨rfl,rfl⟩:=hr;obtain⟨A,z⟩:=s.live id g l I;rcases L A with⟨n,rfl,rfl,rfl⟩|⟨B,cap,n,y,M,rfl⟩;exact⟨D,0,[],rfl,q!,⟨q!,λ_ _ _ _ h=>by cases h⟩,(λ_ h=>by cases h),rfl,rfl⟩;rcases z with⟨hn,_⟩|⟨U,ad,T,fz,f,p,hb,W,Y,al,i⟩;rw[hn]at n;cases n;have:U=B:=by rw[n]at p;injection p with e;exact e.symm
  subst this;refine⟨_,cap,(List.range (len*sz)).map λj=>f (k+j),rfl,w!,⟨w!,λj v d o G=>?_⟩,λu O=>?_,rfl,?_⟩;have C:j<len*sz:=by grind[Nat.lt_or_ge,u?]
  rw[dA,C! C,KC]at o;rw[CU,Rq C]at G;simp only[Bt,Ar]at G;subst G;exact(i _ v o).2.2;simp only[Bs,IH]at O;obtain⟨j,o,rfl⟩:=O;have t:l[k+j]?=Z (l[k+j]' o!):=Au o!;exact(i _ _ t).2.1;have:=run_loadCells (P:=P) w ⟨U,k,D⟩ (len*sz) (λj=>f (k+j)) λj o=>by have t:l[k+j]?=Z (l[k+j]' o!):=Au o!;rw[PK,QM (w:=w) hb];exact(i _ _ t).1
  simpa[Builtin.firstCells]using this;cases hr;cases hr
 |_=>simp only[ID]at hr;cases hr
theorem ABR(a b:S)(h:b<a):Builtin.nextslicecap a b<=2*a+2048:=by grind[Builtin.nextslicecap,Builtin.growBy]
def Qh(P:Program)(e:TypeId):Bool:=
 match P.info? e with
 |some i=>decide (i.bytes<=1048576)&&(match i.zero with|some z=>decide (z.cells.size=i.size)|none=>η)
 |none=>η
section
variable {P:Program}{N:Nat}{o:Oper}{env:Env}{H:Aw}{K:Ad->Aw->Prop}
theorem Rl(h:Qh P b=E):∃i z,P.info? b=Z i/\i.bytes<=1048576/\i.zero=Z z/\z.cells.size=i.size:=by grind[Qh]
theorem jN(h:tI P b=Z (M,n))(a:P.info? b=Z V):V.size=n:=by unfold tI at h;grind
theorem JS.buildSlice{t e:TypeId}{len sz:Nat}{f:Array (Nat×Operand)}{W:Ψ Ad}(ho:o.op=.buildSlice t len f)(he:eI P t=Z (D,e,sz))(a0:0<sz)(a5:Qh P e=E)
  (C:f.toList.map (·.1)=List.range len) (a7:f.toList.map (BR env ·.2)=W) (O:∀v∈W,v.solid=E/\θ v.cells=sz) (L:len<=4096/\sz<=4096) (hk:K (.vs sz W) H):JS P N o env H K:=by
 apply C1 (by rw[ho];rfl);intro X h a w s Q;obtain⟨a1,b,hi⟩:=QB he;obtain⟨i,z,D_,_,hz,a8⟩:=Rl a5;have A:=jN hi D_;have V:θ W=len:=by have n:=E! θ C;grind[θ]
 let g:Ψ Value:=f.toList.map λp=>a.eval p.2;have U:θ g=len:=by grind[θ]
 have M:∀(j:Nat)(v:Ad)(c:Value),W[j]?=Z v->g[j]?=Z c->Bv (cx X h H w) (.agg v.cells) (.agg c.cells)/\θ v.cells=sz:=by
  intro j v c G Y;have hm:=O v (BO G);refine⟨?_,hm.2⟩;subst a7;simp only[g,CU]at G Y;cases Z_:f.toList[j]? with
  |none=>rw[Z_]at G;cases G
  |some p=>rw[Z_]at G Y;simp only[Bt,Ar]at G Y;subst G Y;exact Xa (DN s.env p.2) hm.1
 have y:∀c∈g,c.cells.size=sz:=by
  intro c Y;obtain⟨j,B⟩:=DW Y;have E_:j<θ W:=by grind[Nat.lt_or_ge,u?]
  obtain⟨n,r⟩:=M j _ c (Au E_) B;cases n<;>grind
 have R:(f.map λq=>(q.1,a.eval q.2)).toList=(g.zipIdx 0).map λx=>(x.2,x.1):=by
  apply JX;intro j;simp only[Array.toList_map,CU,List.getElem?_zipIdx,DZ,g];cases Z_:f.toList[j]? with
  |none=>rfl
  |some p=>
   have n:(f.toList.map (·.1))[j]?=Z p.1:=by rw[CU,Z_];rfl
   rw[C]at n;have E_:j<len:=by rcases A0 j len with r|r;exact r;rw[Ct (by simpa using r)]at n;cases n
   rw[Rq E_]at n;simp only[Ar]at n;simp[n]
 have a4:(g.flatMap λc=>c.cells.toList).length=len*sz:=by
  clear R;have:∀l:Ψ Value,(∀c∈l,c.cells.size=sz)->(l.flatMap λc=>c.cells.toList).length=θ l*sz:=by
   intro l;induction l with
   |nil=>simp
   |cons c l ih=>intro V;simp only[Ii,Aa,Dy,V c q!,ih (λd I=>V d (CZ _ I)),Bh,D5];omega
  rw[this g y,U]
 have al:∀(j:Nat)(c:Value)(q:Nat)(d:Value),g[j]?=Z c->c.cells[q]?=Z d->(g.flatMap λc=>c.cells.toList)[j*sz+q]?=Z d:=by
  have:∀(l:Ψ Value),(∀c∈l,c.cells.size=sz)->∀(j:Nat)(c:Value)(q:Nat)(d:Value),l[j]?=Z c->c.cells[q]?=Z d->(l.flatMap λc=>c.cells.toList)[j*sz+q]?=Z d:=by
   intro l;induction l with
   |nil=>intro _ j c q d B;simp at B
   |cons c0 l ih=>
    intro V j c q d B I;simp only[Ii];have h0:=V c0 q!;cases j with
    |zero=>simp at B;subst B;rw[Yu,DZ,CY (by rcases A0 q c0.cells.size with r|r;simpa using r;rw[uE r]at I;cases I)];simpa using I
    |succ j=>rw[Cn (by rw[Dy,h0,D5];omega),Dy,h0];rw[show(j+1)*sz+q-sz=j*sz+q from by rw[D5];omega];exact ih (λd I=>V d (CZ _ I)) j c q d (by simpa using B) I
  exact this g y
 have F:∃m:Array Value,(execOp a.eval o).run P w=.ok (.value (.slice (Z ⟨w.heap.size,0,D⟩) len len)) {w with heap:=w.heap.push (.cells m e)}/\m.toList=g.flatMap λc=>c.cells.toList:=by
  unfold execOp;rw[ho];by_cases h0:len=0;subst h0;have:g=[]:=D8 U;refine⟨#[],?_,by rw[this];rfl⟩;have Z_:f= #[]:=by have n:=E! θ C;simp at n;exact n
  simp[Instr.buildSlice,run_underlying a1,Ln hi,Z_,Instr.fill,newRow,show Array.range 0= #[]from rfl];refine⟨(g.flatMap λc=>c.cells.toList).toArray,?_,rfl⟩;have ap:¬len*i.size=0:=by rw[A];exact Nat.mul_ne_zero h0 o!
  have a6:¬len*i.size>2^24:=by rw[A];have:=nm L.1 L.2;omega
  have hf:=Go.Great.fill_whole (s:=sz) a0 g ((Array.range (len*i.size)).map (z.cells[· %z.cells.size]!)) y (by simp[U,A]);have:=run_buildSlice (P:=P) w t e len (f.map λq=>(q.1,a.eval q.2)) _ i z a1 D_ hz a6 ap (by rw[R,A]at*;exact hf);simp only[Sem.run_bind];rw[show(f.map λx=>match x with|(i,x)=>(i,a.eval x))=(f.map λq=>(q.1,a.eval q.2))from rfl,this];rfl
 obtain⟨m,F,ad⟩:=F;unfold Oper.wp;rw[F,Oper.upon_value];have ax:=s.sim.grow (w':={w with heap:=w.heap.push (.cells m e)}) rfl rfl rfl q! (λk hk=>by simp[UG,Bq hk]);have J:=G1.grow (h:=h) (H:=H) (w:=w) (w':={w with heap:=w.heap.push (.cells m e)}) rfl rfl rfl q! (λk hk=>by simp[UG,Bq hk]);refine⟨_,_,h,H,rfl,hk,?_,ax,J⟩;subst V;refine .vs (λj q=>((g.getD j undef).cells.getD q undef)) (Al _) a0 (λj v B=>(O v (BO B)).2) (λao=>⟨w.heap.size,0,rfl,?_,by simp[cx],λj v q u B hq=>?_⟩) λj v q u B hq=>?_;rintro(hX|ho);have:=(s.sim.out _ hX).1;omega;obtain⟨id,e1,n,ao,r⟩:=ho;have:=s.sim.io_at n ao r;omega;all_goals
  have E_:j<θ g:=by rcases A0 j (θ W) with r|r;omega;rw[Ct r]at B;cases B
  have S:g[j]?=Z (g[j]):=Au E_;have a3:g.getD j undef=g[j]:=by simp[Rp,S]
  obtain⟨r1,r2⟩:=M j v _ B S;rw[a3];cases r1 with
  |agg hs n G=>
   have ar:q<(g[j]).cells.size:=by rcases A0 q (θ v.cells) with r|r;omega;rw[Ct r]at hq;cases hq
   have T:(g[j]).cells[q]?=Z ((g[j]).cells[q]):=OR ar;have a2:(g[j]).cells.getD q undef=(g[j]).cells[q]:=by simp[ar]
   rw[a2];first
    |exact(G q u _ hq T).later (J.later X)
    |(refine⟨?_,n q _ T⟩
      have hb:(w.heap.push (.cells m e))[w.heap.size]?=Z (.cells m e (0,0)):=q!
      rw[DZ];show World.cell? {w with heap:=w.heap.push (.cells m e)} _=_;rw[QM (w:={w with heap:=w.heap.push (.cells m e)}) hb,<-QJ,ad];exact al j _ q _ S T)
end
section
variable {P:Program}
def Vq(z:Array Value)(n:S):(Builtin.zeroCells z n).size=n*z.size:=by simp[Builtin.zeroCells]
def fx{t ty e:TypeId}(i:P.underlying t=Z (.slice e))(j:P.info? e=Z V){base:Ω Addr}{n cap m:S}{w w':World}
  (d:(Builtin.lenOf g).run P w=.ok m w) (f:(Builtin.firstCells V.size m g).run P w=.ok v.toArray w) (c:n+m<=cap)
  (b:(match base with
   |some a=>storeCells (a.add (n*V.size)) v
   |none=>pure ():Sem Unit).run P w=.ok () w'):
  (Builtin.append_ #[t,t] ty #[.slice base n cap,g]).run P w=.ok (.slice base (n+m) cap) w':=by
 cases base<;>simp only at b<;>simp[Builtin.append_,run_underlying i,sizeOf,typeInfo,j,d,f,c,b];simp at b;exact b
def kL{t ty e:TypeId}(i:P.underlying t=Z (.slice e))(p:P.info? e=Z V)(r:V.zero=Z g)(l:V.bytes≤1048576){base:Ω Addr}{n cap m:S}{x:Value}{os j:Ψ Value}
  (f:(Builtin.lenOf x).run P d=.ok m d) (q:(Builtin.firstCells V.size n (.slice base n cap)).run P d.drew=.ok os.toArray d.drew) (hn:(Builtin.firstCells V.size m x).run P d.drew=.ok j.toArray d.drew)
  (b:cap<n+m) (h:n+m<=16777216):
  ∃a,n+m<=a/\(Builtin.append_ #[t,t] ty #[.slice base n cap,x]).run P d=.ok (.slice (Z ⟨d.heap.size,0,D⟩) (n+m) a) {d.drew with heap:=d.drew.heap.push (.cells (os.toArray++j.toArray++Builtin.zeroCells g.cells (a-(n+m))) e)}:=by
 have z:¬(Builtin.nextslicecap (n+m) cap*V.bytes>2^48):=by have s:=ABR (n+m) cap b;have u:Builtin.nextslicecap (n+m) cap*V.bytes<=33556480*1048576:=nm o! l;omega
 refine⟨(Question.appendCap (n+m) cap e).cut (d.tape d.drawn (.appendCap (n+m) cap e)),by simp[Question.cut],?_⟩;have k:IntKind.i64.max=9223372036854775807:=g!
 have c:¬((9223372036854775807:Int)<(n:Int)+(m:Int)/\V.bytes=0):=o!
 have o:(Question.appendCap (n+m) cap e).forced=η:=rfl;simp[Builtin.append_,sizeOf,typeInfo,zeroValue,run_underlying i,p,r,f,z,newRow,k];rw[D! o!,D! c,D! (by rw[o];simp),q];simp only[Result.andThen_ok];rw[hn];simp only[Result.andThen_ok,Result.ok.injEq];refine⟨rfl,?_⟩;rw[<-List.append_toArray,Array.append_assoc];rfl
end
section
variable {P:Program}{N:Nat}{o:Oper}{env:Env}{H:Aw}{K:Ad->Aw->Prop}
def Lm{t:Operand→Value}{c:World}(e:o.op=.call {callee:=.builtin .append,args:= #[p,a],argTypes:= #[b,b]})
  (h:(Builtin.append_ #[b,b] o.type #[t p,t a]).run P d=.ok g c):(execOp t o).run P d=.ok (.value g) c:=by
 unfold execOp;rw[e];simp only[resolve,invoke,builtin,Sem.run_bind,Sem.run_pure,Result.andThen_ok,Q7,B4,Hj];rw[h];rfl
def JT.drew{X:S->Prop}{h}{H}{w}(s:JT X h H w):JT X h H w.drew:=s.grow rfl rfl rfl (Al _) λ_ _=>rfl
def G1.drew{h}{H}{w}:G1 h H w h H w.drew:=G1.grow rfl rfl rfl (Al _) λ_ _=>rfl
def qy{as bs}{os a}{n:Array Value}(ra:nZ q as os)(g:nZ q bs a)(k:∀u∈os,u.oneCell'=E)(l:∀u∈a,u.oneCell'=E):
  Holds q (as++bs) (os.toArray++a.toArray++n) (0,0):=by
 refine⟨λj=>(os++a).getD j undef,?_,λi _=>q!,λj v d=>?_⟩;simp[ra.1,g.1];have f:j<(os++a).length:=by rcases A0 j (as++bs).length with b|b;simp[ra.1,g.1]at*;omega;rw[Ct b]at d;cases d
 have c:(os++a)[j]?=Z ((os++a)[j]):=Au f;have e:(os++a).getD j undef=(os++a)[j]:=by rw[Rp,c];rfl
 show _=Z ((os++a).getD j undef)/\((os++a).getD j undef).oneCell'=E/\Bv q v ((os++a).getD j undef);rw[e];refine⟨?_,?_,?_⟩;rw[Yv (by simpa using f),List.append_toArray,ff];exact c;have m:(os++a)[j]∈os++a:=F8 f;rcases Ak.1 m with h|h;exact k _ h;exact l _ h;rcases A0 j (W as) with b|b;rw[CY b]at d;rw[CY (by rw[ra.1];exact b)]at c;exact ra.2 j v _ d c;rw[Cn b]at d;rw[Cn (by rw[ra.1];exact b),ra.1]at c;exact g.2 _ v _ d c
theorem JS.append_nil{D_ T:Operand}{t e:TypeId}{sz m:Nat}{d:Ψ Ad}(I:o.op=.call {callee:=.builtin .append,args:= #[D_,T],argTypes:= #[t,t]})(he:eI P t=Z (D,e,sz))(v:0<sz)(J:Qh P e=E)
  (hs:BR env D_=.nils) (M:ID H sz (BR env T)=Z (m,d)) (V:m<=16777216) (U:K (.sl (θ H) 0 sz 0 m) (H++[.live 0 d])):JS P N o env H K:=by
 apply C1 (by rw[I];rfl);intro X h a w s Q;obtain⟨B,b,hi⟩:=QB he;obtain⟨i,z,f,G,hz,O⟩:=Rl J;have j:=jN hi f;have R:=DN s.env D_;rw[hs]at R;have y:a.eval D_=.slice D 0 0:=by generalize a.eval D_=c at R;cases R;rfl
 have S:=DN s.env T;unfold Oper.wp;rcases Ts m with W|W;subst W;obtain⟨Z_,x,E_,F,A,g,p,l,q⟩:=Ir (P:=P) s.sim S v M;have u:d=[]:=D8 o!;subst u;have L:E_=[]:=D8 g.1;subst L;have k:=fx (ty:=o.type) (base:=D) (n:=0) (cap:=0) (w':=w) B f l (by rw[j];exact q) o! rfl;rw[Lm I (by rw[y];exact k),Oper.upon_value];exact⟨_,_,_,_,rfl,U,.sl (by simp[cx]) k! ⟨_,_,rfl⟩ λ_=>.inl ⟨by simp[cx,Gh.at_],rfl,rfl,rfl⟩,s.sim.virt,G1.virt⟩;have Y:=s.sim.drew;obtain⟨Z_,x,E_,F,A,g,p,l,q⟩:=Ir (P:=P) Y (S.later (G1.drew.later X)) v M;obtain⟨_,_,_,_,_,_,_,r,_⟩:=Ir (P:=P) s.sim S v M;obtain⟨C,hC,k⟩:=kL (ty:=o.type) (base:=D) (n:=0) (cap:=0) (os:=[]) B f hz G r (by rfl) (by rw[j];exact q) o! o!;rw[Lm I (by rw[y];exact k),Oper.upon_value];have hh:Holds (cx X h H w.drew) d (#[]++E_.toArray++Builtin.zeroCells z.cells (C-(0+m))) (0,0):=qy (as:=[]) (os:=[]) ⟨rfl,λ_ _ _ h=>by cases h⟩ g (λ_ h=>by cases h) p;refine⟨_,_,_,_,rfl,U,?_,Y.push _ e (0,0) d hh,G1.drew.trans (G1.push _ _ _)⟩;rw[DZ];refine .sl (by simp[cx]) k! ⟨_,_,rfl⟩ λ_=>.inr ⟨w.heap.size,C,by simp[cx,Gh.at_],o!,?_,rfl⟩;have e1:θ E_=m*sz:=by rw[g.1,A]
 simp only[cx,Gh.at_,if_true,qE,Yp,Vq,O,j,e1];have:(C-(0+m))*sz+m*sz=C*sz:=by rw[<-D5];congr 1;omega
 grind
theorem Y4{O xx:Operand}{t e:TypeId}{sz m:Nat}{d l:Ψ Ad}(Z_:o.op=.call {callee:=.builtin .append,args:= #[O,xx],argTypes:= #[t,t]})(he:eI P t=Z (D,e,sz))(u:0<sz)(ad:Qh P e=E)
  (hs:BR env O=.vx sz d) (hx:ID H sz (BR env xx)=Z (m,l)) (J:θ d+m<=16777216) (V:m=0->K (.vs sz d) H) (hk:0<m->K (.sl (θ H) 0 sz 0 (θ d+m)) (H++[.live 0 (d.flatMap Ad.cells++l)])):JS P N o env H K:=by
 apply C1 (by rw[Z_];rfl);intro X h a w s Q;obtain⟨M,b,hi⟩:=QB he;obtain⟨i,z,g,T,hz,ao⟩:=Rl ad;have j:=jN hi g;have E_:=DN s.env O;rw[hs]at E_;have D_:ID H sz (.vs sz d)=Z (θ d,d.flatMap Ad.cells):=by simp[ID]
 obtain⟨f,G,rs⟩:∃f,a.eval O=.slice f (θ d) (θ d)/\Bv (cx X h H w) (.vs sz d) (.slice f (θ d) (θ d)):=by
  generalize a.eval O=c at E_;cases E_ with
  |vx r=>exact⟨_,rfl,r⟩
 have rx:=DN s.env xx;unfold Oper.wp;rcases Ts m with W|W;subst W;obtain⟨ax,F,R,S,L,k,v,I,x⟩:=Ir (P:=P) s.sim rx u hx;have A:l=[]:=D8 o!;subst A;have al:R=[]:=D8 k.1;subst al;have q:=fx (ty:=o.type) (base:=f) (n:=θ d) (cap:=θ d) (w':=w) M g I (by rw[j];exact x) o! (by cases f<;>rfl);rw[Lm Z_ (by rw[G];exact q),Oper.upon_value];exact⟨_,_,_,_,rfl,V rfl,rs,s.sim,G1.refl _ _ _⟩;have sd:=s.sim.drew;obtain⟨ax,F,R,S,L,k,v,_,x⟩:=Ir (P:=P) sd (rx.later (G1.drew.later X)) u hx;obtain⟨_,_,_,_,_,_,_,y,_⟩:=Ir (P:=P) s.sim rx u hx;obtain⟨_,_,os,_,Y,p,B,_,U⟩:=Ir (P:=P) sd (rs.later (G1.drew.later X)) u D_;obtain⟨C,hC,q⟩:=kL (ty:=o.type) (base:=f) (n:=θ d) (cap:=θ d) (os:=os) M g hz T y (by rw[j];exact U) (by rw[j];exact x) o! J;rw[Lm Z_ (by rw[G];exact q),Oper.upon_value];have hh:Holds (cx X h H w.drew) (d.flatMap Ad.cells++l) (os.toArray++R.toArray++Builtin.zeroCells z.cells (C-(θ d+m))) (0,0):=qy p k B v;refine⟨_,_,_,_,rfl,hk W,?_,sd.push _ e (0,0) _ hh,G1.drew.trans (G1.push _ _ _)⟩;refine .sl (by simp[cx]) k! ⟨_,_,rfl⟩ λ_=>.inr ⟨w.heap.size,C,by simp[cx,Gh.at_],hC,?_,rfl⟩;have e1:θ R=m*sz:=by rw[k.1,L]
 have e2:θ os=θ d*sz:=by rw[p.1,Y]
 simp only[cx,Gh.at_,if_true,qE,Yp,Vq,ao,j,e1,e2];have:(C-(θ d+m))*sz+(θ d*sz+m*sz)=C*sz:=by rw[<-D5,<-D5];congr 1;omega
 grind
end
section
variable {X:Nat->Prop}{h:Gh}{H:Aw}{w:World}{N:Nat}{env env2:Env}
def Fa.trans{g}{l m n}{i j k}(a:Fa N g l i m j)(b:Fa N g m j n k):Fa N g l i n k:=⟨b.1,λX h d w s=>by obtain⟨o,u,e,r⟩:=a.2 X h d w s;obtain⟨p,v,f,t⟩:=b.2 X o d w u;exact⟨p,v,λid c=>⟨(f id c).1.trans (e id c).1,(f id c).2.1.trans (e id c).2.1,(f id c).2.2.trans (e id c).2.2⟩,λB q=>r B (t B q)⟩⟩
def Fa.of_le{n0 j:S}{i}{e}(a:Fa N j m H i e)(h:n0<=j):Fa N n0 m H i e:=⟨Cl h a.1,λX g b w s=>by obtain⟨l,n,k,f⟩:=a.2 X g b w s;exact⟨l,n,λid c=>k id (DH c h),f⟩⟩
def Fa.virt{t sz:S}(n:env.get t=.nils):Fa N (W H) env H (env.put t (.sl (W H) 0 sz 0 0)) (H++[.live 0 []]):=by
 refine⟨q!,λX g d w s=>⟨g.at_ (W H) D 0 0,⟨s.sim.virt,?_,s.size⟩,λid f=>by simp[Gh.at_,Bq f],λB l=>?_⟩⟩;have r:(t,Ad.nils)∈env:=by rcases OU (env:=env) (t:=t)with e|m;rw[n]at e;cases e;rw[n]at m;exact m
 have x:=G1.virt (h:=g) (H:=H) (w:=w);have a:=s.env.later (x.later X);intro u v m;unfold Env.put at m;rcases Av.1 m with e|m;injection e with o p;subst o p;obtain⟨q,k⟩:=s.env _ _ r;refine⟨q,?_⟩;generalize d.tmps.getD u undef=c at k;cases k;exact .sl (by simp[cx]) (by simp[cx,Gh.at_]) ⟨_,_,rfl⟩ λ_=>.inl ⟨by simp[cx,Gh.at_],rfl,rfl,rfl⟩;exact a u v (BQ.1 m).1;rcases(G1.virt (h:=g) (H:=H) (w:=w)).fresh B l with h|h;exact h;obtain⟨id,e,a,j,b⟩:=l;rcases JQ a with⟨i,a⟩|⟨rfl,rfl⟩;exact⟨id,e,a,j,by simpa[Gh.at_,Bq i]using b⟩;simp[Gh.at_]at b
end
def AB5(sz:S)(cs:Ψ Ad)(rows:Ψ Ad):Prop:=0<sz/\(∀e∈rows,W e.cells=sz)/\rows.flatMap Ad.cells=cs
theorem pK{sz:S}:∀{a:Ψ Ad},(∀e∈a,W e.cells=sz)->∀(j:S)(e:Ad)(i:S)(v:Ad),a[j]?=Z e->e.cells[i]?=Z v->(a.flatMap Ad.cells)[j*sz+i]?=Z v
 |e0::r,h,j,e,i,v,hj,hi=>by
  have b:=h e0 q!;simp;cases j with
  |zero=>grind
  |succ j=>rw[Cn k!,b,show(j+1)*sz+i-sz=j*sz+i from by grind];exact pK (λe c=>h e (CZ _ c)) j e i v k! hi
def Bv.froze{id g sz n:Nat}{c:Value}(s:JT j h H d)(P:H[id]?=Z (Fw.live g f))(hr:AB5 sz f e)(hn:θ e=n)
  (R:(cx j h H d).Later q) (I:q.w=d) (M:∀B,h.io id=Z B->¬q.O B) (r:Bv (cx j h H d) (.sl id g sz 0 n) c):Bv q (.vs sz e) c:=by
 obtain⟨x,k,rfl⟩:=hr;obtain⟨t,o⟩:=s.live id g _ P;cases r with
 |sl p F Y N=>
  rcases N t with⟨a,U,_,rfl⟩|⟨B,cap,a,m,C,rfl⟩;have:e=[]:=D8 o!;subst this;exact Bv.vs (rows:=[]) (cap:=0) (λ_ _=>undef) (Al _) x (λ_ _ h=>by simp at h) (λh=>(h rfl).elim) λ_ _ _ _ h=>by simp at h
  rcases o with⟨E_,_⟩|⟨z,J,T,W,y,l,G,A,S,Q,b⟩;rw[E_]at a;cases a;have:z=B:=by rw[a]at l;injection l with X;exact X.symm
  subst this;subst hn;refine .vs (λw i=>y (w*sz+i)) m x (λw X u=>k X (BO u)) (λV=>⟨z,0,rfl,M z a,?_,λw X i v u D_=>?_⟩) λw X i v u D_=>?_;rw[I];exact P4 G;obtain⟨K,L,_⟩:=b _ v (pK k w X i v u D_);rw[DZ,I,QM (w:=d) G];exact⟨K,L⟩;exact(b _ v (pK k w X i v u D_)).2.2.later R
section
variable {X:Nat->Prop}{h:Gh}{H:Aw}{w:World}
theorem fX(b:(H.take N)[n]?=Z A):n<N/\H[n]?=Z A:=k!
def jF{n0 B}(d:owned h (H.take n0) B):owned h H B:=by obtain⟨id,e,c,b,a⟩:=d;exact⟨id,e,(fX c).2,b,a⟩
def Bv.trunc(hn:N<=W H)(r:Bv (cx X h H w) k g)(d:(k.idsAll λid=>decide (id<N))=E):Bv (cx X h (H.take N) w) k g:=by have:=Bv.ren (x:=cx X h H w) (y:=cx X h (H.take N) w) (ρ:=λi=>i) (p:=λid=>decide (id<N)) (λi e _=>⟨by simp[cx]at*;omega,rfl,rfl,rfl⟩) rfl (λB b=>by rcases b with b|b;exact .inl b;exact .inr (jF b)) r d;rwa [ABh (p:=λid=>decide (id<N)) (λ_ _=>rfl) k d]at this
theorem JT.trunc(s:JT X h H w)(hn:N<=W H)(E_:∀e∈H.take N,(e.idsAll λid=>decide (id<N))=E):JT X h (H.take N) w:=by refine⟨λB D_=>⟨(s.out B D_).1,λO=>(s.out B D_).2 (jF O)⟩,λid g G c=>?_,λid L c=>?_,λid A e I B i k=>s.inj id A e I B (fX i).2 (fX k).2,s.bldKeep λid e c _=>⟨(fX c).2,rfl,rfl,rfl,λ_ _ _ _ _=>rfl⟩⟩;obtain⟨x,n⟩:=s.live id g G (fX c).2;refine⟨x,?_⟩;rcases n with⟨z,rfl⟩|⟨B,p,T,J,f,d,a,l,y,u,b⟩;exact .inl ⟨z,rfl⟩;refine .inr ⟨B,p,T,J,f,d,a,l,y,u,λj v F=>?_⟩;obtain⟨i,k,q⟩:=b j v F;exact⟨i,k,q.trunc hn (NP (by simpa[Fw.idsAll]using E_ _ (BO c)) F)⟩;obtain⟨x,B,r,d,a,i,k,q,K,M,o,C⟩:=s.lp id L (fX c).2;refine⟨x,B,r,d,a,i,k,q,K,M,o,λt v m=>⟨(C t v m).1,(C t v m).2.trunc hn ?_⟩⟩;have P:=E_ _ (BO c);grind[Fw.idsAll]
end
def Iq:Ψ Oper->Ψ S->Ψ S
 |[],acc=>acc
 |o::r,acc=>Iq r (acc++[o.after.toList.foldl (λs e=>if Region.binds .any e=E then s|||2^e.on|||acc.getD e.on 0 else s) 0])
def P1(m:Ψ S)(i j:S):Bool:=(m.getD j 0).testBit i
def wl{b:Ψ S}{i:S}:∀(l:Ψ Edge)s,(l.foldl (λs e=>if Region.binds .any e=E then s|||2^e.on|||b.getD e.on 0 else s) s).testBit i=E→
  s.testBit i=E\/∃e∈l,Region.binds .any e=E/\(e.on=i\/(b.getD e.on 0).testBit i=E)
 |[],s,h=>.inl h
 |e::l,s,h=>by simp only[Yd]at h;rcases wl l _ h with a|⟨f,d,c,g⟩;split at a;rename_i c;simp only[Nat.testBit_or,UH,Nat.testBit_two_pow]at a;rcases a with(a|a)|a;exact .inl a;exact .inr ⟨e,q!,c,.inl (by simpa using a)⟩;exact .inr ⟨e,q!,c,.inr a⟩;exact .inl a;exact .inr ⟨f,CZ _ d,c,g⟩
theorem Yf:∀l(a:Ψ S),(∀k,k<W a→(Iq l a)[k]?=a[k]?)∧
  ∀(p i:S)(o:Oper),l[p]?=Z o->P1 (Iq l a) i (W a+p)=E->∃e∈o.after.toList,Region.binds .any e=E/\(e.on=i\/(e.on<W a+p/\P1 (Iq l a) i e.on=E))
 |[],a=>⟨λ_ _=>rfl,λp i o h=>by simp at h⟩
 |o::l,a=>by
  simp only[Iq];generalize g:o.after.toList.foldl (λs e=>if Region.binds .any e=E then s|||2^e.on|||a.getD e.on 0 else s) 0=x;obtain⟨m,c⟩:=Yf l (a++[x]);refine⟨λk r=>?_,λp i j t b=>?_⟩;grind;cases p with
  |zero=>
   have f:(Iq l (a++[x])).getD (W a) 0=x:=k!
   simp only[P1,NV]at b;rw[f,<-g]at b;rcases wl _ _ b with d|⟨e,q,n,d⟩;grind;grind[P1]
  |succ p=>have:=c p i j k! k!;rw[show(a++[x]).length+p=W a+(p+1)from by simp;omega]at this;exact this
section
variable {ops:Array Oper}
def xU(ops:Array Oper)(L:Array Bool):Prop:=∀(j:S)(o:Oper),ops[j]?=Z o->L.getD j η=E->∀e∈o.after,Region.binds .any e=E->L.getD e.on η=E
def fR{L}(k:xU ops L){i}:∀(n j:S)(o:Oper),j<n->ops[j]?=Z o->(∀e∈o.after,Region.binds .any e=E->L.getD e.on η=E)->P1 (Iq ops.toList []) i j=E->L.getD i η=E
 |0,_,_,h,_,_,_=>o!
 |n+1,j,o,hj,ho,hp,hm=>by
  obtain⟨e,r,q,h⟩:=(Yf ops.toList []).2 j i o (by simpa using ho) (by simpa using hm);have a:=hp e (by simpa using r) q;rcases h with rfl|⟨g,c⟩;exact a;have l:e.on<j:=by simpa using g
  cases b:ops[e.on]? with
  |none=>have:P1 (Iq ops.toList []) i e.on=E:=c;obtain⟨s,_⟩:=cz.1 ho;rw[zC]at b;omega
  |some m=>exact fR k n e.on m o! b (λp f d=>k e.on m b a p f d) c
def tmpsOf(o:Oper):Ψ S:=o.op.operands.toList.filterMap λ|.tmp t=>Z t|_=>D
def aJ(P:Program)(N:S)(o:Oper)(env:Env)(H:Aw)(rd:Ψ S)(v:Ad):Prop:=
 ∀(env':Env)(H':Aw),(∀t∈tmpsOf o,env'.get t=env.get t)->(∀id∈rd,H'[id]?=H[id]?)->JS P N o env' H' λu H''=>u=v/\H''=H'
def Eff(P:Program)(N:S)(o:Oper)(env:Env)(H:Aw)(F:Ψ S)(K:Ad->Aw->Prop):Prop:=
 (∀env':Env,(∀t∈tmpsOf o,env'.get t=env.get t)->JS P N o env' H K)/\∀v H',K v H'->∀id,id<W H->id∉F->H'[id]?=H[id]?
def Ig(ops:Array Oper)(j:S):Bool:=
 match ops[j]? with
 |some o=>match o.op with|.alloc _=>E|_=>η
 |none=>η
def RA(P:Program)(N:S)(ops:Array Oper):Ψ S->Ψ (S×Ψ S)->Env->Aw->(Env->Aw->Prop)->Prop
 |[],_,env,H,Q=>Q env H
 |i::r,pend,env,H,Q=>
  match ops[i]? with
  |none=>False
  |some o=>
   Yl ops o.guard env
    ((Ig ops i=η/\∃v rd,aJ P N o env H rd v/\(∀id∈rd,id<W H)/\RA P N ops r ((i,rd)::pend) (env.putO o.dst v) H Q)\/
     (Ig ops i=η/\∃F,(∀j∈r,P1 (Iq ops.toList []) i j=E\/Ig ops j=E)/\(∀p∈pend,P1 (Iq ops.toList []) p.1 i=E\/∀id∈p.2,id∉F)/\
      ∃K,Eff P N o env H F K/\(∀v H',K v H'->W H<=W H')/\∀v H',K v H'->RA P N ops r pend (env.putO o.dst v) H' Q)\/
     ∃t z,o.op=.alloc t/\Zk P t=Z z/\(∀j∈r,P1 (Iq ops.toList []) i j=E\/Ig ops j=E)/\RA P N ops r pend (env.putO o.dst (.ptr (W H) 0 0)) (H++[.live 0 z]) Q)
    (Ig ops i=η/\RA P N ops r ((i,[])::pend) (env.putO o.dst (.tup [])) H Q)
def Wz(P:Program)(ops:Array Oper):Bool:=ops.toList.all λo=>match o.op with|.alloc t=>(Zk P t).isSome&&o.guard.isNone|_=>E
def V7(ops:Array Oper)(i:S):Ω S:=(ops[i]?).bind (·.dst)
def ACj(ops:Array Oper)(N:S)(l:Ψ S):Bool:=
 let m:=Iq ops.toList []
 let n:=ops.size
 PZ N ops.toList&&
 (decide l.Nodup&&((List.range n).all λi=>l.contains i)&&l.all (λi=>decide (i<n)))&&
 ((List.range n).all λi=>match ops[i]? with
  |some o=>(o.after.toList.all λe=>!Region.binds .any e||decide (e.on<i))&&
    (match o.guard with|some (j,_)=>P1 m j i&&τ (j<n)&&(V7 ops j).isSome|none=>E)&&
    (match o.dst with
     |some d=>(List.range n).all λj=>decide (j=i)||(match ops[j]? with
       |some o'=>! τ (o'.dst=Z d)&&(!(tmpsOf o').contains d||P1 m i j||P1 m j i)
       |none=>E)
     |none=>E)
  |none=>E)&&
 (l.zipIdx.all λ(i,p)=>l.zipIdx.all λ(j,q)=>! τ (p<q)|| !P1 m j i)
theorem GR(env:Env)(t u:S)(v:Ad):(env.put t v).get u=if u=t then v else env.get u:=by unfold Env.put;simp only[Env.get];by_cases h:t=u;grind;rw[D! h,D! (h ·.symm)];induction env<;>grind[Env.get]
def KN(env:Env):Prop:=∀t v,(t,v)∈env->env.get t=v
theorem KN.put(h:KN m)(t:S)(v:Ad):KN (m.put t v):=by
 intro u x c;rw[GR];rcases Av.1 c with e|c;grind;obtain⟨a,b⟩:=BQ.1 c;have:u≠t:=k!
 rw[D! this];exact h u x a
def KN.putO(h:KN m)(t:Ω S)(v:Ad):KN (m.putO t v):=by
 cases t with
 |none=>exact h
 |some t=>exact h.put t v
theorem eL:∀{env:Env},(env.map (·.1)).Nodup->KN env
 |[],_=>λ_ _ h=>by cases h
 |(k,w)::r,h=>by
  simp at h;intro t v m;simp only[Env.get];rcases Av.1 m with e|m;grind;have:k≠t:=k!
  rw[D! this];exact eL h.2 t v m
end
structure X2(ops:Array Oper)(N:S)(l:List S):Prop where
 dsts:PZ N ops.toList=true
 nodup:l.Nodup
 all:∀i,i<ops.size->i∈l
 lt:∀i∈l,i<ops.size
 back:∀(i:S)(o:Oper),ops[i]?=some o->∀e∈o.after,Region.binds .any e=true->e.on<i
 guard:∀(i:S)(o:Oper)(j:S)(b:Bool),ops[i]?=some o->o.guard=some (j,b)->P1 (Iq ops.toList []) j i=true/\j<ops.size/\∃d,V7 ops j=some d
 uniq:∀(i j d:S),V7 ops i=some d->V7 ops j=some d->i=j
 haz:∀(i j d:S)(o:Oper),V7 ops i=some d->ops[j]?=some o->d∈tmpsOf o->i≠j->P1 (Iq ops.toList []) i j=true\/P1 (Iq ops.toList []) j i=true
 ord:∀(l1 l2:List S),l=l1++l2->∀i∈l1,∀j∈l2,P1 (Iq ops.toList []) j i=false
theorem Y3(h:V7 I N=Z n):∃o,I[N]?=Z o/\o.dst=Z n:=by grind[V7]
theorem Wr{i:S}(h:I[i]?=Z o):i<I.size:=k!
theorem ABg(h:ACj I N s=E):X2 I N s:=by
 unfold ACj at h;simp only[Ba]at h;obtain⟨⟨⟨x,⟨y,M⟩,z⟩,A⟩,B⟩:=h;have a:∀(i:S)(o:Oper),I[i]?=Z o->_:=λi o f=>by have:=GL.1 A i (IH.2 (Wr f));rw[f]at this;simp only[Ba]at this;exact this
 refine⟨x,by simpa using y,λi c=>?_,λi c=>by simpa using List.all_eq_true.1 z i c,λi o f e E_ C=>?_,λi o j b f F=>?_,λi j d c k=>?_,λi j d o c k n G=>?_,λl1 l2 w i c j k=>?_⟩;simp_all;have:=GL.1 (a i o f).1.1 e (by simpa using E_);simpa[C]using this;have:=(a i o f).1.2;rw[F]at this;simp only[Ba,K!]at this;exact⟨this.1.1,this.1.2,fq.1 this.2⟩;obtain⟨o,f,n⟩:=Y3 c;obtain⟨O,m,r⟩:=Y3 k;have:=(a i o f).2;rw[n]at this;have:=GL.1 this j (IH.2 (Wr m));rw[m]at this;simp only[r,decide_true,Bn,qH,Bool.or_false,K!]at this;exact this.symm;obtain⟨L,u,l⟩:=Y3 c;have:=(a i L u).2;rw[l]at this;have:=GL.1 this j (IH.2 (Wr k));rw[k]at this;have D_:(tmpsOf o).contains d=E:=by simpa using n
 simp only[D_,Bn,Bool.false_or,UH,K!,Ba]at this;rcases this with h|⟨_,h⟩;omega;exact h;obtain⟨p,H⟩:=DW c;obtain⟨q,g⟩:=DW k;have v:p<W l1:=k!
 have J:(i,p)∈s.zipIdx:=by rw[uB];rw[w,CY v];exact H
 have K:(j,W l1+q)∈s.zipIdx:=by rw[uB];rw[w,Cn o!];simpa using g
 have:=GL.1 (GL.1 B _ J) _ K;have t:p<W l1+q:=o!
 simpa[t]using this
section
variable {P:Program}{N:Nat}{ops:Array Oper}{l:Ψ Nat}{Q:Env->Aw->Prop}{env0:Env}{X:Nat->Prop}{h0:Gh}{H0:Aw}{w0:World}{ds0:Ψ Deferred}
def Opd(ops:Array Oper)(env0:Env)(v:S->Ad)(i:S)(o:Oper)(ei:Env):Prop:=
 ∀t∈tmpsOf o,(∀k,k≠i->V7 ops k=Z t->P1 (Iq ops.toList []) k i=E->ei.get t=v k)/\
  ((∀k,k≠i->V7 ops k=Z t->P1 (Iq ops.toList []) k i=η)->ei.get t=env0.get t)
def U3(v:S->Ad)(o:Oper)(r:Bool):Prop:=
 match o.guard with
 |none=>r=E
 |some (j,want)=>(∃b,v j=.bool b/\r=(b==want))\/(v j=.tup []/\r=η)
def XR(X:S->Prop)(early:S->Ω S)(B:S):Prop:=X B\/∃i,early i=Z B
structure Inv(P:Program)(N:S)(ops:Array Oper)(l:List S)(Q:Env→Aw→Prop)(env0:Env)(X:S→Prop)(h0:Gh)(H0:Aw)(w0:World)(ds0:List Deferred)
  (l1 l2:List S) (v:S->Ad) (pend:List (S×List S)) (env:Env) (H:Aw) (h:Gh) (early:S->Option S) (L:Array Bool) (a:Act) (w:World):Prop where
 split:l=l1++l2
 ra:RA P N ops l2 pend env H Q
 kn:KN env
 keys:∀t u,(t,u)∈env->t<N
 env1:∀k∈l1,∀t,V7 ops k=some t->env.get t=v k
 env2:∀t,(∀k∈l1,V7 ops k≠some t)->env.get t=env0.get t
 sim:JT (XR X early) h H w
 nodefer:a.defers=ds0
 size:a.tmps.size=N
 slot1:∀k t,L.getD k false=true->early k=none->V7 ops k=some t->Bv (cx (XR X early) h H w) (v k) (a.tmps.getD t undef)
 slot2:∀t,(∀k,L.getD k false=true->V7 ops k≠some t)->Bv (cx (XR X early) h H w) (env0.get t) (a.tmps.getD t undef)
 sub:∀i,L.getD i false=true->early i=none->i∈l1
 lsz:L.size=ops.size
 closed:xU ops L
 pendq:∀i∈l1,L.getD i false=false->∃o,ops[i]?=some o/\Ig ops i=false/\((U3 v o false/\v i=.tup [])\/
  (U3 v o true/\∃rd ei,(i,rd)∈pend/\(∀id∈rd,id<H.length)/\KN ei/\(∀t u,(t,u)∈ei->t<N)/\Opd ops env0 v i o ei/\aJ P N o ei H rd (v i)))
 ext:G1 h0 H0 w0 h H w
 early1:∀i B,early i=some B->i∈l2/\L.getD i false=true/\w0.heap.size<=B/\B<w.heap.size/\∃(o:Oper)(t:TypeId)(z:List Ad)(arr:Array Value),ops[i]?=some o/\o.op=.alloc t/\Zk P t=some z/\
  w.heap[B]?=some (.cells arr t (0,0))/\Bv (cx (XR X early) h H w) (.agg z) (.agg arr)/\∀d,o.dst=some d->a.tmps.getD d undef=.pointer (some ⟨B,0,none⟩)
 early2:∀i j B,early i=some B->early j=some B->i=j
def look(o:Oper)(ei:Env):Env:=ei.filter λp=>(tmpsOf o).contains p.1
theorem zu(o:Oper)(a:Env):∀t∈tmpsOf o,(look o a).get t=a.get t:=by unfold look;induction a<;>grind[Env.get]
variable {l1 l2:Ψ Nat}{v:Nat->Ad}{pend:Ψ (Nat×Ψ Nat)}{env:Env}{H:Aw}{h:Gh}{early:Nat->Ω Nat}{L:Array Bool}{a:Act}{w:World}
def Inv.opd(ok:X2 ops N l)(I:Inv P N ops l Q env0 X h0 H0 w0 ds0 l1 l2 v pend env H h early L a w)(m:l2=n::s)(i:ops[n]?=Z o):Opd ops env0 v n o env:=by
 intro t u;have r:n∉l1:=by intro b;have:=ok.nodup;rw[I.split,m]at this;exact(RD.1 this).2.2 n b n q! rfl
 refine⟨λk q c g=>?_,λp=>?_⟩;refine I.env1 k ?_ t c;obtain⟨x,f,_⟩:=Y3 c;have b:=ok.all k (Wr f);rw[I.split,Ak]at b;rcases b with b|b;exact b;rw[m]at b;rcases Av.1 b with e|b;exact(q e).elim;have:=ok.ord (l1++[n]) s (by rw[I.split,m];simp) n q! k b;rw[g]at this;cases this;refine I.env2 t λk b c=>?_;have d:k≠n:=λe=>r (e▸b);rcases ok.haz k n t o c i u d with j|j;rw[p k d c]at j;cases j;have:=ok.ord l1 l2 I.split k b n (by rw[m];simp);rw[j]at this;cases this
def Inv.look(ok:X2 ops N l)(I:Inv P N ops l Q env0 X h0 H0 w0 ds0 l1 l2 v pend env H h early L a w)(y:ops[n]?=Z o)(p:L.getD n η=η)
  (J:∀e∈o.after,Region.binds .any e=E->L.getD e.on η=E) (x:∀k,P1 (Iq ops.toList []) k n=E->early k=D)  (kn:KN m) (G:∀t u,(t,u)∈m->t<N) (i:Opd ops env0 v n o m):PD (cx (XR X early) h H w) (look o m) a:=by
 intro t u q;obtain⟨B,K⟩:=BQ.1 q;have z:t∈tmpsOf o:=by simpa using K
 refine⟨by rw[I.size];exact G t u B,?_⟩;rw[<-kn t u B];obtain⟨D_,E_⟩:=i t z;by_cases A:∃k,k≠n/\V7 ops k=Z t/\P1 (Iq ops.toList []) k n=E;obtain⟨k,b,d,c⟩:=A;rw[D_ k b d c];exact I.slot1 k t (fR I.closed (n+1) n o o! y J c) (x k c) d;have g:∀k,k≠n->V7 ops k=Z t->P1 (Iq ops.toList []) k n=η:=by
  intro k b d;cases s:P1 (Iq ops.toList []) k n with
  |false=>rfl
  |true=>exact(A ⟨k,b,d,s⟩).elim
 rw[E_ g];refine I.slot2 t λk f d=>?_;by_cases b:k=n;subst b;rw[p]at f;cases f;rcases ok.haz k n t o d y z b with r|r;rw[g k b d]at r;cases r;obtain⟨C,j,_⟩:=Y3 d;have:=fR I.closed (k+1) k C o! j (λe F s=>I.closed k C j f e F s) r;rw[p]at this;cases this
theorem Inv.wanted(ok:X2 ops N l)(I:Inv P N ops l Q env0 X h0 H0 w0 ds0 l1 l2 v pend env H h early L a w)(y:ops[n]?=Z o)(s:∀k,P1 (Iq ops.toList []) k n=E→early k=D)
  (C:∀e∈o.after,Region.binds .any e=E->L.getD e.on η=E)  (u:U3 v o M):Region.wanted o (yielded ops a.tmps)=M:=by
 unfold U3 at u;unfold Region.wanted;cases x:o.guard with
 |none=>grind
 |some p=>
  obtain⟨j,want⟩:=p;rw[x]at u;obtain⟨f,F,d,i⟩:=ok.guard n o j want y x;have q:=fR I.closed (n+1) n o o! y C f;have hr:=I.slot1 j d q (s j f) i;have A:d<a.tmps.size:=by obtain⟨E_,B,z⟩:=Y3 i;have:=GL.1 ok.dsts E_ k!;grind[I.size]
  rcases u with⟨b,t,rfl⟩|⟨t,rfl⟩
  case inr=>
   rw[t]at hr;obtain⟨m,g⟩:∃m,a.tmps.getD d undef=.tuple m:=by generalize a.tmps.getD d undef=c at hr;cases hr;grind
   have D_:yielded ops a.tmps j=D:=by unfold yielded;rw[show(ops[j]?).bind (·.dst)=Z d from i];simp_all
   grind
  rw[t]at hr;have g:a.tmps.getD d undef=.bool b:=by generalize a.tmps.getD d undef=c at hr;cases hr;rfl
  have D_:yielded ops a.tmps j=Z b:=by unfold yielded;rw[show(ops[j]?).bind (·.dst)=Z d from i];simp_all
  grind
def Inv.noEarly(ok:X2 ops N l)(I:Inv P N ops l Q env0 X h0 H0 w0 ds0 l1 l2 v pend env H h early L a w)(d:n∈l1\/∃r,l2=n::r):∀k,P1 (Iq ops.toList []) k n=E->k≠n->early k=D:=by
 intro k c f;cases g:early k with
 |none=>rfl
 |some B=>have b:=(I.early1 k B g).1;rcases d with d|⟨r,rfl⟩;have:=ok.ord l1 l2 I.split n d k b;rw[c]at this;cases this;rcases Av.1 b with e|b;exact(f e).elim;have:=ok.ord (l1++[n]) r (by rw[I.split];simp) n q! k b;rw[c]at this;cases this
theorem HW{i:S}(a:i<L.size)(j:S):(L.setIfInBounds i E).getD j η=if j=i then E else L.getD j η:=by rw[RI,RI];grind
theorem TY(b:∀a,t=Z a->a<r.tmps.size)(a:S):(r.put t g).tmps.getD a undef=if t=Z a then g else r.tmps.getD a undef:=by
 cases t with
 |none=>simp[Act.put]
 |some t=>simp only[Act.put];rw[RI,RI];grind
theorem oB(f:xU ops L)(h:N<L.size)(l:ops[N]?=Z o)(m:∀e∈o.after,Region.binds .any e=E->L.getD e.on η=E):xU ops (L.setIfInBounds N E):=by intro j k c a e g d;rw[HW h]at a⊢;by_cases b:j=N;grind;rw[D! b]at a;rw[f j k c a e g d];simp
end
section
variable {P:Program}{N:Nat}{ops:Array Oper}{l:Ψ Nat}{Q:Env->Aw->Prop}{env0:Env}{X:Nat->Prop}{h0:Gh}{H0:Aw}{w0:World}{ds0:Ψ Deferred}
variable {l1 l2:Ψ Nat}{v:Nat->Ad}{pend:Ψ (Nat×Ψ Nat)}{env:Env}{H:Aw}{h:Gh}{early:Nat->Ω Nat}{L:Array Bool}{a:Act}{w:World}
theorem qi(ok:X2 ops N l)(a:ops[n]?=Z o):∀t,o.dst=Z t->t<N:=by have:=GL.1 ok.dsts o k!;grind
theorem GG(a:ops[N]?=Z o):V7 ops N=o.dst:=by grind[V7]
def Inv.done(ok:X2 ops N l)(I:Inv P N ops l Q env0 X h0 H0 w0 ds0 l1 l2 v pend env H h early L a w){i:Nat}(p:ops[i]?=δ o)(r:i∈l1)(ad:L.getD i η=η)
  (hp:∀e∈o.after,Region.binds .any e=ζ->L.getD e.on η=ζ)  {A:Gh}  (sim:JT (XR X early) A H d) (x:G1 h H w A H d) (hv:Bv (cx (XR X early) A H d) (v i) g):
  Inv P N ops l Q env0 X h0 H0 w0 ds0 l1 l2 v pend env H A early (L.setIfInBounds i ζ) (a.put o.dst g) d:=by
 have n:i<L.size:=by rw[I.lsz];exact Wr p
 have F:∀t,o.dst=δ t->t<a.tmps.size:=λt ht=>by rw[I.size];exact qi ok p t ht
 have O:=x.later (XR X early);have s:i∉l2:=by intro hm;have:=ok.nodup;rw[I.split]at this;exact(RD.1 this).2.2 i r i hm rfl
 refine{split:=I.split,ra:=I.ra,kn:=I.kn,keys:=I.keys,env1:=I.env1,env2:=I.env2,sim:=sim,nodefer:=?_,size:=(fT _ _ _).trans I.size,slot1:=λk t m M f=>?_,slot2:=λt y=>?_,sub:=λj G J=>?_,lsz:=by rw[qF];exact I.lsz,closed:=oB I.closed n p hp,pendq:=λk K c=>?_,ext:=I.ext.trans x,early1:=λk B m=>?_,early2:=I.early2};rw[show(a.put o.dst g).defers=a.defers by cases o.dst<;>rfl];exact I.nodefer;rw[TY F];rw[HW n]at m;by_cases b:k=i;subst b;rw[GG p]at f;rw[C! f];exact hv;rw[D! b]at m;rw[D! (λe=>b (ok.uniq k i t f (by rw[GG p];exact e)))];exact(I.slot1 k t m M f).later O;rw[TY F];have R:o.dst≠δ t:=by have:=y i (by rw[HW n,C! rfl]);rwa [GG p]at this
 rw[D! R];refine(I.slot2 t λk m=>y k ?_).later O;rw[HW n];split;rfl;exact m;rw[HW n]at G;by_cases u:j=i;subst u;exact r;rw[D! u]at G;exact I.sub j G J;rw[HW n]at c;by_cases b:k=i;subst b;simp at c;rw[D! b]at c;exact I.pendq k K c;obtain⟨S,V,W,T,o',t,z,D,U,Y,Z,e8,e9,E⟩:=I.early1 k B m;have b:k≠i:=λe=>s (e▸S);refine⟨S,by rw[HW n,D! b];exact V,W,DH T x.size,o',t,z,D,U,Y,Z,?_,e9.later O,λC q=>?_⟩;exact(x.keep B T (I.sim.out B (.inr ⟨k,m⟩)).2).trans e8;rw[TY F,D! (λe=>b (ok.uniq k i C (by rw[GG U];exact q) (by rw[GG p];exact e)))];exact E C q
def Inv.next(ok:X2 ops N l)(I:Inv P N ops l Q env0 X h0 H0 w0 ds0 l1 l2 v pend env H h early L a w){i:Nat}(hl:l2=i::s)(U:ops[i]?=Z o){pend':Ψ (Nat×Ψ Nat)}
  (F:Ig ops i=η) (bl:RA P N ops s pend' (env.putO o.dst k) H Q) (bb:∀p∈pend,p∈pend')
  (hq:(U3 v o η/\k=.tup [])\/(U3 v o E/\∃rd,(i,rd)∈pend'/\(∀id∈rd,id<θ H)/\aJ P N o env H rd k)):
  ∃S,Inv P N ops l Q env0 X h0 H0 w0 ds0 (l1++[i]) s S pend' (env.putO o.dst k) H h early L a w:=by
 have a0:=I.opd ok hl U;have ar:=ok.nodup;rw[I.split,hl]at ar;have Y:i∉l1:=λhm=>(RD.1 ar).2.2 i hm i q! rfl;have ao:early i=D:=by
  cases he:early i with
  |none=>rfl
  |some B=>obtain⟨_,_,_,_,o',t,z,bz,e5,e6,_⟩:=I.early1 i B he;unfold Ig at F;rw[e5]at F;simp only[e6]at F;cases F
 have bt:L.getD i η=η:=by
  cases O:L.getD i η with
  |false=>rfl
  |true=>exact(Y (I.sub i O ao)).elim
 let S:Nat->Ad:=λr=>if r=i then k else v r;have E_:∀r,r≠i->S r=v r:=λr f=>by simp[S,f]
 have a1:S i=k:=by simp[S]
 have T:∀t,(env.putO o.dst k).get t=if o.dst=Z t then k else env.get t:=by
  intro t;cases o.dst with
  |none=>simp[Env.putO]
  |some d=>simp only[Env.putO,GR,Ar];by_cases h:d=t;subst h;simp;rw[D! h,D! (h ·.symm)]
 have ad:P1 (Iq ops.toList []) i i=E->False:=by
  intro O;obtain⟨e,he,bG,J⟩:=(Yf ops.toList []).2 i i o (by simpa using U) (by simpa using O);have al:∀(n j r:Nat),j<n->P1 (Iq ops.toList []) r j=E->r<j:=by
   intro n;induction n with
   |zero=>intro j r h;omega
   |succ n ih=>
    intro j r hj O;cases Z_:ops[j]? with
    |none=>
     have bm:ops.size<=j:=zC.1 Z_;have ap:∀l M,(Iq l M).length=θ M+θ l:=by
      intro l;induction l with
      |nil=>intro M;rfl
      |cons o l ih=>intro M;simp only[Iq,ih];simp;omega
     have:(Iq ops.toList []).getD j 0=0:=by rw[Rp,Ct (by rw[ap];simpa using bm)];rfl
     unfold P1 at O;rw[this]at O;simp at O
    |some oj=>obtain⟨e,he,a3,y⟩:=(Yf ops.toList []).2 j r oj (by simpa using Z_) (by simpa using O);have bN:=ok.back j oj Z_ e (by simpa using he) a3;rcases y with y|⟨y,h3⟩;omega;have:=ih e.on r o! h3;omega
  have:=al (i+1) i i o! O;omega
 have a2:∀{r:Nat}{u:Oper}{ei},r∈l1->ops[r]?=Z u->Opd ops env0 v r u ei->Opd ops env0 S r u ei:=by intro r u ei a5 R a' t ht;obtain⟨c1,c2⟩:=a' t ht;refine⟨λq hq K A=>?_,c2⟩;rw[c1 q hq K A,E_];rintro rfl;have:=ok.ord l1 l2 I.split r a5 q (by rw[hl];simp);rw[A]at this;cases this
 have c:∀{o':Oper}{b},(∀j want,o'.guard=Z (j,want)->j≠i)->U3 v o' b->U3 S o' b:=by
  intro o' b a9 hw;unfold U3 at hw⊢;cases W:o'.guard with
  |none=>rw[W]at hw;exact hw
  |some p=>obtain⟨j,want⟩:=p;rw[W]at hw;simp only at hw⊢;rw[E_ j (a9 j want W)];exact hw
 refine⟨S,{split:=by rw[I.split,hl];simp,ra:=bl,kn:=I.kn.putO _ _,keys:=λt x m=>?_,env1:=λr f t K=>?_,env2:=λt ax=>?_,sim:=I.sim,nodefer:=I.nodefer,size:=I.size,slot1:=λr t f a7 K=>?_,slot2:=I.slot2,sub:=λj hj a4=>GU _ (I.sub j hj a4),lsz:=I.lsz,closed:=I.closed,pendq:=λr f a8=>?_,ext:=I.ext,early1:=λr B f=>?_,early2:=I.early2}⟩;cases G:o.dst with
 |none=>rw[G]at m;exact I.keys t x m
 |some d=>rw[G]at m;simp only[Env.putO,Env.put]at m;rcases Av.1 m with e|m;injection e with e1 _;subst e1;exact qi ok U t G;exact I.keys t x (BQ.1 m).1
 rw[T];rcases Ak.1 f with f|f;have C:r≠i:=λe=>Y (e▸f);rw[E_ r C,D! (λe=>C (ok.uniq r i t K (by rw[GG U];exact e)))];exact I.env1 r f t K;have:r=i:=by simpa using f
 subst this;rw[GG U]at K;rw[C! K,a1];rw[T];have J:o.dst≠Z t:=by have:=ax i q!;rwa [GG U]at this
 rw[D! J];exact I.env2 t λr f=>ax r (GU _ f);have C:r≠i:=by rintro rfl;rw[bt]at f;cases f
 rw[E_ r C];exact I.slot1 r t f a7 K;rcases Ak.1 f with D_|D_;have C:r≠i:=λe=>Y (e▸D_);obtain⟨u,R,a6,V⟩:=I.pendq r D_ a8;have g:∀j want,u.guard=Z (j,want)->j≠i:=by rintro j want W rfl;have:=(ok.guard r u j want R W).1;have y:=ok.ord l1 l2 I.split r D_ j (by rw[hl];simp);rw[this]at y;cases y
 refine⟨u,R,a6,?_⟩;rw[E_ r C];rcases V with⟨J,y⟩|⟨J,rd,ei,y,h3,h4,h5,h6,h7⟩;exact .inl ⟨c g J,y⟩;exact .inr ⟨c g J,rd,ei,bb _ y,h3,h4,h5,a2 D_ R h6,h7⟩;have:r=i:=by simpa using D_
 subst this;have g:∀j want,o.guard=Z (j,want)->j≠r:=by rintro j want W rfl;exact ad (ok.guard j o j want U W).1
 refine⟨o,U,F,?_⟩;rw[a1];rcases hq with⟨J,y⟩|⟨J,rd,y,h3,h4⟩;exact .inl ⟨c g J,y⟩;refine .inr ⟨c g J,rd,env,y,h3,I.kn,I.keys,λt ht=>?_,h4⟩;obtain⟨c1,c2⟩:=a0 t ht;exact⟨λq hq K A=>by rw[c1 q hq K A,E_ q hq],c2⟩;obtain⟨e1,e2⟩:=I.early1 r B f;rw[hl]at e1;rcases Av.1 e1 with e|e1;rw[e,ao]at f;cases f;exact⟨e1,e2⟩
def Inv.guardW(ok:X2 ops N l)(I:Inv P N ops l Q env0 X h0 H0 w0 ds0 l1 l2 v pend env H h early L a w)(F:l2=n::s)(C:ops[n]?=Z o){A B:Prop}(c:Yl ops o.guard env A B):
  (U3 v o E/\A)\/(U3 v o η/\B):=by
 unfold Yl at c;unfold U3;cases i:o.guard with
 |none=>rw[i]at c;exact .inl ⟨rfl,c⟩
 |some p=>
  obtain⟨j,want⟩:=p;rw[i]at c;simp only at c⊢;obtain⟨f,R,d,J⟩:=ok.guard n o j want C i;have E_:j∈l1:=by
   have g:=ok.all j R;rw[I.split,Ak]at g;rcases g with g|g;exact g;rw[F]at g;rcases Av.1 g with e|g;subst e;have G:=ok.back;exfalso;have z:=I.opd ok F C;obtain⟨e,K,O,U⟩:=(Yf ops.toList []).2 j j o (by simpa using C) (by simpa using f);have u:∀(r q k:Nat),q<r->q<=j->P1 (Iq ops.toList []) k q=E->k<q:=by
    intro r;induction r with
    |zero=>intro q k h;omega
    |succ r T=>
     intro q k V S t;have x:q<ops.size:=by have:=Wr C;omega
     obtain⟨e,K,D_,z⟩:=(Yf ops.toList []).2 q k ops[q] (by simp[x]) (by simpa using t);have G:=ok.back q ops[q] (by simp[x]) e (by simpa using K) D_;rcases z with z|⟨z,M⟩;omega;have:=T e.on k o! o! M;omega
   have:=u (j+1) j j o! (Al _) f;omega;have:=ok.ord (l1++[n]) s (by rw[I.split,F];simp) n q! j g;rw[f]at this;cases this
  have y:XT ops env j=v j:=by unfold XT;rw[show(ops[j]?).bind (·.dst)=Z d from J];exact I.env1 j E_ d J
  rw[y]at c;split at c;rename_i b t;by_cases m:b=want;exact .inl ⟨.inl ⟨b,t,by simp[m]⟩,c.1 m⟩;exact .inr ⟨.inl ⟨b,t,by simp[m]⟩,c.2 (by cases b<;>cases want<;>simp_all)⟩;rename_i t;exact .inr ⟨.inr ⟨t,P!⟩,c⟩;exact c.elim
end
section
variable {P:Program}{N:Nat}{ops:Array Oper}{l:Ψ Nat}{Q:Env->Aw->Prop}{env0:Env}{X:Nat->Prop}{h0:Gh}{H0:Aw}{w0:World}{ds0:Ψ Deferred}
theorem XU(a:ops[N]?=Z o):Ig ops N=E↔∃t,o.op=.alloc t:=by grind[Ig]
theorem fw(h:Wz P ops=E)(i:ops[N]?=Z o)(a:o.op=.alloc b):(∃z,Zk P b=Z z)/\o.guard=D:=by have:=GL.1 h o (by rw[Array.mem_toList_iff];exact wL i);rw[a]at this;simp at this;grind[Option.isSome_iff_exists]
def Inv.adopt(ok:X2 ops N l)(ha:Wz P ops=E)(hX:∀B,X B→B<w0.heap.size){l1:Ψ Nat}{v:Nat→Ad}{a6:Ψ (Nat×Ψ Nat)}{env:Env}{H:Aw}{h:Gh}{early:Nat→Ω Nat}{L:Array Bool}{a:Act}{w:World}
  {i:Nat}{r:Ψ Nat} (I:Inv P N ops l Q env0 X h0 H0 w0 ds0 l1 (i::r) v a6 env H h early L a w) {B:Nat} (hB:early i=Z B):
  ∃v' Z_ H' h' c,Inv P N ops l Q env0 X h0 H0 w0 ds0 (l1++[i]) r v' a6 Z_ H' h' c L a w:=by
 obtain⟨e1,e2,e3,e4,o,t,z,T,O,ao,hz,bG,b8,bm⟩:=I.early1 i B hB;have cm:Ig ops i=E:=(XU O).2 ⟨t,ao⟩;have hg:=(fw ha O ao).2;have a1:=I.ra;simp only[RA,O,hg,Yl,cm,Bool.true_eq_false,false_and,false_or]at a1;obtain⟨K,z',a4,cb,_,a1⟩:=a1;rw[ao]at a4;injection a4 with et;subst et;rw[hz]at cb;injection cb with ez;subst ez;have b7:=ok.nodup;rw[I.split]at b7;have b2:i∉l1:=λhm=>(RD.1 b7).2.2 i hm i q! rfl;let u:Ad:=.ptr (θ H) 0 0;let v':Nat->Ad:=λk=>if k=i then u else v k;have ar:∀k,k≠i->v' k=v k:=λk M=>by simp[v',M]
 have b':v' i=u:=by simp[v']
 let c:Nat->Ω Nat:=λk=>if k=i then D else early k;have V:∀k C,c k=Z C->k≠i/\early k=Z C:=by intro k C M;simp only[c]at M;split at M;cases M;exact⟨v!,M⟩
 have a2:∀t,(env.putO o.dst u).get t=if o.dst=Z t then u else env.get t:=by
  intro t;cases o.dst with
  |none=>simp[Env.putO]
  |some d=>simp only[Env.putO,GR,Ar];by_cases h:d=t;subst h;simp;rw[D! h,D! (h ·.symm)]
 have ce:∀{k:Nat}{J:Oper}{ei},k∈l1->ops[k]?=Z J->Opd ops env0 v k J ei->Opd ops env0 v' k J ei:=by intro k J ei a9 a0 ao t ht;obtain⟨c1,c2⟩:=ao t ht;refine⟨λq hq hd a5=>?_,c2⟩;rw[c1 q hq hd a5,ar];rintro rfl;have:=ok.ord l1 (q::r) I.split k a9 q q!;rw[a5]at this;cases this
 have S:∀{o':Oper}{b},(∀j want,o'.guard=Z (j,want)->j≠i)->U3 v o' b->U3 v' o' b:=by
  intro o' b bl hw;unfold U3 at hw⊢;cases hg:o'.guard with
  |none=>rw[hg]at hw;exact hw
  |some p=>obtain⟨j,want⟩:=p;rw[hg]at hw;simp only at hw⊢;rw[ar j (bl j want hg)];exact hw
 have ap:∀C,owned (h.at_ (θ H) (Z B) 0 T.size) (H++[.live 0 z]) C->owned h H C\/C=B:=by rintro C ⟨id,e,he,bl,R⟩;rcases JQ he with⟨s,he⟩|⟨rfl,rfl⟩;exact .inl ⟨id,e,he,bl,by simpa[Gh.at_,Bq s]using R⟩;simp[Gh.at_]at R;exact .inr R.symm
 have hl:(cx (XR X early) h H w).Later (cx (XR X c) (h.at_ (θ H) (Z B) 0 T.size) (H++[.live 0 z]) w):=by refine⟨Al _,λ_ _ _ _=>rfl,λC _ hO=>?_,by simp[cx],λid A=>by simp only[cx]at A;simp[cx,Gh.at_,Bq A],λid A _=>by simp only[cx]at A;simp[cx,Gh.at_,Bq A]⟩;rcases hO with(hO|⟨k,M⟩)|hO;exact .inl (.inl hO);exact .inl (.inr ⟨k,(V k C M).2⟩);rcases ap C hO with hO|rfl;exact .inr hO;exact .inl (.inr ⟨i,hB⟩)
 have b6:¬owned h H B:=(I.sim.out B (.inr ⟨i,hB⟩)).2;have b9:JT (XR X c) (h.at_ (θ H) (Z B) 0 T.size) (H++[.live 0 z]) w:=by
  refine⟨λC U=>?_,λid g cs he=>?_,λid L' he=>?_,λid cv e e' C h1 h2 b4 b5 h3 h4=>?_,I.sim.bldKeep λid e he hB=>?_⟩;have ca:XR X early C:=by rcases U with U|⟨k,M⟩;exact .inl U;exact .inr ⟨k,(V k C M).2⟩
  refine⟨(I.sim.out C ca).1,λO=>?_⟩;rcases ap C O with O|rfl;exact(I.sim.out C ca).2 O;rcases U with U|⟨k,M⟩;have:=hX C U;omega;obtain⟨k1,k2⟩:=V k C M;exact k1 (I.early2 k i C k2 hB);rcases JQ he with⟨s,al⟩|⟨rfl,e⟩;obtain⟨hg,b0⟩:=I.sim.live id g cs al;refine⟨by simpa[cx,Gh.at_,Bq s]using hg,?_⟩;rcases b0 with⟨hn,rfl⟩|⟨B1,Y,T',ci,f,R,hb,bN,bb,a8,D_⟩;exact .inl ⟨by simpa[cx,Gh.at_,Bq s]using hn,rfl⟩;refine .inr ⟨B1,Y,T',ci,f,by simpa[cx,Gh.at_,Bq s]using R,hb,by simpa[cx,Gh.at_,Bq s]using bN,bb,a8,λj v hj=>?_⟩;obtain⟨p1,p2,p3⟩:=D_ j v hj;exact⟨p1,p2,p3.later hl⟩;injection e with e1 e2;subst e1 e2;obtain⟨f,bb,a8,D_⟩:=Qn (b8.later hl);exact⟨by simp[cx,Gh.at_],.inr ⟨B,T,t,(0,0),f,by simp[cx,Gh.at_],bG,by simp[cx,Gh.at_],bb,a8,D_⟩⟩;rcases JQ he with⟨s,al⟩|⟨rfl,e⟩;obtain⟨hg,B1,r1,R,hb,p1,p2,p3,p4,p5,p6,p7⟩:=I.sim.lp id L' al;exact⟨by simpa[cx,Gh.at_,Bq s]using hg,B1,r1,by simpa[cx,Gh.at_,Bq s]using R,hb,p1,p2,p3,p4,p5,p6,λt v m=>⟨(p7 t v m).1,(p7 t v m).2.later hl⟩⟩;cases e;rcases JQ h1 with⟨cc,bt⟩|⟨rfl,_⟩<;>rcases JQ h2 with⟨cd,bz⟩|⟨rfl,_⟩;exact I.sim.inj _ _ _ _ C bt bz b4 b5 (by simpa[Gh.at_,Bq cc]using h3) (by simpa[Gh.at_,Bq cd]using h4);simp[Gh.at_]at h4;subst h4;exact(b6 ⟨id,e,bt,b4,by simpa[Gh.at_,Bq cc]using h3⟩).elim;simp[Gh.at_]at h3;subst h3;exact(b6 ⟨cv,e',bz,b5,by simpa[Gh.at_,Bq cd]using h4⟩).elim;rfl;rcases JQ he with⟨s,al⟩|⟨rfl,e⟩;exact⟨al,by simp[Gh.at_,Bq s],by simp[Gh.at_,Bq s],by simp[Gh.at_,Bq s],λ_ _ _ _ _=>rfl⟩;subst e;cases hB
 have b1:G1 h0 H0 w0 (h.at_ (θ H) (Z B) 0 T.size) (H++[.live 0 z]) w:=by have x:=I.ext;refine⟨x.os,x.tape,x.output,x.size,x.keep,by have:=x.n;simp;omega,λid A=>?_,λid A e=>?_,λC O=>?_,x.loops⟩;have s:id<θ H:=DH A x.n;simpa[Gh.at_,Bq s]using x.gen id A;have s:id<θ H:=DH A x.n;have:=x.same id A (by simpa[Gh.at_,Bq s]using e);simpa[Gh.at_,Bq s]using this;rcases ap C O with O|rfl;exact x.fresh C O;exact .inr e3
 refine⟨v',env.putO o.dst u,H++[.live 0 z],h.at_ (θ H) (Z B) 0 T.size,c,?_⟩;refine{split:=by rw[I.split];simp,ra:=a1,kn:=I.kn.putO _ _,keys:=λK y m=>?_,env1:=λk F K E_=>?_,env2:=λK ax=>?_,sim:=b9,nodefer:=I.nodefer,size:=I.size,slot1:=λk K F ct E_=>?_,slot2:=λK ax=>(I.slot2 K ax).later hl,sub:=λj hj cn=>?_,lsz:=I.lsz,closed:=I.closed,pendq:=λk a9 a'=>?_,ext:=b1,early1:=λk C M=>?_,early2:=λk j C h1 h2=>I.early2 k j C (V k C h1).2 (V j C h2).2};cases ad:o.dst with
 |none=>rw[ad]at m;exact I.keys K y m
 |some d=>rw[ad]at m;simp only[Env.putO,Env.put]at m;rcases Av.1 m with e|m;injection e with e1 _;subst e1;exact qi ok O K ad;exact I.keys K y (BQ.1 m).1
 rw[a2];rcases Ak.1 F with F|F;have G:k≠i:=λe=>b2 (e▸F);rw[ar k G,D! (λe=>G (ok.uniq k i K E_ (by rw[GG O];exact e)))];exact I.env1 k F K E_;have:k=i:=by simpa using F
 subst this;rw[GG O]at E_;rw[C! E_,b'];rw[a2];have h1:o.dst≠Z K:=by have:=ax i q!;rwa [GG O]at this
 rw[D! h1];exact I.env2 K λk M=>ax k (GU _ M);by_cases G:k=i;subst G;rw[GG O]at E_;rw[b',bm K E_];exact .ptr (by simp[cx]) (by simp[cx,Gh.at_]) rfl λ_=>⟨B,by simp[cx,Gh.at_],rfl⟩
 rw[ar k G];exact(I.slot1 k K F (by simpa[c,G]using ct) E_).later hl;by_cases b3:j=i;subst b3;simp;exact GU _ (I.sub j hj (by simpa[c,b3]using cn));rcases Ak.1 a9 with W|W;have G:k≠i:=λe=>b2 (e▸W);obtain⟨J,a0,co,a7⟩:=I.pendq k W a';have a3:∀j want,J.guard=Z (j,want)->j≠i:=by rintro j want hg rfl;have:=(ok.guard k J j want a0 hg).1;have h2:=ok.ord l1 (j::r) I.split k W j q!;rw[this]at h2;cases h2
 refine⟨J,a0,co,?_⟩;rw[ar k G];rcases a7 with⟨h1,h2⟩|⟨h1,rd,ei,h2,h3,h4,h5,h6,h7⟩;exact .inl ⟨S a3 h1,h2⟩;refine .inr ⟨S a3 h1,rd,ei,h2,λid A=>by have:=h3 id A;simp;omega,h4,h5,ce W a0 h6,λZ_ cf he hh=>h7 Z_ cf he λid A=>?_⟩;rw[hh id A,CY (h3 id A)];have:k=i:=by simpa using W
 subst this;rw[e2]at a';cases a';obtain⟨k1,k2⟩:=V k C M;obtain⟨f1,f2,f3,f4,o',K,z',Y,f5,f6,f7,f8,f9,ch⟩:=I.early1 k C k2;rcases Av.1 f1 with e|f1;exact(k1 e).elim;exact⟨f1,f2,f3,f4,o',K,z',Y,f5,f6,f7,f8,f9.later hl,ch⟩
def Mid(P:Program)(N:S)(ops:Array Oper)(l:Ψ S)(Q:Env->Aw->Prop)(env0:Env)(X:S->Prop)(h0:Gh)(H0:Aw)(w0:World)(ds0:Ψ Deferred)(L:Array Bool)(a:Act)(w:World):Prop:=
 ∃l1 l2 v pend env H h early,Inv P N ops l Q env0 X h0 H0 w0 ds0 l1 l2 v pend env H h early L a w
def VP(ok:X2 ops N l)(T:Wz P ops=E)(S:∀B,X B→B<w0.heap.size){L:Array Bool}{a}{w}{i:Nat}{o:Oper}(C:ops[i]?=Z o)(g:Ig ops i=η)(s:∀e∈o.after,Region.binds .any e=E→L.getD e.on η=E):
  ∀l2 l1 v b env H h early,Inv P N ops l Q env0 X h0 H0 w0 ds0 l1 l2 v b env H h early L a w->∃l1 l2 v b env H h early,Inv P N ops l Q env0 X h0 H0 w0 ds0 l1 l2 v b env H h early L a w/\(i∈l1\/∃r,l2=i::r/\U3 v o E/\∃F,(∀j∈r,P1 (Iq ops.toList []) i j=E\/Ig ops j=E)/\(∀p∈b,P1 (Iq ops.toList []) p.1 i=E\/∀id∈p.2,id∉F)/\∃K,Eff P N o env H F K/\(∀v y,K v y->θ H<=θ y)/\∀v y,K v y->RA P N ops r b (env.putO o.dst v) y Q)
 |[],l1,v,b,env,H,h,early,I=>by have k:=ok.all i (Wr C);rw[I.split,Dc]at k;exact⟨l1,[],v,b,env,H,h,early,I,.inl k⟩
 |q::r,l1,v,b,env,H,h,early,I=>by
  by_cases G:i∈l1;exact⟨l1,q::r,v,b,env,H,h,early,I,.inl G⟩
  ·cases E_:early q with
   |some B=>obtain⟨O,ar,y,h',m,D_⟩:=I.adopt ok T S E_;exact VP ok T S C g s r _ O _ _ y h' m D_
   |none=>
    have M:=I.ra;have ao:q<ops.size:=ok.lt q (by rw[I.split];simp);have c:ops[q]?=Z (ops[q]):=by simp[ao]
    generalize ax:ops[q]=oq at c;have x:(∀j∈r,P1 (Iq ops.toList []) q j=E\/Ig ops j=E)->i=q:=by intro f;have k:=ok.all i (Wr C);rw[I.split,Ak]at k;rcases k with k|k;exact(G k).elim;rcases Av.1 k with e|k;exact e;rcases f i k with R|R;have hd:=fR I.closed (i+1) i o o! C s R;have al:=I.sub q hd E_;have J:=ok.nodup;rw[I.split]at J;exact((RD.1 J).2.2 q al q q! rfl).elim;rw[g]at R;cases R
    simp only[RA,c]at M;rcases I.guardW ok rfl c M with⟨U,(⟨n,u,rd,hQ,ap,d⟩|⟨n,F,f,V,K,W,Y,Z_⟩|⟨t,z,ad,hz,f,d⟩)⟩|⟨U,n,d⟩
    ·obtain⟨O,D_⟩:=I.next ok rfl c (pend':=(q,rd)::b) n d (λp s=>CZ _ s) (.inr ⟨U,rd,q!,ap,hQ⟩)
     exact VP ok T S C g s r _ O _ _ H h early D_
    have A:=x f;subst A;rw[C]at c;injection c with e;subst e;exact⟨l1,i::r,v,b,env,H,h,early,I,.inr ⟨r,rfl,U,F,f,V,K,W,Y,Z_⟩⟩;have A:=x f;subst A;have:=(XU c).2 ⟨t,ad⟩;rw[g]at this;cases this
    ·obtain⟨O,D_⟩:=I.next ok rfl c (pend':=(q,[])::b) n d (λp s=>CZ _ s) (.inl ⟨U,rfl⟩)
     exact VP ok T S C g s r _ O _ _ H h early D_
def Ww{K b:Act->World->Prop}(h:Oper.wpIn (FR t) 0 P o r d K T)(a:∀r d,K r d->b r d):Oper.wpIn (FR t) 0 P o r d b T:=Oper.wpIn_mono a h
def Inv.make(ok:X2 ops N l)(ha:Wz P ops=E){l1 l2:Ψ Nat}{v:Nat→Ad}{K:Ψ (Nat×Ψ Nat)}{env:Env}{H:Aw}{h:Gh}{early:Nat→Ω Nat}{L:Array Bool}{a:Act}{w:World}{Q0:Exit→Act→World→Prop}{ro:Ω Nat}
  (I:Inv P N ops l Q env0 X h0 H0 w0 ds0 l1 l2 v K env H h early L a w) {i:Nat}{o:Oper}{t:TypeId} (u:ops[i]?=Z o) (y:o.op=.alloc t) (a6:L.getD i η=η)
  (hp:∀e∈o.after,Region.binds .any e=E->L.getD e.on η=E):
  Oper.wpIn (FR ro) 0 P o a w (λa' C=>∃b,Inv P N ops l Q env0 X h0 H0 w0 ds0 l1 l2 v K env H h b (L.setIfInBounds i E) a' C) Q0:=by
 obtain⟨⟨z,hz⟩,hg⟩:=fw ha u y;have bb:Ig ops i=E:=(XU u).2 ⟨t,y⟩;obtain⟨b3,zv,hi,bG,rz⟩:=fb (cx (XR X early) h H w) hz;have a4:(execOp a.eval o).run P w=.ok (.value (.pointer (Z ⟨w.heap.size,0,D⟩))) {w with heap:=w.heap.push (.cells zv.cells t)}:=by unfold execOp;rw[y];simp[Instr.alloc,zeroValue,typeInfo,hi,bG,newVar,newRow]
 refine⟨λ_ _=>P!,?_⟩;rw[Oper.semAt_eq _ _ _ (λc hc=>by rw[y]at hc;cases hc),a4,Oper.uponIn_value];let b:Nat->Ω Nat:=λk=>if k=i then Z w.heap.size else early k;generalize s:({w with heap:=w.heap.push (.cells zv.cells t)}:World)=C;have b2:C.heap.size=w.heap.size+1:=by rw[<-s];simp
 have q:∀k,k<w.heap.size->C.heap[k]?=w.heap[k]? :=λk r=>by rw[<-s];simp[UG,Bq r]
 have bz:C.heap[w.heap.size]?=Z (.cells zv.cells t):=by rw[<-s];simp
 have U:C.os=w.os:=by rw[<-s]
 have V:C.tape=w.tape:=by rw[<-s]
 have A:C.output=w.output:=by rw[<-s]
 have ap:i∉l1:=by intro hm;obtain⟨o',b1,ar,_⟩:=I.pendq i hm a6;rw[bb]at ar;cases ar
 have bm:i∈l2:=by have:=ok.all i (Wr u);rw[I.split,Ak]at this;exact this.resolve_left ap
 have bN:early i=D:=by
  cases G:early i with
  |none=>rfl
  |some B=>have:=(I.early1 i B G).2.1;rw[a6]at this;cases this
 have a8:=I.sim.grow U V A o! q;have b0:=(G1.grow (h:=h) (H:=H) U V A o! q).later (XR X early);have J:∀B,owned h H B->B<w.heap.size:=by rintro B ⟨id,e,G,S,x⟩;exact I.sim.io_at G S x
 have a7:∀B,XR X b B->XR X early B\/B=w.heap.size:=by rintro B (O|⟨k,r⟩);exact .inl (.inl O);simp only[b]at r;split at r;injection r with e;exact .inr e.symm;exact .inl (.inr ⟨k,r⟩)
 have W:(cx (XR X early) h H w).Later (cx (XR X b) h H C):=by refine⟨by simp only[cx];omega,λB O _=>nN (q B O),λB O Z_=>?_,Al _,λ_ _=>Al _,λ_ _ _=>⟨rfl,rfl⟩⟩;rcases Z_ with Z_|Z_;rcases a7 B Z_ with D_|rfl;exact .inl D_;simp only[cx]at O;omega;exact .inr Z_
 have a5:JT (XR X b) h H C:=by refine⟨λB O=>?_,λid g cs G=>?_,λid L' G=>?_,I.sim.inj,I.sim.bldKeep λid e G _=>⟨G,rfl,rfl,rfl,λB o _ R _=>q B (P4 R)⟩⟩;rcases a7 B O with D_|rfl;exact a8.out B D_;exact⟨o!,λu=>by have:=J _ u;omega⟩;obtain⟨hg,ao⟩:=I.sim.live id g cs G;refine⟨hg,?_⟩;rcases ao with⟨hn,rfl⟩|⟨B,M,T,fz,f,x,R,ad,bt,bl,E_⟩;exact .inl ⟨hn,rfl⟩;refine .inr ⟨B,M,T,fz,f,x,(q B (P4 R)).trans R,ad,bt,bl,λj v hj=>?_⟩;obtain⟨p1,p2,p3⟩:=E_ j v hj;exact⟨p1,p2,p3.later W⟩;obtain⟨hg,B1,r1,x,R,p1,p2,p3,p4,p5,p6,p7⟩:=I.sim.lp id L' G;exact⟨hg,B1,r1,x,(q B1 (P4 R)).trans R,p1,p2,p3,p4,p5,p6,λt v m=>⟨(p7 t v m).1,(p7 t v m).2.later W⟩⟩
 have p:i<L.size:=by rw[I.lsz];exact Wr u
 have hd:∀t,o.dst=Z t->t<a.tmps.size:=λt ht=>by rw[I.size];exact qi ok u t ht
 refine⟨b,?_⟩;refine{split:=I.split,ra:=I.ra,kn:=I.kn,keys:=I.keys,env1:=I.env1,env2:=I.env2,sim:=a5,nodefer:=?_,size:=(fT _ _ _).trans I.size,slot1:=λk t r a2 al=>?_,slot2:=λt J=>?_,sub:=λj hj ax=>?_,lsz:=by rw[qF];exact I.lsz,closed:=oB I.closed p u hp,pendq:=λk a1 a3=>?_,ext:=I.ext.trans (G1.grow U V A o! q),early1:=λk B r=>?_,early2:=λj k B D_ Y=>?_};rw[show(a.put o.dst _).defers=a.defers by cases o.dst<;>rfl];exact I.nodefer;have n:k≠i:=by rintro rfl;simp[b]at a2
 rw[HW p,D! n]at r;rw[TY hd,D! (λe=>n (ok.uniq k i t al (by rw[GG u];exact e)))];exact(I.slot1 k t r (by simpa[b,n]using a2) al).later W;rw[TY hd];have S:o.dst≠Z t:=by have:=J i (by rw[HW p,C! rfl]);rwa [GG u]at this
 rw[D! S];refine(I.slot2 t λk r=>J k ?_).later W;rw[HW p];split;rfl;exact r;have a0:j≠i:=by rintro rfl;simp[b]at ax
 rw[HW p,D! a0]at hj;exact I.sub j hj (by simpa[b,a0]using ax);have n:k≠i:=λe=>ap (e▸a1);rw[HW p,D! n]at a3;exact I.pendq k a1 a3;by_cases n:k=i;subst n;simp only[b,if_true]at r;injection r with e;subst e;refine⟨bm,by rw[HW p,C! rfl],I.ext.size,o!,o,t,z,zv.cells,u,y,hz,bz,rz.later W,λd F=>?_⟩;rw[TY hd,C! F];simp only[b,D! n]at r;obtain⟨e1,e2,e3,e4,o',t',z',M,e5,e6,e7,e8,e9,a9⟩:=I.early1 k B r;refine⟨e1,by rw[HW p,D! n];exact e2,e3,o!,o',t',z',M,e5,e6,e7,(q B e4).trans e8,e9.later W,λd F=>?_⟩;rw[TY hd,D! (λe=>n (ok.uniq k i d (by rw[GG e5];exact F) (by rw[GG u];exact e)))];exact a9 d F;simp only[b]at D_ Y;split at D_<;>split at Y;simp_all;injection D_ with e;have:=(I.early1 k B Y).2.2.2.1;omega;injection Y with e;have:=(I.early1 j B D_).2.2.2.1;omega;exact I.early2 j k B D_ Y
def Mid.step(ok:X2 ops N l)(ha:Wz P ops=E)(hX:∀B,X B→B<w0.heap.size){L:Array Bool}{a:Act}{w:World}{Q0:Exit→Act→World→Prop}{ro:Ω Nat}(M:Mid P N ops l Q env0 X h0 H0 w0 ds0 L a w){i:Nat}{o:Oper}(n:ops[i]?=Z o)(E_:L.getD i η=η)
  (Y:∀e∈o.after,Region.binds .any e=E->L.getD e.on η=E):wpOpIn (FR ro) 0 P ops Q0 i (Mid P N ops l Q env0 X h0 H0 w0 ds0 (L.setIfInBounds i E)) a w:=by
 cases a3:Ig ops i with
 |true=>
  obtain⟨t,a9⟩:=(XU n).1 a3;have hg:=(fw ha n a9).2;obtain⟨l1,l2,v,s,env,H,h,early,I⟩:=M;unfold wpOpIn;rw[n];simp only;have J:Region.wanted o (yielded ops a.tmps)=E:=by unfold Region.wanted;rw[hg]
  rw[J];simp only[if_true];refine(Ww (I.make ok ha n a9 E_ Y) ?_);rintro a' w' ⟨al,I'⟩;exact⟨l1,l2,v,s,env,H,h,al,I'⟩
 |false=>
 obtain⟨l1,l2,v,s,env,H,h,early,I⟩:=M;obtain⟨l1,l2,v,s,env,H,h,early,I,A⟩:=VP ok ha hX n a3 Y l2 l1 v s env H h early I;have G:∀k,P1 (Iq ops.toList []) k i=E->early k=D:=by
  intro k D_;by_cases f:k=i;subst f;cases he:early k with
  |none=>rfl
  |some B=>have:=(I.early1 k B he).2.1;rw[E_]at this;cases this
  refine I.noEarly ok ?_ k D_ f;rcases A with h1|⟨r,h1,_⟩;exact .inl h1;exact .inr ⟨r,h1⟩
 unfold wpOpIn;rw[n];simp only;rcases A with ax|⟨r,rfl,J,F,b6,bt,K,a1,bz,bG⟩
 ·obtain⟨o',a7,_,b5⟩:=I.pendq i ax E_;rw[n]at a7;injection a7 with e;subst e;rcases b5 with⟨J,ao⟩|⟨J,rd,ei,_,_,kn,T,W,hQ⟩
  ·rw[I.wanted ok n G Y J];simp only[QK,if_false];exact⟨λ_ _=>P!,l1,l2,v,s,env,H,h,early,I.done ok n ax E_ Y I.sim (G1.refl _ _ _) (by rw[ao];exact .tup rfl λ_ _ _ h=>by cases h)⟩
  ·rw[I.wanted ok n G Y J];simp only[if_true];refine(Ww (hQ (look o ei) H (zu o ei) (λ_ _=>rfl) ro (XR X early) h a w ⟨I.sim,I.look ok n E_ Y G kn T W,I.size⟩ Q0) ?_);rintro a' w' ⟨c,u,h',H',rfl,⟨rfl,rfl⟩,hv,sim,x⟩;exact⟨l1,l2,v,s,env,_,h',early,I.done ok n ax E_ Y sim x hv⟩
 rw[I.wanted ok n G Y J];simp only[if_true];have W:=I.opd ok rfl n;refine(Ww (a1.1 (look o env) (zu o env) ro (XR X early) h a w ⟨I.sim,I.look ok n E_ Y G I.kn I.keys W,I.size⟩ Q0) ?_);rintro a' w' ⟨c,u,h',H',rfl,T,hv,sim,x⟩;have a6:=ok.nodup;rw[I.split]at a6;have b0:i∉l1:=λhm=>(RD.1 a6).2.2 i hm i q! rfl;have hi:i<L.size:=by rw[I.lsz];exact Wr n
 have hl:=x.later (XR X early);let v':Nat->Ad:=λk=>if k=i then u else v k;have Z_:∀k,k≠i->v' k=v k:=λk T=>by simp[v',T]
 have ao:v' i=u:=by simp[v']
 have hd:∀t,o.dst=Z t->t<a.tmps.size:=λt ht=>by rw[I.size];exact qi ok n t ht
 have ap:∀t,(env.putO o.dst u).get t=if o.dst=Z t then u else env.get t:=by
  intro t;cases o.dst with
  |none=>simp[Env.putO]
  |some d=>simp only[Env.putO,GR,Ar];by_cases h:d=t;subst h;simp;rw[D! h,D! (h ·.symm)]
 refine⟨l1++[i],r,v',s,env.putO o.dst u,H',h',early,?_⟩;refine{split:=by rw[I.split];simp,ra:=bG u H' T,kn:=I.kn.putO _ _,keys:=λt y m=>?_,env1:=λk g t C=>?_,env2:=λt V=>?_,sim:=sim,nodefer:=?_,size:=(fT _ _ _).trans I.size,slot1:=λk t g b4 C=>?_,slot2:=λt V=>?_,sub:=λj hj b1=>?_,lsz:=by rw[qF];exact I.lsz,closed:=oB I.closed hi n Y,pendq:=λk b2 U=>?_,ext:=I.ext.trans x,early1:=λk B g=>?_,early2:=I.early2};cases R:o.dst with
 |none=>rw[R]at m;exact I.keys t y m
 |some d=>rw[R]at m;simp only[Env.putO,Env.put]at m;rcases Av.1 m with e|m;injection e with e1 _;subst e1;exact qi ok n t R;exact I.keys t y (BQ.1 m).1
 rw[ap];rcases Ak.1 g with g|g;have f:k≠i:=λe=>b0 (e▸g);rw[Z_ k f,D! (λe=>f (ok.uniq k i t C (by rw[GG n];exact e)))];exact I.env1 k g t C;have:k=i:=by simpa using g
 subst this;rw[GG n]at C;rw[C! C,ao];rw[ap];have h1:o.dst≠Z t:=by have:=V i q!;rwa [GG n]at this
 rw[D! h1];exact I.env2 t λk T=>V k (GU _ T);rw[show(a.put o.dst c).defers=a.defers by cases o.dst<;>rfl];exact I.nodefer;rw[TY hd];rw[HW hi]at g;by_cases f:k=i;subst f;rw[GG n]at C;rw[C! C,ao];exact hv;rw[D! f]at g;rw[D! (λe=>f (ok.uniq k i t C (by rw[GG n];exact e))),Z_ k f];exact(I.slot1 k t g b4 C).later hl;rw[TY hd];have G:o.dst≠Z t:=by have:=V i (by rw[HW hi,C! rfl]);rwa [GG n]at this
 rw[D! G];refine(I.slot2 t λk T=>V k ?_).later hl;rw[HW hi];split;rfl;exact T;rw[HW hi]at hj;by_cases a4:j=i;subst a4;simp;rw[D! a4]at hj;exact GU _ (I.sub j hj b1);rw[HW hi]at U;by_cases f:k=i;subst f;simp at U;rw[D! f]at U;have a5:k∈l1:=by rcases Ak.1 b2 with h|h;exact h;exact(f (by simpa using h)).elim
 obtain⟨ad,a8,b3,A⟩:=I.pendq k a5 U;have ar:P1 (Iq ops.toList []) i k=η:=ok.ord l1 (i::r) I.split k a5 i q!;have O:∀{b},U3 v ad b->U3 v' ad b:=by
  intro b J;unfold U3 at J⊢;cases hg:ad.guard with
  |none=>rw[hg]at J;exact J
  |some p=>
   obtain⟨j,want⟩:=p;rw[hg]at J;simp only at J⊢;have:j≠i:=by rintro rfl;have:=(ok.guard k ad j want a8 hg).1;rw[ar]at this;cases this
   rw[Z_ j this];exact J
 refine⟨ad,a8,b3,?_⟩;rw[Z_ k f];rcases A with⟨q1,q2⟩|⟨q1,rd,ei,q2,q3,q4,q5,q6,q7⟩;exact .inl ⟨O q1,q2⟩;refine .inr ⟨O q1,rd,ei,q2,λid S=>DH (q3 id S) (bz u H' T),q4,q5,λt ht=>?_,λa0 bb he hh=>q7 a0 bb he λid S=>?_⟩;obtain⟨c1,c2⟩:=q6 t ht;refine⟨λq hq bN D_=>?_,c2⟩;rw[c1 q hq bN D_,Z_];rintro rfl;rw[ar]at D_;cases D_;rw[hh id S];apply a1.2 u H' T id (q3 id S);rcases bt (k,rd) q2 with h1|h1;have:=fR I.closed (i+1) i o o! n Y h1;simp only at this;rw[U]at this;cases this;exact h1 id S;obtain⟨e1,e2,e3,e4,o',t,z,bl,e5,e6,e7,e8,e9,bm⟩:=I.early1 k B g;have f:k≠i:=by rintro rfl;rw[E_]at e2;cases e2
 refine⟨(Av.1 e1).resolve_left f,by rw[HW hi,D! f];exact e2,e3,DH e4 x.size,o',t,z,bl,e5,e6,e7,?_,e9.later hl,λd a2=>?_⟩;exact(x.keep B e4 (I.sim.out B (.inr ⟨k,g⟩)).2).trans e8;rw[TY hd,D! (λe=>f (ok.uniq k i d (by rw[GG e5];exact a2) (by rw[GG n];exact e)))];exact bm d a2
theorem Inv.end_(ok:X2 ops N l)(s:Wz P ops=E)(p:∀B,X B→B<w0.heap.size){L:Array Bool}{a}{w}(e:∀i,i<ops.size→L.getD i η=E):
  ∀l2 l1 v c env H h early,Inv P N ops l Q env0 X h0 H0 w0 ds0 l1 l2 v c env H h early L a w->
  ∃o b g,Q b g/\St X o N b g a w/\G1 h0 H0 w0 o g w/\a.defers=ds0
 |q::r,l1,v,c,env,H,h,early,I=>by
  cases j:early q with
  |some B=>obtain⟨G,b,g,o,d,y⟩:=I.adopt ok s p j;exact Inv.end_ ok s p e r _ G _ _ g o d y
  |none=>have J:=I.sub q (e q (ok.lt q (by rw[I.split];simp))) j;have E_:=ok.nodup;grind[I.split]
 |[],l1,v,c,env,H,h,early,I=>by
  have D_:∀k,early k=D:=by
   intro k;cases C:early k with
   |none=>rfl
   |some B=>have:=(I.early1 k B C).1;cases this
  have n:XR X early=X:=by funext B;apply propext;constructor;rintro(z|⟨k,x⟩);exact z;grind;exact .inl
  have f:=I.sim;rw[n]at f;refine⟨h,env,H,I.ra,⟨f,λt u m=>⟨by rw[I.size];exact I.keys t u m,?_⟩,I.size⟩,I.ext,I.nodefer⟩;rw[<-n,<-I.kn t u m];by_cases F:∃k∈l1,V7 ops k=Z t;have⟨k,x,A⟩:=F;rw[I.env1 k x t A];grind[Y3,I.slot1,Wr];grind[I.env2,I.slot2,I.sub]
def Mid.end_(ok:X2 ops N l)(x:Wz P ops=E)(u:∀B,X B→B<w0.heap.size){w}(M:Mid P N ops l Q env0 X h0 H0 w0 ds0 L r w)(hr:Region.ready .any ops L=[]):
  ∃o b g,Q b g/\St X o N b g r w/\G1 h0 H0 w0 o g w/\r.defers=ds0:=by
 obtain⟨l1,l2,v,f,env,H,h,early,I⟩:=M;have c:∀(n i:S),i<n->i<ops.size->L.getD i η=E:=by
  intro n;induction n with
  |zero=>intro i h;omega
  |succ n z=>
   intro i q d;cases p:L.getD i η with
   |true=>rfl
   |false=>
    have m:i<L.size:=by rw[I.lsz];exact d
    have j:L.getD i E=η:=by rw[RI,OR m]at p⊢;simpa using p
    have t:ops[i]?=Z (ops[i]):=by simp[d]
    have s:i∈Region.ready .any ops L:=by rw[mem_ready];refine⟨j,_,t,λe y k=>?_⟩;have a:=ok.back i _ t e y k;exact z e.on o! o!
    rw[hr]at s;cases s
 exact Inv.end_ ok x u (λi q=>c (i+1) i o! q) l2 l1 v f env H h early I
theorem wh{p q:S->Bool}(h:∀j,q j=E->p j=E):∀l:Ψ S,(l.filter q).length<=(l.filter p).length
 |[]=>q!
 |y::r=>by have a:=wh h r;grind
theorem filter_lt{p:S->Bool}{i:S}{q:S->Bool}(b:∀j,q j=(p j&& ! τ (j=i))):∀(l:Ψ S),i∈l->p i=E->(l.filter q).length<(l.filter p).length
 |x::r,h,hp=>by
  have d:=wh (p:=p) (q:=q) (λj a=>by rw[b]at a;simp at a;exact a.1) r;by_cases e:x=i;grind;have c:i∈r:=k!
  have f:=filter_lt b r c hp;grind
theorem Mid.any(ok:X2 ops N l)(k:Wz P ops=E)(g:∀B,X B→B<w0.heap.size){f:Exit→Act→World→Prop}{ro}(e:∀L a w,Mid P N ops l Q env0 X h0 H0 w0 ds0 L a w→Region.ready .any ops L=[]→f .normal a w):
  ∀(b:S)L a w,((List.range ops.size).filter λi=>!L.getD i η).length<=b->Mid P N ops l Q env0 X h0 H0 w0 ds0 L a w->wpAnyIn (FR ro) 0 P .any ops f b L a w
 |0,L,a,w,hf,M=>by
  have hr:Region.ready .any ops L=[]:=by
   cases u:Region.ready .any ops L with
   |nil=>rfl
   |cons i r=>
    have d:i∈Region.ready .any ops L:=k!
    rw[mem_ready]at d;have:i∈(List.range ops.size).filter λi=>!L.getD i η:=k!
    grind
  exact⟨hr,e L a w M hr⟩
 |b+1,L,a,w,hf,M=>by
  refine⟨λhr=>e L a w M hr,λi d=>?_⟩;rw[mem_ready]at d;have⟨x,o,m,t⟩:=d;have c:L.getD i η=η:=k!
  refine wpOpIn_mono (λs v n=>Mid.any ok k g e b _ s v ?_ n) (Mid.step ok k g M m c t);have:=filter_lt (p:=λi=>!L.getD i η) (i:=i) (q:=λj=>!(L.setIfInBounds i E).getD j η) (λj=>by rw[HW k!];by_cases h:j=i<;>simp[h]) (List.range ops.size) (IH.2 (Wr m)) (by simp[c]);omega
def lG{K:Exit→Env→Aw→Prop}(C:P.follows .mixedOrders=E)(l:Ψ Nat)(q:ACj ops N l=E)(r:Wz P ops=E)(p:(m.map (·.1)).Nodup)
  (h:RA P N ops l [] m H (K .normal)):J9 P N (.region n ops E) m H K:=by
 intro ro X g a w s _;have ok:=ABg q;have b:∀i,(Array.replicate ops.size η).getD i η=η:=by intro i;rw[RI];by_cases d:i<ops.size;simp[d];simp[d]
 have E_:({w with drawn:=w.drawn+1}:World)=w.drew:=rfl;apply wpIn_region_any C;rw[E_];refine Mid.any (Q:=K .normal) (env0:=m) (X:=X) (h0:=g) (H0:=H) (w0:=w) (ds0:=a.defers) ok r (λB c=>(s.sim.out B c).1) (λL I O M hr=>?_) ops.size _ a w.drew ?_ ?_;obtain⟨A,f,y,D_,F,G,z⟩:=M.end_ ok r (λB c=>(s.sim.out B c).1) hr;exact⟨A,f,y,D_,F,G,.same z⟩;exact Cl (EK _ _) q!;have x:=G1.drew (h:=g) (H:=H) (w:=w);have R:XR X (λ_=>D)=X:=by funext B;apply propext;constructor;rintro(c|⟨k,e⟩);exact c;cases e;exact .inl
 refine⟨[],l,λ_=>.any,[],m,H,g,λ_=>D,?_⟩;refine{split:=rfl,ra:=h,kn:=eL p,keys:=(λt u S=>by have:=(s.env t u S).1;rw[s.size]at this;exact this),env1:=(λk e=>by cases e),env2:=λt _=>rfl,sim:=(by rw[R];exact s.sim.drew),nodefer:=rfl,size:=s.size,slot1:=(λk t e _=>by rw[b]at e;cases e),slot2:=λt _=>(by rw[R];exact(lF s.env t).later (x.later X)),sub:=(λi d=>by rw[b]at d;cases d),lsz:=q!,closed:=(λj o J v=>by rw[b]at v;cases v),pendq:=(λi d=>by cases d),ext:=x,early1:=(λi B c=>by cases c),early2:=(λi j B c=>by cases c)}
end
def qz:Ad->Ψ S
 |.ptr id _ _=>[id]
 |.sl id _ _ _ _=>[id]
 |_=>[]
def ABd(env:Env)(op:Op):Ψ S:=op.operands.toList.flatMap λx=>qz (BR env x)
theorem iE{a:Env}(h:∀t∈tmpsOf o,a.get t=m.get t):∀x∈o.op.operands,BR a x=BR m x:=by
 intro x b;cases x with
 |tmp t=>apply h t;unfold tmpsOf;rw[PN];exact⟨.tmp t,k!,rfl⟩
 |_=>rfl
def vF{a}{l:Ψ Operand}(h:∀x∈l,BR a x=BR m x):l.map (BR a)=l.map (BR m):=NT h
theorem xJ{e}(h:∀x∈K.operands,BR e x=BR m x):Ch P e H K=Ch P m H K:=by
 cases K with
 |move x=>grind[Ch,Op.operands]
 |assign x=>grind[Ch,Op.operands]
 |pick c a b=>grind[Ch,Op.operands]
 |load t a=>grind[Ch,Op.operands]
 |nilCheck x=>grind[Ch,Op.operands]
 |binOp K t x y E_=>grind[Ch,Op.operands]
 |unOp K t x=>grind[Ch,Op.operands]
 |convert s d x=>grind[Ch,Op.operands]
 |fieldAddr s x f=>grind[Ch,Op.operands]
 |field s x f=>grind[Ch,Op.operands]
 |indexAddr t x i=>grind[Ch,Op.operands]
 |index t x i=>grind[Ch,Op.operands]
 |extract x i=>grind[Ch,Op.operands]
 |slice t x u o v=>
  have C:u.map (BR e)=u.map (BR m):=by cases u with|none=>rfl|some y=>simp[h y (by simp[Op.operands])]
  have B:o.map (BR e)=o.map (BR m):=by cases o with|none=>rfl|some y=>simp[h y (by simp[Op.operands])]
  have D_:v.map (BR e)=v.map (BR m):=by cases v with|none=>rfl|some y=>simp[h y (by simp[Op.operands])]
  grind[Ch,Op.operands]
 |makeFunc f a b=>simp only[Ch];rw[vF λx j=>h x (by simp only[Op.operands];exact Array.mem_append_left _ (by simpa using j)),vF λx j=>h x (by simp only[Op.operands];exact Array.mem_append_right _ (by simpa using j))]
 |build t g=>
  simp only[Ch];have:(g.toList.map λp=>(p.1,BR e p.2))=g.toList.map λp=>(p.1,BR m p.2):=NT λp w=>by rw[h p.2 (by simp only[Op.operands,List.mem_toArray,Bs];exact⟨p,w,rfl⟩)]
  rw[this]
 |call c=>
  obtain⟨n,args,k⟩:=c;simp only[Op.operands,Call.operands]at h;cases n with
  |value f=>simp[Ch]
  |invoke r l=>simp[Ch]
  |builtin b=>
   obtain⟨args⟩:=args;obtain⟨k⟩:=k;match args with
   |[]=>simp[Ch]
   |[x]=>
    have j:=h x q!;cases b<;>simp[Ch];match k with
    |[]=>rfl
    |[t]=>simp[j]
    |_::_::_=>rfl
   |[x,y]=>have j:=h x q!;have q:=h y q!;cases b<;>simp[Ch,j,q]
   |[x,y,z]=>have j:=h x q!;have q:=h y q!;have A:=h z q!;cases b<;>simp[Ch,j,q,A]
   |_::_::_::_::_=>cases b<;>rfl
 |_=>rfl
section
variable {P:Program}{H H':Aw}
theorem ac(h:H'[N]?=H[N]?):UB H' N n=UB H N n:=by grind[UB]
theorem AAM(h:∀id∈qz k,H'[id]?=H[id]?):Qg H' k n=Qg H k n:=by cases k<;>simp only[Qg];rw[h _ (by simp[qz])]
theorem vW(h:∀id∈qz k,H'[id]?=H[id]?):shift H' n k=shift H n k:=by cases k<;>simp only[shift];grind[ac,qz]
def ADU(h:∀id∈qz k,H'[id]?=H[id]?):rE P H' b k=rE P H b k:=rfl
theorem ABb(h:∀id∈ABd m K,H'[id]?=H[id]?):Ch P m H' K=Ch P m H K:=by
 have j:∀x∈K.operands,∀id∈qz (BR m x),H'[id]?=H[id]? :=λx j id n=>h id (by unfold ABd;rw[G3];exact⟨x,by simpa using j,n⟩);cases K with
 |load t a=>grind[Op.operands,Ch,jV,AAM]
 |nilCheck x=>grind[Op.operands,Ch,ac,qz]
 |convert s d x=>
  have g:=j x (by simp[Op.operands]);have hr:rowsOf H' (BR m x)=rowsOf H (BR m x):=by generalize BR m x=v at g;cases v<;>simp only[rowsOf];grind[qz]
  simp only[Ch,X6];grind[BR]
 |fieldAddr s x f=>grind[Op.operands,Ch,Wn,vW]
 |indexAddr t x i=>have g:=j x (by simp[Op.operands]);simp only[Ch,Ws];split<;>grind[vW,ac,qz]
 |slice t x p o q=>have g:=j x (by simp[Op.operands]);simp only[Ch];generalize BR m x=v at g;cases v<;>simp only[cZ];rw[ac (g _ (by simp[qz]))]
 |call c=>
  obtain⟨l,args,e⟩:=c;simp only[Op.operands,Call.operands]at j;cases l with
  |value f=>simp[Ch]
  |invoke r k=>simp[Ch]
  |builtin b=>
   obtain⟨args⟩:=args;obtain⟨e⟩:=e;match args with
   |[]=>simp[Ch]
   |[x]=>
    have g:=j x q!;cases b<;>simp only[Ch];match e with
    |[]=>rfl
    |[t]=>simp only;exact ADU g
    |_::_::_=>rfl
   |[x,y]=>cases b<;>simp[Ch]
   |[x,y,z]=>cases b<;>simp[Ch]
   |_::_::_::_::_=>cases b<;>rfl
 |_=>simp only[Ch]
def X7{v:Ad}(e:Ch P m H o.op=Z v):aJ P N o m H (ABd m o.op) v:=by intro a b c d;refine Du (v:=v) ?_ ⟨rfl,rfl⟩;rw[xJ (iE c),ABb d];exact e
end
section
variable {P:Program}{N:Nat}{o:Oper}{env:Env}{H:Aw}{K:Ad->Aw->Prop}
theorem qm{c:Call}
  (A:o.op=.call c) (m:c.callee=.value p) (G:BR env p=.fn (.func z) f e) (D_:Enters P z=E)
  (E_:Ek P z (o7 env c f e) H K):JS P N o env H K:=by
 apply C1 (by rw[A];rfl);intro X h a w s Q;have k:=DN s.env p;rw[G]at k
 obtain⟨b,L,r,t,C,I,J⟩:∃b L,a.eval p=.func (.func z) b L∧b.size=W f∧L.size=W e∧
   (∀(j:S)(v:Ad)(c:Value),f[j]?=Z v->b[j]?=Z c->Bv (cx X h H w) v c)/\(∀(j:S)(v:Ad)(c:Value),e[j]?=Z v->L[j]?=Z c->Bv (cx X h H w) v c):=by
  generalize a.eval p=cf at k;cases k<;>grind
 have q:(execOp a.eval o).run P w=.ok (.enter z (b++c.args.map a.eval++L)) w:=by unfold execOp;rw[A];simp only[resolve,m,r,Deferred.ofValue,Sem.run_bind,Sem.run_pure,Result.andThen_ok,invoke,jI D_]
 unfold Oper.wp;rw[q];simp only[Oper.upon_enter];have i:∀(j:S)(v:Ad)(d:Value),(o7 env c f e)[j]?=Z v->(b++c.args.map a.eval++L)[j]?=Z d->Bv (cx X h H w) v d:=by
  intro j v d l n;unfold o7 at l;rcases A0 j (W f+c.args.size)with y|u;rw[CY w!]at l;rw[Yv w!]at n;rcases A0 j (W f) with F|g
  grind;rw[Cn g,CU]at l;rw[uD o!,dC,t]at n;cases B:c.args[j-W f]? with
  |none=>grind
  |some x=>rw[B]at n;rw[QJ,B]at l;simp only[Bt,Ar]at l n;subst l n;exact DN s.env x
  grind
 refine(E_ X h w _ s.sim ?_ i).mono ?_;simp[o7,t,C];grind
def Tb(P:Program)(env:Env)(t:TypeId)(len:S)(parts:Array (S×Operand)):Ω (S×Ψ Ad):=
 match eI P t with
 |some (D,e,sz)=>
  let vs:=parts.toList.map λp=>BR env p.2
  if 0<sz/\Qh P e=E/\parts.toList.map (·.1)=List.range len/\(vs.all λv=>v.solid&&τ (W v.cells=sz))=E/\len<=4096/\sz<=4096 then Z (sz,vs)else D
 |_=>D
theorem V8{len sz:S}{vs:Ψ Ad}(c:o.op=.buildSlice b len y)(d:Tb P env b len y=Z (sz,vs))(t:K (.vs sz vs) H):JS P N o env H K:=by grind[Tb,JS.buildSlice]
theorem eN{t:TypeId}{len sz:Nat}{f:Array (Nat×Operand)}{T:Ψ Ad}(ho:o.op=.buildSlice t len f)(r:Tb P env t len f=Z (sz,T))
  (hk:K (.sl (θ H) 0 sz 0 (θ T)) (H++[.live 0 (T.flatMap Ad.cells)])):JS P N o env H K:=by
 unfold Tb at r;split at r
 case h_2=>cases r
 rename_i e y he;simp only at r;split at r
 case isFalse=>cases r
 rename_i L;obtain⟨a6,a4,F,a',O⟩:=L;simp only[Ar,Eh]at r;obtain⟨rfl,a9⟩:=r;have ap:∀v∈T,v.solid=E/\θ v.cells=y:=λv S=>by grind[List.all_eq_true]
 apply C1 (by rw[ho];rfl);intro X h a w s Q;obtain⟨ar,b,hi⟩:=QB he;obtain⟨i,z,G,_,hz,bb⟩:=Rl a4;have B:=jN hi G;have hl:θ T=len:=by have k:=E! θ F;grind[θ]
 let A:Ψ Value:=f.toList.map λp=>a.eval p.2;have V:θ A=len:=by grind[θ]
 have R:∀(j:Nat)(v:Ad)(c:Value),T[j]?=Z v->A[j]?=Z c->Bv (cx X h H w) (.agg v.cells) (.agg c.cells)/\θ v.cells=y:=by
  intro j v c S L;have Z_:=ap v (BO S);refine⟨?_,Z_.2⟩;subst a9;simp only[A,CU]at S L;cases r:f.toList[j]? with
  |none=>rw[r]at S;cases S
  |some p=>rw[r]at S L;simp only[Bt,Ar]at S L;subst S L;exact Xa (DN s.env p.2) Z_.1
 have J:∀c∈A,c.cells.size=y:=by
  intro c L;obtain⟨j,g⟩:=DW L;have Y:j<θ T:=by grind[Nat.lt_or_ge,u?]
  obtain⟨k,n⟩:=R j _ c (Au Y) g;cases k<;>grind
 have ax:(f.map λq=>(q.1,a.eval q.2)).toList=(A.zipIdx 0).map λx=>(x.2,x.1):=by
  apply JX;intro j;simp only[Array.toList_map,CU,List.getElem?_zipIdx,DZ,A];cases r:f.toList[j]? with
  |none=>rfl
  |some p=>
   have k:(f.toList.map (·.1))[j]?=Z p.1:=by rw[CU,r];rfl
   rw[F]at k;have Y:j<len:=by rcases A0 j len with n|n;exact n;rw[Ct (by simpa using n)]at k;cases k
   rw[Rq Y]at k;simp only[Ar]at k;simp[k]
 have C:∀l:Ψ Value,(∀c∈l,c.cells.size=y)->(l.flatMap λc=>c.cells.toList).length=θ l*y:=by
  intro l;induction l with
  |nil=>simp
  |cons c l ih=>intro hl;simp only[Ii,Aa,Dy,hl c q!,ih (λd M=>hl d (CZ _ M)),Bh,D5];omega
 have W:(A.flatMap λc=>c.cells.toList).length=len*y:=by rw[C A J,V]
 have I:∃D_:Array Value,(execOp a.eval o).run P w=.ok (.value (.slice (Z ⟨w.heap.size,0,D⟩) len len)) {w with heap:=w.heap.push (.cells D_ e)}/\D_.toList=A.flatMap λc=>c.cells.toList:=by
  unfold execOp;rw[ho];by_cases h0:len=0;subst h0;have:A=[]:=D8 V;refine⟨#[],?_,by rw[this];rfl⟩;have r:f= #[]:=by have k:=E! θ F;simp at k;exact k
  simp[Instr.buildSlice,run_underlying ar,Ln hi,r,Instr.fill,newRow,show Array.range 0= #[]from rfl];refine⟨(A.flatMap λc=>c.cells.toList).toArray,?_,rfl⟩;have al:¬len*i.size=0:=by rw[B];exact Nat.mul_ne_zero h0 o!
  have a5:¬len*i.size>2^24:=by rw[B];have:=nm O.1 O.2;omega
  have hf:=Go.Great.fill_whole (s:=y) a6 A ((Array.range (len*i.size)).map (z.cells[· %z.cells.size]!)) J (by simp[V,B]);have:=run_buildSlice (P:=P) w t e len (f.map λq=>(q.1,a.eval q.2)) _ i z ar G hz a5 al (by rw[ax,B]at*;exact hf);simp only[Sem.run_bind];rw[show(f.map λx=>match x with|(i,x)=>(i,a.eval x))=(f.map λq=>(q.1,a.eval q.2))from rfl,this];rfl
 obtain⟨D_,I,ad⟩:=I;unfold Oper.wp;rw[I,Oper.upon_value]
 have U:∀(l:Ψ Ad)(m:Ψ Value),θ m=θ l→(∀(j:Nat)(v:Ad)(c:Value),l[j]?=Z v→m[j]?=Z c→Bv (cx X h H w) (.agg v.cells) (.agg c.cells))→
   Bv (cx X h H w) (.agg (l.flatMap Ad.cells)) (.agg (m.flatMap λc=>c.cells.toList).toArray):=by
  intro l;induction l with
  |nil=>intro m Z_ _;have:m=[]:=D8 (by simpa using Z_);subst this;exact .agg rfl (λj c g=>by simp at g) λj v c g=>by simp at g
  |cons v l ih=>
   intro m Z_ hr;cases m with
   |nil=>simp at Z_
   |cons c m=>
    have r0:=hr 0 v c rfl rfl;have r1:=ih m (by simpa using Z_) λj v' c' k n=>hr (j+1) v' c' (by simpa using k) (by simpa using n);cases r0 with
    |agg ao a1 a7=>
     cases r1 with
     |agg a3 a2 a8=>
      have e2:(m.flatMap λc=>c.cells.toList).length=(l.flatMap Ad.cells).length:=by simpa using a3
      refine .agg (by simp[e2,ao]) (λj d g=>?_) λj u d g M=>?_;simp only[Ii,ff]at g;rcases A0 j c.cells.size with n|n;rw[CY (by simpa using n)]at g;exact a1 j d (by simpa using g);rw[Cn (by simpa using n)]at g;exact a2 _ d (by simpa using g);simp only[Ii,ff]at g M;rcases A0 j c.cells.size with n|n;rw[CY (by simpa using n)]at M;rw[CY o!]at g;exact a7 j u d g (by simpa using M);rw[Cn (by simpa using n)]at M;rw[Cn o!]at g;rw[Dy,ao]at M;exact a8 _ u d g (by simpa using M)
 have a0:=U T A o! λj v c k n=>(R j v c k n).1;have E_:D_=(A.flatMap λc=>c.cells.toList).toArray:=by rw[<-ad]
 have hh:=Qn a0;rw[<-E_]at hh;refine⟨_,_,_,_,rfl,hk,.sl (by simp[cx]) (by simp[cx,Gh.at_]) ⟨_,_,by rw[hl]⟩ λ_=>.inr ⟨w.heap.size,len,by simp[cx,Gh.at_],o!,?_,by rw[hl]⟩,s.sim.push D_ e (0,0) _ hh,G1.push _ _ _⟩;simp only[cx,Gh.at_,if_true,E_,Yp,W];omega
theorem nC{U:IntKind}{c:Int}{sz:Nat}(ho:o.op= .makeSlice b p a)(he:eI P b=some (none,Y,sz))(ar:0<sz)(M:Qh P Y=true)(hz:Zk P Y=some f)(R:f.length=sz)
  (hx:BR env p= .int G i) (hy:BR env a= .int U c) (h0:0<=i) (h1:i<=c) (h2:c<=16777216) (hk:K (.sl H.length 0 sz 0 i.toNat) (H++[.live 0 (List.replicate i.toNat f).flatten])):JS P N o env H K:=by
 apply C1 (by rw[ho];rfl);intro X h z w s Q;obtain⟨O,y,hi⟩:=QB he;obtain⟨x,zv,g,ad,T,S⟩:=Rl M;have k:=jN hi g;obtain⟨n,d,ao,ax,D_⟩:=fb (cx X h H w) hz;have:n=x:=by grind[Option.some.inj]
 subst this;have:d=zv:=by grind[Option.some.inj]
 subst this;have W:=DN s.env p;have t:=DN s.env a;rw[hx]at W;rw[hy]at t;have ex:z.eval p= .int G i:=by generalize z.eval p=q at W;cases W;rfl
 have ey:z.eval a= .int U c:=by generalize z.eval a=q at t;cases t;rfl
 have F:(n.bytes:Int)*c<=281474976710656:=by have:(n.bytes:Int)*c<=1048576*16777216:=Int.mul_le_mul o! h2 o! o!;omega
 have Z_:=run_make (P:=P) w b Y n d O g T G U i c h0 h1 F o!;have V:(execOp z.eval o).run P w= .ok (.value (.slice (some ⟨w.heap.size,0,none⟩) i.toNat c.toNat)) (w.alloc (.cells (madeCells d.cells (c.toNat*n.size)) Y)):=by unfold execOp;grind[Sem.run_bind,Result.andThen_ok,Sem.run_pure]
 unfold Oper.wp;rw[V,Oper.upon_value];have e:d.cells.size=sz:=by rw[S,k]
 have hh:Holds (cx X h H w) (List.replicate i.toNat f).flatten (madeCells d.cells (c.toNat*n.size)) (0,0):=by
  have I:(List.replicate i.toNat f).flatten.length=i.toNat*sz:=by simp[R]
  have A:i.toNat*sz<=c.toNat*n.size:=by rw[k];exact NW _ o!
  have B: ∀(m j:Nat),j<m*sz->(List.replicate m f).flatten[j]? =f[j%sz]? :=by
   intro m;induction m with
   |zero=>intro j E_;omega
   |succ m ih=>intro j E_;rw[nj,qR];rcases A0 j sz with ap|al;grind[List.getElem?_append_left,Nat.mod_eq_of_lt];grind[List.getElem?_append_right,Nat.add_mul,Nat.mod_eq_sub_mod]
  refine⟨λj=>d.cells.getD (j%sz) undef,by rw[I,size_madeCells];exact A,λ_ _=>q!,λj v E_=>?_⟩;have C:j<i.toNat*sz:=by grind[Nat.lt_or_ge,List.getElem?_eq_none]
  rw[B _ _ C]at E_;have u:j%sz<d.cells.size:=by grind[Nat.mod_lt]
  have l:d.cells[j%sz]? =some (d.cells[j%sz]'u):=OR u;have J:d.cells.getD (j%sz) undef=d.cells[j%sz]'u:=by rw[RI,l];rfl
  have r:(madeCells d.cells (c.toNat*n.size))[j]? =some (d.cells[j%sz]'u):=by
   unfold madeCells;rw[dC,Array.getElem?_range,if_pos (DH C A)];have L:j%d.cells.size<d.cells.size:=by rw[e];rw[e]at u;exact u
   rw[Bt,getElem!_pos d.cells _ L];simp only[e]
  simp only[J];cases D_ with
  |agg q1 q2 q3=>exact⟨r,q2 _ _ l,q3 _ _ _ E_ l⟩
 refine⟨_,_,_,_,rfl,hk,.sl (by simp[cx]) (by simp[cx,Gh.at_]) ⟨_,_,rfl⟩ λ_=>.inr ⟨w.heap.size,c.toNat,by simp[cx,Gh.at_],o!,?_,rfl⟩,s.sim.push _ Y (0,0) _ hh,G1.push _ _ _⟩;simp[cx,Gh.at_,size_madeCells,k]
end
section
variable {X:Nat->Prop}{h:Gh}{H:Aw}{w:World}
def JT.loopSet(s:JT X h H w){L:nJ}{r:Loop}(g:H[N]?=Z (.lp L))(f:h.io N=Z n)(C:w.heap[n]?=Z (.loop r))(st:LoopState)(p:Ω Code):
  JT X h (H.set N (.lp {L with state:=st,pending:=p})) (w.putObj n (.loop {r with state:=st,pending:=p}))/\G1 h H w h (H.set N (.lp {L with state:=st,pending:=p})) (w.putObj n (.loop {r with state:=st,pending:=p})):=by
 have d:N<W H:=by rcases A0 N (W H) with c|c;exact c;rw[Ct c]at g;cases g
 have D_:G1 h H w h (H.set N (.lp {L with state:=st,pending:=p})) (w.putObj n (.loop {r with state:=st,pending:=p})):=by refine⟨rfl,rfl,rfl,q!,λk M hn=>?_,q!,λ_ _=>Al _,λ_ _ _=>⟨rfl,rfl⟩,λk T=>?_,λk y O=>?_⟩;refine World.putObj_heap_other λe=>?_;subst e;exact hn ⟨N,_,g,q!,f⟩;obtain⟨i,e,l,j,c⟩:=T;rcases Jv d l with⟨G,b⟩|⟨rfl,_⟩;exact .inl ⟨i,e,b,j,c⟩;exact .inl ⟨i,_,g,q!,c⟩;by_cases e:k=n;subst e;exact⟨_,World.putObj_heap_same (tO C)⟩;exact⟨y,by rw[World.putObj_heap_other e,O]⟩
 refine⟨s.of_ext D_ (λi e l j=>?_) (λi P z A k l c u x B o=>?_),D_⟩;rcases Jv d l with⟨G,b⟩|⟨rfl,rfl⟩;refine .inl ⟨b,rfl,rfl,rfl,λE_ a=>World.putObj_heap_other λe=>?_⟩;subst e;exact G (s.inj i N _ _ E_ b g j q! a f);obtain⟨K,E_,S,a,q,l,c,B,o,I,J,F⟩:=s.lp i L g;rw[show(cx X h H w).io i=h.io i from rfl,f]at a;injection a with e;subst e;rw[show(cx X h H w).w.heap=w.heap from rfl,C]at q;injection q with e;injection e with e;subst e;refine .inr (.inr ⟨_,rfl,K,n,_,f,World.putObj_heap_same (tO C),rfl,rfl,B,o,I,J,λt v m=>⟨(F t v m).1,(F t v m).2.later (D_.later X)⟩⟩);rcases Jv d l with⟨Q,z⟩|⟨rfl,_⟩<;>rcases Jv d c with⟨R,A⟩|⟨rfl,_⟩;exact s.inj _ _ _ _ k z A u x B o;exact s.inj _ _ _ _ k z g u q! B o;exact s.inj _ _ _ _ k g A q! x B o;rfl
def JT.kill(s:JT X h H w)(a:N<W H):JT X h (H.set N .dead) w/\G1 h H w h (H.set N .dead) w:=by
 have n:G1 h H w h (H.set N .dead) w:=by refine⟨rfl,rfl,rfl,Al _,λk r hn=>rfl,q!,λ_ _=>Al _,λ_ _ _=>⟨rfl,rfl⟩,λk t=>?_,λk y u=>⟨y,u⟩⟩;obtain⟨i,e,d,b,j⟩:=t;rcases Jv a d with⟨q,c⟩|⟨rfl,rfl⟩;exact .inl ⟨i,e,c,b,j⟩;exact(b rfl).elim
 refine⟨s.of_ext n (λi e d b=>?_) (λi x l m k d j f g o p=>?_),n⟩;rcases Jv a d with⟨q,c⟩|⟨rfl,rfl⟩;exact .inl ⟨c,rfl,rfl,rfl,λv _=>rfl⟩;exact(b rfl).elim;rcases Jv a d with⟨z,l⟩|⟨rfl,rfl⟩;rcases Jv a j with⟨A,m⟩|⟨rfl,rfl⟩;exact s.inj _ _ _ _ k l m f g o p;exact(g rfl).elim;exact(f rfl).elim
end
def R3:Env->Ψ Tmp->Ψ Ad->Env
 |env,t::ts,v::vs=>R3 (env.put t v) ts vs
 |env,_,_=>env
theorem nW{x}:∀(d:Ψ Tmp)(e:Ψ Ad)(b:Ψ Value)env(a:Act),(∀t∈d,t<a.tmps.size)→W b=W e→
  (∀(j:S)(v:Ad)(c:Value),e[j]?=Z v->b[j]?=Z c->Bv x v c)->PD x env a->
  PD x (R3 env d e) {a with tmps:=(d.zip b).foldl (λ(tmps:Array Value)(q:Tmp×Value)=>tmps.setIfInBounds q.1 q.2) a.tmps}
 |[],e,b,env,a,_,_,_,h=>by simpa[R3]using h
 |t::d,[],b,env,a,_,hl,_,h=>by have:b=[]:=D8 k!;subst this;simpa[R3]using h
 |t::d,v::e,c::b,env,a,ht,hl,hr,h=>by
  have f:=h.put (ht t q!) (hr 0 v c rfl rfl);exact nW d e b (env.put t v) (a.put (Z t) c) (λu i=>by rw[fT];exact ht u (CZ _ i)) k!
   (λj k g f l=>hr (j+1) k g k! k!) f
def lK:∀(l:Ψ (Tmp×Value))a,(l.foldl (λ(tmps:Array Value)(q:Tmp×Value)=>tmps.setIfInBounds q.1 q.2) a).size=a.size
 |[],a=>rfl
 |q::l,a=>by rw[Yd,lK l];simp
def AFt(id:S)(K:Ad->Aw->Prop):Exit->Env->Aw->Prop
 |.normal,_,H=>∃L,H[id]?=Z (.lp L)/\K (.bool E) (H.set id (.lp {L with state:=.ready,pending:=D}))
 |.ret,_,H=>∃L,H[id]?=Z (.lp L)/\K (.bool η) (H.set id (.lp {L with state:=.done,pending:=Z .ret}))
 |.exit k,_,H=>∃L,H[id]?=Z (.lp L)/\K (.bool η) (H.set id (.lp {L with state:=.done,pending:=Z (.exit k)}))
 |_,_,_=>False
section
variable {P:Program}{N:Nat}{o:Oper}{env:Env}{H:Aw}{K:Ad->Aw->Prop}
theorem JS.yield{c:Call}{L:nJ}(ho:o.op=.call c)(O:c.callee=.value p)(hf:BR env p=.yf n)(he:H[n]?=Z (.lp L))
  (hn:c.args.size=L.params.size) (a5:(L.params.toList.all λt=>decide (t<L.n))=E)
  (hw:J9 P L.n L.assign (R3 L.env L.params.toList (c.args.toList.map (BR env))) H λe env1 H1=>e=.normal/\∃A,H1[n]?=Z (.lp A)/\A.state=.ready/\J9 P L.n L.body env1 (H1.set n (.lp {A with state:=.busy})) (AFt n K)):JS P N o env H K:=by
 intro ro X h a w s Q;obtain⟨hg,B,r,F,hb,h1,h2,h3,h4,h5,h6,h7⟩:=s.sim.lp n L he;have F:h.io n=Z B:=F;have hb:w.heap[B]?=Z (.loop r):=hb;have G:=DN s.env p;rw[hf]at G;have al:a.eval p=.func (.yield B) #[] #[]:=by generalize a.eval p=cf at G;cases G<;>grind
 have Y:(execOp a.eval o).run P w=.ok (.round B r.fn ((r.params.zip (c.args.map a.eval)).foldl (λtmps (t,a)=>tmps.setIfInBounds t a) r.tmps) r.assign r.body) w:=by unfold execOp;rw[ho];simp only[resolve,O,al,Deferred.ofValue,Sem.run_bind,Sem.run_pure,Result.andThen_ok,invoke];rw[show(#[]++c.args.map a.eval:Array Value)=c.args.map a.eval by simp];exact run_yield hb (by rw[Array.size_map,hn,h3])
 refine⟨λ_ _=>P!,?_⟩;rw[Oper.semAt_eq _ _ _ (λc hc=>by rw[ho]at hc;cases hc),Y,Oper.uponIn_round];refine⟨(λh=>by cases h),?_⟩;let R:Ending->World->Prop:=λe I=>∃c v y M,e=.returned c/\K v M/\Bv (cx X y M I) v c/\JT X y M I/\G1 h H w y M I;refine RoundIn.mono (R:=R) ?_ (by rintro e I ⟨c',v,y,M,rfl,k,hv,hs,hx⟩;exact⟨c',v,y,M,rfl,k,hv,hs,hx⟩);apply roundIn_of_wpIn trivial;have a3:((r.params.zip (c.args.map a.eval)).foldl (λtmps (t,a)=>tmps.setIfInBounds t a) r.tmps)=((L.params.toList.zip (c.args.toList.map a.eval)).foldl (λ(tmps:Array Value)(q:Tmp×Value)=>tmps.setIfInBounds q.1 q.2) r.tmps):=by grind[Array.toList_zip,Array.toList_map]
 rw[a3,h4,h5];have Z_:St X h L.n (R3 L.env L.params.toList (c.args.toList.map (BR env))) H {tmps:=(L.params.toList.zip (c.args.toList.map a.eval)).foldl (λ(tmps:Array Value)(q:Tmp×Value)=>tmps.setIfInBounds q.1 q.2) r.tmps,defers:=[]} w:=by
  refine⟨s.sim,?_,by rw[lK,h6]⟩;refine nW (x:=cx X h H w) L.params.toList (c.args.toList.map (BR env)) (c.args.toList.map a.eval) L.env {tmps:=r.tmps,defers:=[]} (λt ht=>?_) q! (λj v d hj hd=>?_) (λt v m=>⟨by rw[h6];exact(h7 t v m).1,(h7 t v m).2⟩);grind;rw[CU]at hj hd;cases hx:c.args.toList[j]? with
  |none=>grind
  |some x=>rw[hx]at hj hd;simp only[Bt,Ar]at hj hd;subst hj hd;exact DN s.env x
 refine wpIn_mono (hw (Z B) X h _ w Z_ λl e=>by injection e with e;subst e;exact⟨r,hb⟩) ?_;rintro e a1 w1 ⟨y,env1,H1,⟨rfl,A,S,a0,E_⟩,s1,x1,_⟩;obtain⟨U,J,r1,g,f,q1,q2,q3,q4,q5,q6,q7⟩:=s1.sim.lp n A S;have g:y.io n=Z J:=g;have f:w1.heap[J]?=Z (.loop r1):=f;have V:n<θ H:=by rcases A0 n (θ H) with h2|h2;exact h2;grind[u?]
 have eB:J=B:=by have:=(x1.same n V (by rw[show y.gen n=0 from U,show h.gen n=0 from hg])).1;rw[g,F]at this;injection this
 subst eB;obtain⟨ar,ad⟩:=s1.sim.loopSet S g f .busy A.pending;have ap:({r1 with state:=.busy}:Loop)={r1 with state:=.busy,pending:=A.pending}:=by rw[<-q2]
 refine⟨_,run_beginRound f (by rw[q1,a0]),?_⟩;rw[ap];refine wpIn_mono (E_ (Z J) X y a1 _ ⟨ar,s1.env.later (ad.later X),s1.size⟩ λl e=>by injection e with e;subst e;exact⟨_,World.putObj_heap_same (tO f)⟩) ?_;rintro e a2 w2 ⟨D_,env2,H2,q,s2,x2,_⟩
 have C:∀(b:Ω Code)u,H2[n]?=Z (.lp u)→K (.bool b.isNone) (H2.set n (.lp {u with state:=if b.isNone then .ready else .done,pending:=b}))→
   ∃v I,(Instr.endRound J b).run P w2=.ok v I/\R (.returned v) I:=by
  intro b u T hk;obtain⟨ao,B2,r2,i,z,p1,p2,p3,p4,p5,p6,p7⟩:=s2.sim.lp n u T;have i:D_.io n=Z B2:=i;have z:w2.heap[B2]?=Z (.loop r2):=z;have W:n<θ H1:=DH V x1.n;have eB:B2=J:=by have:=(x2.same n (by simpa using W) (by rw[show D_.gen n=0 from ao,show y.gen n=0 from U])).1;rw[i,g]at this;injection this
  subst eB;obtain⟨ax,a4⟩:=s2.sim.loopSet T i z (if b.isNone then .ready else .done) b;exact⟨_,_,run_endRound b z,_,_,D_,_,rfl,hk,.bool _,ax,((x1.trans ad).trans x2).trans a4⟩
 cases e with
 |normal=>obtain⟨u,q1,q2⟩:=q;exact C D u q1 q2
 |ret=>obtain⟨u,q1,q2⟩:=q;exact C (Z .ret) u q1 q2
 |exit k=>obtain⟨u,q1,q2⟩:=q;exact C (Z (.exit k)) u q1 q2
 |_=>exact q.elim
end
section
variable {P:Program}{N:Nat}{env:Env}{H:Aw}{Q:Exit->Env->Aw->Prop}
def AFn(P:Program)(N:S)(env:Env)(id:S)(Q:Exit->Env->Aw->Prop)(H:Aw):Prop:=
 ∃L,H[id]?=Z (.lp L)/\L.state≠.busy/\(match L.pending with
  |none=>Q .normal env (H.set id .dead)
  |some c=>J9 P N c env (H.set id .dead) Q)
def AA1{R:Ending->World->Prop}(h:Calls P z u d R):CallsIn (FR t) n P z u d R:=by
 have a:CallsIn Fence.wide n P z u d R:=callsIn_wide.2 h;cases t with
 |none=>exact a
 |some l=>exact a
theorem nB{f:Operand}{z:Array Tmp}{assign body:Code}{first o:Ψ Ad}{G:FuncId}(env0:Env)(ao:∀p∈env0,p∈env)(hf:BR env f=.fn (.func G) first o)(hE:Enters P G=E)
  (U:Ek P G (first++[.yf (θ H)]++o) (H++[.lp ⟨N,env0,z,assign,body,.ready,D⟩]) λ_ E_=>AFn P N env (θ H) Q E_):J9 P N (.rangeFunc f z assign body) env H Q:=by
 intro r X h a w s k;have Y:=DN s.env f;rw[hf]at Y
 obtain⟨b,g,ap,n1,n2,a0,a1⟩:∃b g,a.eval f=.func (.func G) b g∧b.size=θ first∧g.size=θ o∧
   (∀(j:Nat)(v:Ad)(c:Value),first[j]?=Z v->b[j]?=Z c->Bv (cx X h H w) v c)/\(∀(j:Nat)(v:Ad)(c:Value),o[j]?=Z v->g[j]?=Z c->Bv (cx X h H w) v c):=by
  generalize a.eval f=cf at Y;cases Y<;>grind
 have main:∀i(u:Loop)(mark:Ψ Deferred),JT X h H i→G1 h H w h H i→u.state=.ready→u.pending=D→u.tmps=a.tmps→u.params=z→u.assign=assign→u.body=body→mark.Nodup→
   (∀d∈mark,∃D_,d={target:=.collected D_,args:= #[]}/\w.heap.size<=D_/\i.heap[D_]?=Z (.deferred (Z [])))->
   CallsIn (FR r) (0-1) P G (b++ #[.func (.yield i.heap.size) #[] #[]]++g) (i.alloc (.loop u))
    (rangePost (FR r) 0 P i.heap.size (λe a' Z_=>∃I F E_,Q e F E_/\St X I N F E_ a' Z_/\G1 h H w I E_ Z_/\WV a w a' Z_) {a with defers:=mark++a.defers}):=by
  intro i u mark s0 C e1 e2 e3 e4 e5 e6 ar V;have xp:=G1.push (h:=h) (H:=H) (w:=i) (.loop u) 0 (.lp ⟨N,env0,z,assign,body,.ready,D⟩);have sp:=s0.push_any (.loop u) 0 (.lp ⟨N,env0,z,assign,body,.ready,D⟩) λ_=>.inr ⟨_,rfl,by simp[cx,Gh.at_],i.heap.size,u,by simp[cx,Gh.at_],by show(i.heap.push (.loop u))[i.heap.size]?=_;simp,e1,e2,e4,e5,e6,by rw[e3];exact s.size,λt v m=>by obtain⟨m1,m2⟩:=s.env t v (ao _ m);refine⟨by rw[<-s.size];exact m1,?_⟩;rw[e3];exact m2.later ((C.trans xp).later X)⟩;have ea:i.alloc (.loop u)={i with heap:=i.heap.push (.loop u)}:=rfl;rw[ea];generalize a5:({i with heap:=i.heap.push (.loop u)}:World)=W1 at xp sp;generalize a6:h.at_ (θ H) (Z i.heap.size) 0 0=g1 at xp sp;have R:g1.gen (θ H)=0/\g1.io (θ H)=Z i.heap.size:=by grind[Gh.at_]
  have hl:=(C.trans xp).later X;have ax:(b++ #[Value.func (.yield i.heap.size) #[] #[]]++g).size=(first++[Ad.yf (θ H)]++o).length:=by simp[n1,n2];omega
  have S:∀(j:Nat)(v:Ad)(c:Value),(first++[Ad.yf (θ H)]++o)[j]?=Z v->(b++ #[Value.func (.yield i.heap.size) #[] #[]]++g)[j]?=Z c->Bv (cx X g1 (H++[.lp ⟨N,env0,z,assign,body,.ready,D⟩]) W1) v c:=by
   intro j v c J y;rcases A0 j (θ first+1)with a4|a2;rw[CY w!]at J;rw[Yv w!]at y;rcases A0 j (θ first) with al|a3
   rw[CY al]at J;rw[Yv o!]at y;exact(a0 j v c J y).later hl;have:j=θ first:=o!
   subst this;rw[Cn (Al _),G5]at J;rw[uD o!,n1,G5]at y;simp at J y;subst J y;exact .yf (by simp[cx]) rfl λ_=>⟨i.heap.size,R.2,rfl⟩
   rw[Cn w!]at J;rw[uD w!]at y;refine(a1 _ v c ?_ y).later hl;simpa[n1]using J
  have hC:=U X g1 W1 _ sp ax S;apply (AA1 hC).mono;rintro e Z_ ⟨c,v,I,E_,rfl,⟨L,hL,T,hQ⟩,sc,rv,x⟩;obtain⟨hg,B,M,A,hb,q1,q2,q3,q4,q5,q6,q7⟩:=sc.lp (θ H) L hL;have A:I.io (θ H)=Z B:=A;have hb:Z_.heap[B]?=Z (.loop M):=hb;have eB:B=i.heap.size:=by have:=(x.same (θ H) q! (by rw[show I.gen (θ H)=0 from hg,R.1])).1;rw[A,R.2]at this;injection this
  subst eB;obtain⟨s2,x2⟩:=sc.loopSet hL A hb .exhausted M.pending;have ad:θ H<(E_.set (θ H) (.lp {L with state:=.exhausted,pending:=M.pending})).length:=by have:=x.n;simp at this⊢;omega
  obtain⟨s3,x3⟩:=s2.kill ad;rw[Yo]at s3 x3;have O:=((xp.trans x).trans x2).trans x3;have st:St X I N env (E_.set (θ H) .dead) {a with defers:=mark++a.defers} (Z_.putObj i.heap.size (.loop {M with state:=.exhausted,pending:=M.pending})):=⟨s3,λt v m=>⟨(s.env t v m).1,(s.env t v m).2.later ((C.trans O).later X)⟩,s.size⟩
  have df:WV a w {a with defers:=mark++a.defers} (Z_.putObj i.heap.size (.loop {M with state:=.exhausted,pending:=M.pending})):=by refine⟨mark,rfl,ar,λd hd=>?_⟩;obtain⟨D_,h1,h2,h3⟩:=V d hd;exact⟨D_,h1,h2,O.defs s0 h3⟩
  refine⟨M.pending,_,run_endLoop hb (by rw[q1];exact T),?_⟩;rw[q2]at*;cases hp:L.pending with
  |none=>rw[hp]at hQ st df O;exact⟨I,env,_,hQ,st,C.trans O,df⟩
  |some cd=>rw[hp]at hQ st df O s3;apply wpIn_mono (hQ r X I _ _ st (k.later (C.trans O)));rintro e' a' a7 ⟨h2,env2,H2,q,s',x',d'⟩;exact⟨h2,env2,H2,q,s',(C.trans O).trans x',df.trans s3 (C.trans O) x' d'⟩
 have K:∀l W,(resolve a.eval (rangeCall f l) 0).run P W=.ok {target:=.fn (.func G) g,args:=b++ #[.func (.yield l) #[] #[]]} W:=by intro l W;have y:a.eval (.const (.func (.yield l) #[] #[]))=.func (.yield l) #[] #[]:=rfl;simp[resolve,ap,y,Deferred.ofValue]
 refine wpIn_rangeFunc λfn _=>?_;cases r with
 |none=>
  have C:G1 h H w h H (w.alloc (.deferred (Z []))):=G1.grow rfl rfl rfl (by show _<=(w.heap.push _).size;simp) λk hk=>by show(w.heap.push _)[k]?=_;grind
  have s0:JT X h H (w.alloc (.deferred (Z []))):=s.sim.grow rfl rfl rfl (by show _<=(w.heap.push _).size;simp) λk hk=>by show(w.heap.push _)[k]?=_;rw[UG,D! o!]
  have hm:=main (w.alloc (.deferred (Z []))) {state:=.ready,pending:=D,fn,tmps:=a.tmps,params:=z,assign,body,defers:=w.heap.size} [{target:=.collected w.heap.size,args:= #[]}] s0 C rfl rfl rfl rfl rfl rfl q! λd hd=>by simp only[A5]at hd;exact⟨w.heap.size,hd,Al _,World.alloc_heap_new w _⟩
  rw[World.size_alloc]at hm;exact⟨_,_,_,_,_,_,_,_,run_enterLoop_outer fn a.tmps z assign body,K _ _,λ_ _=>P!,by simp only[invoke];exact jI hE _ _,(λh=>by cases h),hm⟩
 |some l=>
  obtain⟨x,hx⟩:=k l rfl;have hm:=main w {state:=.ready,pending:=D,fn,tmps:=a.tmps,params:=z,assign,body,defers:=x.defers} [] s.sim (G1.refl _ _ _) rfl rfl rfl rfl rfl rfl q! λd hd=>by cases hd
  exact⟨_,_,_,_,_,_,_,_,run_enterLoop_inner hx fn a.tmps z assign body,K _ _,λ_ _=>P!,by simp only[invoke];exact jI hE _ _,(λh=>by cases h),hm⟩
end
def isQ:Op->Bool
 |.move _|.assign _|.pick .. |.load .. |.nilCheck _|.binOp .. |.unOp .. |.convert .. |.fieldAddr .. |.field .. |.indexAddr .. |.index .. |.slice .. |.extract .. |.makeFunc .. |.build .. =>E
 |.call c=>match c.callee with|.builtin .len=>E|.builtin .max=>E|.builtin .min=>E|_=>η
 |_=>η
abbrev AJv:=FuncId->Ψ Ad->Aw->Ω (Ad×Aw)
abbrev AJw:=S->Code->Env->Aw->Ω (Exit×Env×Aw)
def xt(P:Program)(env:Env)(H:Aw)(op:Op):Ω Ad:=
 match op with
 |.buildSlice t len parts=>match Tb P env t len parts with|some (sz,vs)=>Z (.vs sz vs)|none=>D
 |op=>Ch P env H op
def dq(op:Op):Bool:=match op with|.buildSlice .. =>E|op=>isQ op
def yW(ops:Array Oper)(m:Ψ S):S->Ψ S->Ψ S
 |0,_=>[]
 |n+1,left=>
  let rdy:=left.filter λi=>left.all λp=>p==i|| !P1 m p i
  let qs:=rdy.filter λi=>match ops[i]? with|some o=>dq o.op|none=>η
  let last:=λi=>left.all λj=>j==i||P1 m i j||Ig ops j
  let es:=rdy.filter λi=>!Ig ops i&&last i
  let as:=rdy.filter λi=>Ig ops i&&last i
  match qs,es,as with
  |i::_,_,_=>i::yW ops m n (left.erase i)
  |[],i::_,_=>i::yW ops m n (left.erase i)
  |[],[],i::_=>i::yW ops m n (left.erase i)
  |[],[],[]=>[]
def ABZ(ops:Array Oper):Ψ S:=yW ops (Iq ops.toList []) ops.size (List.range ops.size)
section
variable {P:Program}{call:AJv}{code:AJw}{H H':Aw}{v:Ad}{F:Ψ Nat}
theorem lI{N}(b:xt P m H o.op=Z v):aJ P N o m H (ABd m o.op) v:=by
 unfold xt at b;split at b;rename_i t len a i;split at b;rename_i sz f d;injection b with e;subst e;intro c g h k;refine V8 i (sz:=sz) (vs:=f) ?_ ⟨rfl,rfl⟩;rw[<-d];have j:=iE h;unfold Tb;have:(a.toList.map λp=>BR c p.2)=a.toList.map λp=>BR m p.2:=NT λp d=>by grind[Op.operands]
 rw[this];cases b;exact X7 b
end
def lg(F:Fence)(n0:S)(P:Program)(c:Code)(K:Exit->Act->World->Prop)(a:Act)(w:World):Prop:=
 ∀(b:Frame)(k:Ψ Item)(cs:Ψ Frame),b.roundOf=F.round->F.fn b.fn->F.room (W cs+1+n0)->
  ∃e a' w',K e a' w'/\ArrivesIn (Machine.fenced P F) P (lone (b.atR a (.code c:: .inLoop c::k)) cs w) b k cs e a' w'
section
variable {P:Program}{F:Fence}{n0:Nat}{c:Code}{K:Exit->Act->World->Prop}{a:Act}{w:World}
def zx(h:lg F n0 P c K a w):(Code.loop c).wpIn F n0 P K a w:=by intro b k j f g hr;obtain⟨e,i,m,l,d⟩:=h b k j f g hr;exact⟨e,i,m,l,.of_steps (.one (fenced_calm g hr rfl) stepR_loop) d⟩
def cT(h:c.wpIn F n0 P (Exit.then (λt u=>lg F n0 P c K t u) K) a w):lg F n0 P c K a w:=by
 intro b k s p r hr;obtain⟨e,f,g,m,d⟩:=h b (.inLoop c::k) s p r hr;cases e with
 |normal=>obtain⟨o,n,q,j,i⟩:=m b k s p r hr;exact⟨o,n,q,j,.of_steps (StepsIn.trans d (.one (fenced_calm r hr rfl) stepR_inLoop)) i⟩
 |exit id=>exact⟨_,f,g,m,.pass (x:=.inLoop c) rfl (λ_ _=>.inl q!) d⟩
 |goto l=>exact⟨_,f,g,m,.pass (x:=.inLoop c) rfl (λ_ _=>.inl q!) d⟩
 |ret=>exact⟨_,f,g,m,.pass (x:=.inLoop c) rfl (λ_ _=>.inl q!) d⟩
 |panic v=>exact⟨_,f,g,m,.pass (x:=.inLoop c) rfl (λ_ _=>.inl q!) d⟩
 |outgrown=>exact⟨_,f,g,m,.pass (x:=.inLoop c) rfl (λ_ _=>.inl q!) d⟩
theorem XV(h:lg F n0 P c K a w)(m:∀e a w,K e a w->T e a w):lg F n0 P c T a w:=by intro b k i d j hr;obtain⟨e,l,o,n,g⟩:=h b k i d j hr;grind
end
def IG(P:Program)(N:S)(c:Code)(env:Env)(H:Aw)(Q:Exit->Env->Aw->Prop):Prop:=
 ∀r X h a w,St X h N env H a w->aK r w->
  lg (FR r) 0 P c (λe a' w'=>∃h' env' H',Q e env' H'/\St X h' N env' H' a' w'/\G1 h H w h' H' w'/\WV a w a' w') a w
section
variable {P:Program}{N:Nat}{env:Env}{H:Aw}{Q:Exit->Env->Aw->Prop}
theorem IG.mono(h:IG P N c env H Q)(i:∀e b d,Q e b d->C e b d):IG P N c env H C:=by intro r X g a w s k;apply XV (h r X g a w s k);grind
def J9.of_loopW(h:IG P N c env H Q):J9 P N (.loop c) env H Q:=λr X g a w s k=>zx (h r X g a w s k)
def IG.unroll(h:J9 P N c env H (fZ (λb f=>∃env2 d,Fa N (W H) b f env2 d/\IG P N c env2 d Q) Q)):IG P N c env H Q:=by
 intro r X g a w s k;refine cT (wpIn_mono (h r X g a w s k) ?_);rintro e a2 t ⟨m,env2,d,q,o,v,j⟩;cases e with
 |normal=>obtain⟨l,F,n,B⟩:=q;obtain⟨z,p,A,C⟩:=n.2 X m a2 t o;have i:=Fa.ext rfl n.1 A C v;apply XV (B r X z a2 t p (k.later i));rintro e G I ⟨y,b,f,D_,E_,u,x⟩;exact⟨y,b,f,D_,E_,i.trans u,j.trans p.sim i u x⟩
 |_=>exact⟨m,env2,d,q,o,v,j⟩
def tX(P:Program)(N:S)(c:Code)(env:Env)(H:Aw)(Q:Exit->Env->Aw->Prop):Prop:=
 match c with
 |.loop x=>IG P N x env H Q
 |c=>J9 P N c env H Q
def tX.awp(h:tX P N c env H Q):J9 P N c env H Q:=by unfold tX at h;split at h;exact .of_loopW h;exact h
def EI(hn:∀x,c≠.loop x)(h:J9 P N c env H Q):tX P N c env H Q:=by simp_all[tX]
def tX.mono(h:tX P N c env H Q)(f:∀e a b,Q e a b->C e a b):tX P N c env H C:=by
 cases c with
 |loop x=>exact IG.mono h f
 |_=>exact J9.mono h f
def IG.weak{d}(f:Fa N (W H) env H m d)(h:IG P N c m d Q):IG P N c env H Q:=by intro r X g a w s k;obtain⟨y,t,n,o⟩:=f.2 X g a w s;apply XV (h r X y a w t k);rintro e v x ⟨l,b,i,q,p,u,j⟩;exact⟨l,b,i,q,p,(Fa.ext rfl f.1 n o (G1.refl g H w)).trans u,j⟩
def tX.weak{a}(b:Fa N (W H) env H m a)(h:tX P N c m a Q):tX P N c env H Q:=by
 cases c with
 |loop x=>exact IG.weak b h
 |_=>exact J9.weak b h
def J9.after(h:J9 P N c env H (λe b f=>∃env2 d,Fa N (W H) b f env2 d/\Q e env2 d)):J9 P N c env H Q:=by intro r X g a w s k;apply wpIn_mono (h r X g a w s k);rintro e j v ⟨m,b,f,⟨env2,d,i,q⟩,t,x,l⟩;obtain⟨n,u,o,p⟩:=i.2 X m j v t;exact⟨n,env2,d,q,u,Fa.ext rfl i.1 o p x,l⟩
def IG.after(h:IG P N c env H (λe b f=>∃env2 d,Fa N (W H) b f env2 d/\Q e env2 d)):IG P N c env H Q:=by intro r X g a w s k;apply XV (h r X g a w s k);rintro e j v ⟨m,b,f,⟨env2,d,i,q⟩,t,x,l⟩;obtain⟨n,u,o,p⟩:=i.2 X m j v t;exact⟨n,env2,d,q,u,Fa.ext rfl i.1 o p x,l⟩
def tX.after(h:tX P N c env H (λe a d=>∃env2 b,Fa N (W H) a d env2 b/\Q e env2 b)):tX P N c env H Q:=by
 cases c with
 |loop x=>exact IG.after h
 |_=>exact J9.after h
end
def DO(v:Ad)(H:Aw):Ad->Aw->Prop:=λu H'=>u=v/\H'=H
def VO(e:Exit)(env:Env)(H:Aw):Exit->Env->Aw->Prop:=λe1 env1 H1=>e1=e/\env1=env/\H1=H
def callT(ρ:Operand->Ad):Op->Ω (Sum (FuncId×Ψ Ad) (S×Ψ Ad))
 |.call c=>
  match c.callee with
  |.value f=>
   match ρ f with
   |.fn (.func F) first caps=>Z (.inl (F,first++c.args.toList.map ρ++caps))
   |.yf id=>Z (.inr (id,c.args.toList.map ρ))
   |_=>D
  |_=>D
 |_=>D
def AH2(H:Aw):Ψ (S×Fw)->Aw
 |[]=>H
 |(i,e)::r=>AH2 (H.set i e) r
section
variable {X:Nat->Prop}{h:Gh}{H:Aw}{w:World}
def JT.regen(s:JT X h H w){id g g':S}{cs}(n:H[id]?=Z (Fw.live g cs))(I:g≤g'):
  JT X (h.at_ id (h.io id) g' (h.cap id)) (H.set id (.live g' cs)) w/\G1 h H w (h.at_ id (h.io id) g' (h.cap id)) (H.set id (.live g' cs)) w:=by
 obtain⟨q,p⟩:=s.live id g cs n;have l:h.gen id=g:=q;have t:id<W H:=by rcases A0 id (W H) with z|z;exact z;rw[Ct z]at n;cases n
 rcases p with⟨F,A⟩|⟨B,j,T,G,f,D_,L,o,E_,C,c⟩;have d:h.io id=D:=F;rcases Nat.eq_or_lt_of_le I with e|M;subst e;have x:h.at_ id (h.io id) g (h.cap id)=h:=by unfold Gh.at_;cases h;simp only[Gh.mk.injEq];refine⟨funext λi=>?_,funext λi=>?_,funext λi=>?_⟩;split<;>simp_all;split;rename_i r;subst r;exact l.symm;rfl;split<;>simp_all
 have y:H.set id (.live g cs)=H:=by apply JX;intro i;rw[Wf];split;rename_i r;subst r;exact n.symm;rfl
 rw[x,y];exact⟨s,G1.refl _ _ _⟩;subst A;obtain⟨m,rfl⟩:∃m,g'=m+1:=⟨g'-1,o!⟩
 have key:∀(v:Gh)(u:Aw)(k:S),v=h.at_ id D (g+k) (h.cap id)->u=H.set id (.live (g+k) [])->(JT X v u w/\G1 h H w v u w)->(JT X (h.at_ id D (g+(k+1)) (h.cap id)) (H.set id (.live (g+(k+1)) [])) w/\G1 h H w (h.at_ id D (g+(k+1)) (h.cap id)) (H.set id (.live (g+(k+1)) [])) w):=by
  intro v u k x y J;subst x y;obtain⟨q1,q2⟩:=J.1.bump (id:=id) (g:=g+k) (cs:=[]) (by simp[t]) (by simp[Gh.at_]);have K:(h.at_ id D (g+k) (h.cap id)).at_ id D (g+k+1) ((h.at_ id D (g+k) (h.cap id)).cap id)=h.at_ id D (g+(k+1)) (h.cap id):=by unfold Gh.at_;simp only[Gh.mk.injEq];refine⟨funext λi=>?_,funext λi=>?_,funext λi=>?_⟩<;>by_cases r:i=id<;>simp[r,WZ]
  rw[K,Yo]at q1 q2;exact⟨q1,J.2.trans q2⟩
 have all:∀k,JT X (h.at_ id D (g+(k+1)) (h.cap id)) (H.set id (.live (g+(k+1)) [])) w/\G1 h H w (h.at_ id D (g+(k+1)) (h.cap id)) (H.set id (.live (g+(k+1)) [])) w:=by
  intro k;induction k with
  |zero=>exact s.bump n d
  |succ k N=>exact key _ _ (k+1) rfl rfl N
 have:=all (m-g);rw[show g+(m-g+1)=m+1 by omega]at this;rw[d];exact this;have b:h.io id=Z B:=D_;have a:j.size=h.cap id:=o;have:=s.upd (g':=g') (B:=B) (arr:=j) (T:=T) (fz:=G) (w':=w) n I (λ_=>⟨b,a.symm⟩) (.inl b) L (λ_ _ _=>rfl) rfl rfl rfl (Al _) ⟨f,E_,C,c⟩;rw[a]at this;rw[b];exact this
end
section
variable {P:Program}{N:Nat}{o:Oper}{env:Env}{H:Aw}{K:Ad->Aw->Prop}
def Bv.regen{id g g' sz off n:S}{c}(a:h.gen id=g)(r:Bv (cx j h H d) (.sl id g sz off n) c):
  Bv (cx j (h.at_ id (h.io id) g' (h.cap id)) (H.set id A) d) (.sl id g' sz off n) c:=by
 cases r with
 |sl b i X f=>refine .sl (by simpa[cx]using b) (by simp[cx,Gh.at_]) X λ_=>?_;have:=f a;simpa[cx,Gh.at_]using this
def JS.regen{id g g' sz off n:S}{cs}{H1:Aw}(j:g<=g')(d:H1[id]?=Z (Fw.live g cs))(h:JS P N o env H λv b=>v=.sl id g sz off n/\b=H1)(k:K (.sl id g' sz off n) (H1.set id (.live g' cs))):JS P N o env H K:=by intro r X f a w s Q;apply Ww (h r X f a w s Q);rintro p t ⟨c,v,q,b,i,⟨rfl,rfl⟩,l,e,m⟩;obtain⟨q1,q2⟩:=e.regen (g':=g') d j;exact⟨c,_,_,_,i,k,Bv.regen (e.live id g cs d).1 l,q1,m.trans q2⟩
theorem Sl{sx xx:Operand}{t e:TypeId}{id g g' n sz m:Nat}{cs news:Ψ Ad}(ho:o.op=.call {callee:=.builtin .append,args:= #[sx,xx],argTypes:= #[t,t]})(he:eI P t=Z (D,e,sz))(S:0<sz)(b5:Qh P e=E)
  (hs:BR env sx=.sl id g sz 0 n) (Z_:H[id]?=Z (Fw.live g cs)) (hn:θ cs=n*sz) (hx:ID H sz (BR env xx)=Z (m,news)) (bl:n+m<=16777216)
  (b9:g<g'\/(g'=g/\m=0)) (hk:K (.sl id g' sz 0 (n+m)) (H.set id (.live g' (cs++news)))):JS P N o env H K:=by
 apply C1 (by rw[ho];rfl);intro X h a w s Q;obtain⟨a7,b,hi⟩:=QB he;obtain⟨i,z,y,bz,hz,b7⟩:=Rl b5;have u:=jN hi y;have rs:=DN s.env sx;rw[hs]at rs;have rx:=DN s.env xx;obtain⟨ap,a9⟩:=s.sim.live id g cs Z_;have b1:h.gen id=g:=ap;have L:id<θ H:=by rcases A0 id (θ H) with U|U;exact U;grind[u?]
 have a6:ID H sz (.sl id g sz 0 n)=Z (n,cs):=by grind[ID]
 unfold Oper.wp;have bG:(h.io id=D/\n=0/\a.eval sx=.slice D 0 0)\/∃B cap,h.io id=Z B/\n<=cap/\cap*sz<=h.cap id/\a.eval sx=.slice (Z ⟨B,0,D⟩) n cap:=by
  generalize a.eval sx=c at rs;cases rs with
  |sl p q r hc=>rcases hc ap with⟨h1,U,_,h3⟩|⟨B,cap,h1,U,h3,h4⟩;exact .inl ⟨h1,U,h3⟩;exact .inr ⟨B,cap,h1,U,by simpa[cx]using h3,h4⟩
 have ao:∀l cap,a.eval sx=.slice l n cap→cap<n+m→0<m→
   Oper.upon P o a (λa' V=>∃c v h' H',a'=a.put o.dst c/\K v H'/\Bv (cx X h' H' V) v c/\JT X h' H' V/\G1 h H w h' H' V) Q ((execOp a.eval o).run P w):=by
  intro l cap A a2 b3;have sd:=s.sim.drew;obtain⟨ax,al,G,a8,O,d,D_,_,J⟩:=Ir (P:=P) sd (rx.later (G1.drew.later X)) S hx;obtain⟨_,_,_,_,_,_,_,a3,_⟩:=Ir (P:=P) s.sim rx S hx;obtain⟨_,_,os,_,_,R,a5,_,b0⟩:=Ir (P:=P) sd (rs.later (G1.drew.later X)) S a6;obtain⟨C,hC,E_⟩:=kL (ty:=o.type) (base:=l) (n:=n) (cap:=cap) (os:=os) a7 y hz bz a3 (by rw[u,<-A];exact b0) (by rw[u];exact J) a2 bl;rw[Lm ho (by rw[A];exact E_),Oper.upon_value];have hh:Holds (cx X h H w.drew) (cs++news) (os.toArray++G.toArray++Builtin.zeroCells z.cells (C-(n+m))) (0,0):=qy R d a5 D_;obtain⟨q1,q2⟩:=sd.upd (g':=g') (B:=w.heap.size) (T:=e) (fz:=(0,0)) (w':={w.drew with heap:=w.drew.heap.push (.cells (os.toArray++G.toArray++Builtin.zeroCells z.cells (C-(n+m))) e)}) Z_ o! (λbm=>o!)
   (.inr (Al _)) (by show(w.heap.push _)[w.heap.size]?=_;simp) (λk hk bm=>by show(w.heap.push _)[k]?=w.heap[k]?;rw[UG,D! bm]) rfl rfl rfl (by show w.heap.size<=(w.heap.push _).size;simp) hh
  refine⟨_,_,_,_,rfl,hk,.sl (by simpa[cx]using L) (by simp[cx,Gh.at_]) ⟨_,_,rfl⟩ λ_=>.inr ⟨w.heap.size,C,by simp[cx,Gh.at_],hC,?_,rfl⟩,q1,G1.drew.trans q2⟩;have e1:θ G=m*sz:=by rw[d.1,O]
  have e2:θ os=n*sz:=by rw[R.1,hn]
  simp only[cx,Gh.at_,if_true,qE,Yp,Vq,b7,u,e1,e2];have:(C-(n+m))*sz+(n*sz+m*sz)=C*sz:=by rw[<-D5,<-D5];congr 1;omega
  omega
 rcases bG with⟨F,rfl,A⟩|⟨B,cap,F,b8,I,A⟩;rcases Ts m with hm|hm;subst hm;obtain⟨ax,al,G,a8,O,d,D_,M,J⟩:=Ir (P:=P) s.sim rx S hx;have a4:news=[]:=D8 o!;subst a4;have bN:cs=[]:=D8 o!;subst bN;have b6:G=[]:=D8 d.1;subst b6;have E_:=fx (ty:=o.type) (base:=D) (n:=0) (cap:=0) (w':=w) a7 y M (by rw[u];exact J) o! rfl;rw[Lm ho (by rw[A];exact E_),Oper.upon_value];obtain⟨q1,q2⟩:=s.sim.regen (g':=g') Z_ o!;rw[F]at q1 q2;rw[Dc]at hk;exact⟨_,_,_,_,rfl,hk,.sl (by simpa[cx]using L) (by simp[cx,Gh.at_]) ⟨_,_,rfl⟩ λ_=>.inl ⟨by simp[cx,Gh.at_],rfl,rfl,rfl⟩,q1,q2⟩;exact ao D 0 A o! hm;rcases A0 cap (n+m)with b2|a1;exact ao _ cap A b2 o!;obtain⟨ax,al,G,a8,O,d,D_,M,J⟩:=Ir (P:=P) s.sim rx S hx;rcases a9 with⟨bt,_⟩|⟨B',W,T,fz,f,ar,hb,a0,ca,bb,Y⟩;rw[show(cx X h H w).io id=h.io id from rfl,F]at bt;cases bt;rw[show(cx X h H w).io id=h.io id from rfl,F]at ar;injection ar with e0;subst e0;have x:W.size=h.cap id:=a0;have e1:θ G=m*sz:=by rw[d.1,O]
 have b4:n*sz+m*sz<=W.size:=by rw[<-D5,x];exact Cl (NW _ a1) I
 obtain⟨V,ad,p1,p2,p3,p4,p5,p6,p7,p8,p9⟩:=Vp (P:=P) (off:=n*sz) G 0 W w hb o! bb D_;have E_:=fx (ty:=o.type) (base:=Z ⟨B,0,D⟩) (n:=n) (cap:=cap) (w':=V) a7 y M (by rw[u];exact J) a1 (by rw[u];simp only[PK,DZ];exact p1);rw[Lm ho (by rw[A];exact E_),Oper.upon_value];have hh:Holds (cx X h H w) (cs++news) ad fz:=by
  refine⟨λj=>if n*sz<=j/\j<n*sz+m*sz then G.getD (j-n*sz) undef else f j,by simp[hn,O];omega,by rw[p3];exact bb,λj v hj=>?_⟩;rw[p4];simp only[NV,e1];rcases A0 j (θ cs) with U|U;rw[CY U]at hj;rw[D! o!,D! o!];exact Y j v hj;rw[Cn U]at hj;have b':j-θ cs<θ news:=by rcases A0 (j-θ cs) (θ news) with h3|h3;exact h3;rw[Ct h3]at hj;cases hj
  rw[C! o!,C! o!];have hg:G[j-n*sz]?=Z (G[j-n*sz]' o!):=Au o!;have eg:G.getD (j-n*sz) undef=G[j-n*sz]' o!:=by rw[Rp,hg];rfl
  rw[eg];refine⟨hg,D_ _ (F8 _),d.2 _ v _ hj ?_⟩;rw[hn];exact hg
 obtain⟨q1,q2⟩:=s.sim.upd (g':=g') (B:=B) (arr:=ad) (T:=T) (fz:=fz) (w':=V) Z_ o! (λ_=>⟨F,by rw[p3,x]⟩) (.inl F) p2 (λk _ hk=>p5 k hk) p6 p7 p8 (by rw[p9];exact Al _) hh;refine⟨_,_,_,_,rfl,hk,.sl (by simpa[cx]using L) (by simp[cx,Gh.at_]) ⟨_,_,rfl⟩ λ_=>.inr ⟨B,cap,by simp[cx,Gh.at_],a1,?_,rfl⟩,q1,q2⟩;simp only[cx,Gh.at_,if_true,p3,DZ,x];exact I
theorem eM{m:S}(j:o.op=.call {callee:=.builtin .append,args:= #[p,a],argTypes:= #[b,b]})(i:eI P b=Z (D,Y,n))(d:0<n)(c:Qh P Y=E)
  (k:BR env p=.nils) (l:ID H n (BR env a)=Z (m,f)) (h:m<=16777216) (t:K (.sl (W H) m n 0 m) (H++[.live m f])):JS P N o env H K:=by
 apply JS.regen (id:=W H) (g:=0) (g':=m) (cs:=f) (BV _) q! (JS.append_nil j i d c k l h ⟨rfl,rfl⟩);grind
theorem iH{sz m:S}{d:Ψ Ad}(q:o.op=.call {callee:=.builtin .append,args:= #[p,a],argTypes:= #[b,b]})(j:eI P b=Z (D,Y,sz))(i:0<sz)(k:Qh P Y=E)
  (r:BR env p=.vx sz f) (s:ID H sz (BR env a)=Z (m,e)) (c:W f+m<=16777216) (v:0<m) (hn:n=W f+m) (l:d=f.flatMap Ad.cells++e) (u:K (.sl (W H) n sz 0 n) (H++[.live n d])):JS P N o env H K:=by
 subst hn l;refine JS.regen (id:=W H) (g:=0) (g':=W f+m) (cs:=f.flatMap Ad.cells++e) (BV _) q! (Y4 q j i k r s c (λh=>o!) λ_=>⟨rfl,rfl⟩) ?_;grind
theorem UX{t:TypeId}{len sz:S}{vs:Ψ Ad}(b:o.op=.buildSlice t len y)(c:Tb P env t len y=Z (sz,vs))
  (d:K (.sl (W H) (W vs) sz 0 (W vs)) (H++[.live (W vs) (vs.flatMap Ad.cells)])):JS P N o env H K:=by
 apply JS.regen (id:=W H) (g:=0) (g':=W vs) (cs:=vs.flatMap Ad.cells) (BV _) q! (eN b c ⟨rfl,rfl⟩);grind
theorem JS.makeSlice{r:IntKind}{c:Int}(k:o.op=.makeSlice b p a)(j:eI P b=Z (D,Y,n))(x:0<n)(l:Qh P Y=E)(q:Zk P Y=Z f)(d:W f=n)
  (m:BR env p=.int G i) (t:BR env a=.int r c) (y:0<=i) (h:i<=c) (e:c<=16777216) (u:K (.sl (W H) i.toNat n 0 i.toNat) (H++[.live i.toNat (ς i.toNat f).flatten])):JS P N o env H K:=by
 refine JS.regen (id:=W H) (g:=0) (g':=i.toNat) (cs:=(ς i.toNat f).flatten) (H1:=H++[.live 0 (ς i.toNat f).flatten]) (sz:=n) (off:=0) (n:=i.toNat) (BV _) q! (nC k j x l q d m t y h e ⟨rfl,rfl⟩) k!
end
section
variable {P:Program}{N:Nat}{o:Oper}{env:Env}{H:Aw}{K:Ad->Aw->Prop}
def nK(s:Ψ UInt8):Ψ Ad:=s.map λb=>.int .u8 (b.toNat:Int)
theorem pJ{e:TypeId}(q:o.op=.convert b Y p)(d:P.underlying b=Z F)(y:P.underlying Y=Z (.slice e))(z:P.underlying e=Z (.int .u8))
  (J:BR env p=.str x) (E_:K (.sl (W H) 0 1 0 (W x)) (H++[.live 0 (nK x)])):JS P N o env H K:=by
 apply C1 (by rw[q];rfl);intro X h a w st Q;have n:=DN st.env p;rw[J]at n;generalize r:a.eval p=c at n;cases n with
 |str t G=>
  have l:t.size=W x:=by rw[<-G];rfl
  have k:(execOp a.eval o).run P w=.ok (.value (.slice (Z ⟨w.heap.size,0,D⟩) t.size (grownCap w t.size 0 e))) (Lib.bytesWorld w e t):=by have:=Lib.run_convert_string_bytes w b Y e t d y z;unfold execOp;rw[q];simp[resolve,r,this]
  unfold Oper.wp;rw[k,Oper.upon_value];have B:=grownCap_ge w t.size 0 e;have m:(Lib.bytesCells w e t).size=grownCap w t.size 0 e:=by grind[Lib.bytesCells,Array.size_append,Array.size_map,Array.size_replicate]
  have L:=st.sim.drew;have I:Lib.bytesWorld w e t={w.drew with heap:=w.drew.heap.push (.cells (Lib.bytesCells w e t) e ((Lib.bytesCells w e t).size,(Lib.bytesCells w e t).size+1))}:=by unfold Lib.bytesWorld World.freeze World.alloc;rw[D! g!];show World.mk _ _ _ _ _=World.mk _ _ _ _ _;congr 1;apply Array.ext_getElem?;intro j;have m:w.drew.heap.size=w.heap.size:=rfl;grind
  rw[I];have C:Holds (cx X h H w.drew) (nK x) (Lib.bytesCells w e t) ((Lib.bytesCells w e t).size,(Lib.bytesCells w e t).size+1):=by
   refine⟨λj=>.int .u8 ((x.getD j 0).toNat:Int),by simp[nK];omega,λi M=>?_,λj v g=>?_⟩;grind;unfold nK at g;rw[CU]at g;cases f:x[j]? with
   |none=>grind
   |some s=>
    rw[f]at g;simp only[Bt,Ar]at g;subst g;have D_:j<W x:=by grind[Nat.lt_or_ge,u?]
    have A:x.getD j 0=s:=by rw[Rp,f];rfl
    refine⟨?_,rfl,?_⟩;grind[Lib.bytesCells,Array.getElem?_append_left];simp only[A];exact .int _ _
  refine⟨_,_,_,_,rfl,E_,.sl (by simp[cx]) (by simp[cx,Gh.at_]) ⟨_,_,by rw[l]⟩ λ_=>.inr ⟨w.heap.size,grownCap w t.size 0 e,?_,o!,?_,by rw[l]⟩,L.push _ e _ (nK x) C,G1.drew.trans (G1.push _ _ _)⟩;have:w.drew.heap.size=w.heap.size:=rfl;simp[cx,Gh.at_,this];simp only[cx,Gh.at_,if_true];omega
theorem qo{e:TypeId}(f:o.op=.convert b Y p)(h:P.underlying b=Z F)(c:P.underlying Y=Z (.slice e))(d:P.underlying e=Z (.int .u8))
  (i:BR env p=.str x) (j:K (.sl (W H) (W x) 1 0 (W x)) (H++[.live (W x) (nK x)])):JS P N o env H K:=by
 refine JS.regen (id:=W H) (g:=0) (g':=W x) (cs:=nK x) (H1:=H++[.live 0 (nK x)]) (sz:=1) (off:=0) (n:=W x) (BV _) q! (pJ f h c d i ⟨rfl,rfl⟩) k!
end
def Fa.virtC{N}{env}{b g i sz:Nat}(Q:H[b]?=Z (Fw.live g f))(hi:f[i]?=Z .nils):
  Fa N (θ H) env H env (H.set b (.live g (f.set i (.sl (θ H) 0 sz 0 0)))++[.live 0 []]):=by
 have J:b<θ H:=by rcases A0 b (θ H) with P|P;exact P;rw[Ct P]at Q;cases Q
 refine⟨q!,λX h a w s=>⟨h.at_ (θ H) D 0 0,?_,λid ap=>by simp[Gh.at_,Bq ap],?_⟩⟩;have O:=s.sim.virt;have hx:=G1.virt (h:=h) (H:=H) (w:=w);have W:=hx.later X
 have key:∀(j:Nat)(e:Fw),(H.set b (.live g (f.set i (.sl (θ H) 0 sz 0 0)))++[Fw.live 0 []])[j]?=Z e→
   (j≠b/\(H++[Fw.live 0 []])[j]?=Z e)\/(j=b/\e=.live g (f.set i (.sl (θ H) 0 sz 0 0))):=by
  intro j e p;rcases A0 j (θ H) with y|y;rw[CY (by simpa using y),Wf]at p;split at p;rename_i G;subst G;injection p with p;exact .inr ⟨rfl,p.symm⟩;rename_i G;exact .inl ⟨λe=>G e.symm,by rw[CY y];exact p⟩;refine .inl ⟨o!,?_⟩;rw[Cn (by simpa using y)]at p;rw[Cn y];simpa using p
 have E_:∀B,owned (h.at_ (θ H) D 0 0) (H.set b (.live g (f.set i (.sl (θ H) 0 sz 0 0)))++[.live 0 []]) B->owned (h.at_ (θ H) D 0 0) (H++[.live 0 []]) B:=by rintro B ⟨j,e,p,z,o⟩;rcases key j e p with⟨_,q⟩|⟨rfl,rfl⟩;exact⟨j,e,q,z,o⟩;exact⟨j,_,by rw[CY J];exact Q,q!,o⟩
 have C:(cx X (h.at_ (θ H) D 0 0) (H++[.live 0 []]) w).Later (cx X (h.at_ (θ H) D 0 0) (H.set b (.live g (f.set i (.sl (θ H) 0 sz 0 0)))++[.live 0 []]) w):={size:=Al _,keep:=λ_ _ _ _=>rfl,own:=λB _ ho=>ho.imp _root_.id (E_ B),n:=by simp[cx],gen:=λ_ _=>Al _,same:=λ_ _ _=>⟨rfl,rfl⟩}
 refine⟨⟨λB Y=>⟨(O.out B Y).1,λho=>(O.out B Y).2 (E_ B ho)⟩,λj g0 ad p=>?_,λj L p=>?_,λj k e e' B q P ax a0 h3 h4=>?_,O.bldKeep λj e p Y=>?_⟩,λt v m=>?_,s.size⟩;rcases key j _ p with⟨_,q⟩|⟨rfl,q⟩;obtain⟨U,hh⟩:=O.live j g0 ad q;refine⟨U,?_⟩;rcases hh with⟨o,h0⟩|⟨B,F,T,fz,A,o,I,x,M,K,l⟩;exact .inl ⟨o,h0⟩;exact .inr ⟨B,F,T,fz,A,o,I,x,M,K,λk v u=>⟨(l k v u).1,(l k v u).2.1,(l k v u).2.2.later C⟩⟩;injection q with h5 h6;subst h5 h6;obtain⟨U,hh⟩:=O.live j g0 f (by rw[CY J];exact Q);refine⟨U,?_⟩;rcases hh with⟨o,h0⟩|⟨B,F,T,fz,A,o,I,x,M,K,l⟩;subst h0;simp at hi;refine .inr ⟨B,F,T,fz,A,o,I,x,by simpa using M,K,λk v u=>?_⟩;rw[Wf]at u;split at u;rename_i ar;subst ar;split at u;injection u with u;subst u;obtain⟨p1,Z_,p3⟩:=l i _ hi;refine⟨p1,Z_,?_⟩;generalize A i=c at p3 Z_;cases p3;exact .sl (by simp[cx]) (by simp[cx,Gh.at_]) ⟨_,_,rfl⟩ λ_=>.inl ⟨by simp[cx,Gh.at_],rfl,rfl,rfl⟩;cases u;obtain⟨p1,Z_,p3⟩:=l k v u;exact⟨p1,Z_,p3.later C⟩;rcases key j _ p with⟨_,q⟩|⟨rfl,q⟩;obtain⟨U,B,r,q1,q2,q3,q4,q5,q6,q7,q8,q9⟩:=O.lp j L q;exact⟨U,B,r,q1,q2,q3,q4,q5,q6,q7,q8,λt v m=>⟨(q9 t v m).1,(q9 t v m).2.later C⟩⟩;cases q;have back:∀{j:Nat}{e:Fw},(H.set b (.live g (f.set i (.sl (θ H) 0 sz 0 0)))++[Fw.live 0 []])[j]?=Z e->e≠.dead->∃e0,(H++[Fw.live 0 []])[j]?=Z e0/\e0≠.dead:=by intro j e p z;rcases key j _ p with⟨_,q⟩|⟨rfl,q⟩;exact⟨e,q,z⟩;exact⟨_,by rw[CY J];exact Q,q!⟩
 obtain⟨d,al,ao⟩:=back q ax;obtain⟨d',R,S⟩:=back P a0;exact O.inj j k _ _ B al R ao S h3 h4;rcases key j _ p with⟨_,q⟩|⟨rfl,q⟩;exact⟨q,rfl,rfl,rfl,λ_ _ _ _ _=>rfl⟩;subst q;cases Y;exact⟨(s.env t v m).1,((s.env t v m).2.later W).later C⟩;rintro B ⟨j,e,p,z,o⟩;rcases A0 j (θ H) with y|y;have D_:h.io j=Z B:=by simpa[Gh.at_,Bq y]using o
 by_cases V:j=b;subst V;exact⟨j,_,Q,q!,D_⟩;rw[CY (by simpa using y),Dd (V ·.symm)]at p;exact⟨j,e,p,z,D_⟩;rw[Cn (by simpa using y)]at p;have:j=θ H:=by rcases Nat.eq_or_lt_of_le y with e|P;exact e.symm;rw[Ct w!]at p;cases p
 subst this;simp[Gh.at_]at o
def Bv.nil_vs(a:0<N)(r:Bv q .nils g):Bv q (.vs N []) g:=by cases r;exact Bv.vs (rows:=[]) (cap:=0) (λ_ _=>undef) (Al _) a (λ_ _ h=>by simp at h) (λh=>(h rfl).elim) λ_ _ _ _ h=>by simp at h
def Fa.subset{N}{env2:Env}{H:Aw}(h:∀q∈env2,q∈m):Fa N (W H) m H env2 H:=⟨Al _,λ_ g _ _ s=>⟨g,⟨s.sim,λt v a=>s.env t v (h _ a),s.size⟩,λ_ _=>⟨rfl,rfl,rfl⟩,λ_ h=>h⟩⟩
section
variable {P:Program}
theorem AC9{b:Operand→Ad}(h:callT b K=Z (.inl (z,e))):
  ∃c f first a,K=.call c/\c.callee=.value f/\b f=.fn (.func z) first a/\e=first++c.args.toList.map b++a:=by
 unfold callT at h;grind
section
variable {N:Nat}{o:Oper}{env:Env}{H H':Aw}{v:Ad}
def lj{F:FuncId}{vs:Ψ Ad}(h:callT (BR env) o.op=Z (.inl (F,vs)))(d:Enters P F=E)(e:Ek P F vs H (DO v H')):JS P N o env H (DO v H'):=by obtain⟨c,f,first,b,i,a,g,rfl⟩:=AC9 h;exact qm i a g d e
end
end
mutual
theorem Rk{p q:S->Bool}(h:∀id,p id=E->q id=E):∀v:Ad,v.idsAll p=E->v.idsAll q=E
 |.ptr id g off,k=>h id k
 |.sl id g sz off len,k=>h id k
 |.yf id,k=>h id k
 |.mp id,k=>h id k
 |.itp id m,k=>by simp only[Ad.idsAll,Ba]at k⊢;exact⟨h id k.1,h m k.2⟩
 |.vptr cs,k=>If h cs k
 |.vs sz rows,k=>If h rows k
 |.vx sz rows,k=>If h rows k
 |.fn f a b,k=>by simp only[Ad.idsAll,Ba]at k⊢;exact⟨If h a k.1,If h b k.2⟩
 |.agg cs,k=>If h cs k
 |.tup cs,k=>If h cs k
 |.bool _,_=>rfl
 |.int _ _,_=>rfl
 |.str _,_=>rfl
 |.nilp,_=>rfl
 |.nils,_=>rfl
 |.nilf,_=>rfl
 |.any,_=>rfl
theorem If{p q:S->Bool}(h:∀id,p id=E->q id=E):∀l:Ψ Ad,Ad.idsAllL p l=E->Ad.idsAllL q l=E
 |[],_=>rfl
 |v::r,k=>by simp only[Ad.idsAllL,Ba]at k⊢;exact⟨Rk h v k.1,If h r k.2⟩
end
mutual
theorem AFo(d e:S->S):∀v:Ad,(v.ren d).ren e=v.ren λid=>e (d id)
 |.ptr id g i=>rfl
 |.sl id g sz i len=>rfl
 |.yf id=>rfl
 |.mp id=>rfl
 |.itp _ _=>rfl
 |.vptr h=>by simp only[Ad.ren,R2 d e h]
 |.vs sz c=>by simp only[Ad.ren,R2 d e c]
 |.vx sz c=>by simp only[Ad.ren,R2 d e c]
 |.fn f a b=>by simp only[Ad.ren,R2 d e a,R2 d e b]
 |.agg h=>by simp only[Ad.ren,R2 d e h]
 |.tup h=>by simp only[Ad.ren,R2 d e h]
 |.bool _=>rfl
 |.int _ _=>rfl
 |.str _=>rfl
 |.nilp=>rfl
 |.nils=>rfl
 |.nilf=>rfl
 |.any=>rfl
theorem R2(a b:S->S):∀l:Ψ Ad,Ad.renL b (Ad.renL a l)=Ad.renL (λid=>b (a id)) l
 |[]=>rfl
 |v::r=>by simp only[Ad.renL,AFo a b v,R2 a b r]
end
mutual
theorem ABA{p q:S->Bool}{c:S->S}(h:∀id,p id=E->q (c id)=E):∀v:Ad,v.idsAll p=E->(v.ren c).idsAll q=E
 |.ptr id g off,k=>h id k
 |.sl id g sz off len,k=>h id k
 |.yf id,k=>h id k
 |.mp id,k=>h id k
 |.itp id m,k=>by simp only[Ad.ren,Ad.idsAll,Ba]at k⊢;exact⟨h id k.1,h m k.2⟩
 |.vptr cs,k=>NQ h cs k
 |.vs sz rows,k=>NQ h rows k
 |.vx sz rows,k=>NQ h rows k
 |.fn f a b,k=>by simp only[Ad.ren,Ad.idsAll,Ba]at k⊢;exact⟨NQ h a k.1,NQ h b k.2⟩
 |.agg cs,k=>NQ h cs k
 |.tup cs,k=>NQ h cs k
 |.bool _,_=>rfl
 |.int _ _,_=>rfl
 |.str _,_=>rfl
 |.nilp,_=>rfl
 |.nils,_=>rfl
 |.nilf,_=>rfl
 |.any,_=>rfl
theorem NQ{p q:S->Bool}{a:S->S}(h:∀id,p id=E->q (a id)=E):∀l:Ψ Ad,Ad.idsAllL p l=E->Ad.idsAllL q (Ad.renL a l)=E
 |[],_=>rfl
 |v::r,k=>by simp only[Ad.renL,Ad.idsAllL,Ba]at k⊢;exact⟨ABA h v k.1,NQ h r k.2⟩
end
def Pure(v:Ad):Prop:=v.idsAll (λ_=>η)=E
def tk(e:Fw):Prop:=match e with|.live _ cs=>Ad.idsAllL (λ_=>η) cs=E|_=>False
def Pure.all(h:Pure k)(p:S->Bool):k.idsAll p=E:=Rk (λ_ e=>by cases e) k h
def Pure.ren{v}(h:Pure v)(ρ:S->S):v.ren ρ=v:=ABh (p:=λ_=>η) (λ_ e=>by cases e) v h
def tk.all(h:tk A)(p:S->Bool):A.idsAll p=E:=by
 cases A with
 |live g a=>exact If (λ_ A=>by cases A) a h
 |_=>cases h
def tk.ren(h:tk A)(ρ:S->S):A.ren ρ=A:=by
 cases A with
 |live g a=>simp only[Fw.ren];rw[W9 (p:=λ_=>η) (λ_ A=>by cases A) a h]
 |_=>cases h
theorem Ek.sub{P:Program}(bs:Ψ S){Qc:Ad→Aw→Prop}(a:bs.Nodup)(g:∀b∈bs,b<W H)
  (t:∀b∈bs,((H.getD b .dead).idsAll λid=>decide (id∈bs))=E) (k:Ad.idsAllL (λid=>decide (id∈bs)) f=E)
  (y:Ek P z (Ad.renL (bs.idxOf ·) f) (aI H bs) Qc) (A:∀v i,Qc v i->J (v.ren (Tw H bs)) (Vm H bs i)):Ek P z f H J:=by
 intro X h w c s o K;refine(y (Xs X h H bs) (Xd h bs) w c (s.sub a t) (by simpa[NS]using o) ?_).mono ?_;intro j v d l F;rw[NS,CU]at l;cases r:f[j]? with
 |none=>grind
 |some u=>rw[r]at l;simp at l;subst l;exact Bv.ren (p:=λid=>decide (id∈bs)) (yl ·) rfl AF4 (K j u d r F) (NP k r)
 rintro e E_ ⟨d,v,m,i,rfl,q,D_,C,x⟩;have B:W bs<=W i:=by have:=x.n;simpa[aI]using this
 exact⟨d,_,N6 h H bs m,Vm H bs i,rfl,A v i q,s.back a g x D_,Bv.back a g B C,G1.back a g x⟩
theorem si{f:S->S}:∀bs(H a:Aw),(∀e∈a,tk e)->cY f H bs a=AH2 H (bs.zip a)
 |[],H,a,_=>by cases a<;>rfl
 |b::bs,H,[],_=>rfl
 |b::bs,H,e::es,h=>by simp only[cY,List.zip_cons_cons,AH2];rw[(h e q!).ren,si bs _ es λc d=>h c (by simp[d])]
theorem Ek.frame{d c H:Aw}(bs:Ψ S)(y:Ek P z f d (DO k c))(l:bs.Nodup)(w:W d=W bs)(x:W c=W bs)
  (m:∀(j b:S)(a:Fw),bs[j]?=Z b->d[j]?=Z a->H[b]?=Z a) (o:∀a∈d,tk a) (A:∀a∈c,tk a) (s:Pure k)
  (q:Ad.renL (bs.getD · 0) f=e) (v:Ad.idsAllL (λj=>decide (j<W bs)) f=E):Ek P z e H (DO k (AH2 H (bs.zip c))):=by
 have get:∀b∈bs,∃(j:S)(a:Fw),bs[j]?=Z b/\d[j]?=Z a/\H[b]?=Z a:=by
  intro b i;obtain⟨j,n,a⟩:=WX.1 i;have h:bs[j]?=Z b:=k!
  have B:d[j]?=Z (d[j]' o!):=Au o!;exact⟨j,_,h,B,m j b _ h B⟩
 have F:∀b∈bs,b<W H:=k!
 have g:aI H bs=d:=by
  apply JX;intro j;unfold aI;rw[CU];cases n:bs[j]? with
  |none=>grind[List.getElem?_eq_none_iff,u?]
  |some b=>
   have r:j<W bs:=by grind[Nat.lt_or_ge,u?]
   have B:d[j]?=Z (d[j]' o!):=Au o!;have p:=m j b _ n B;rw[B,Bt,Rp,p,np,(o _ (F8 _)).ren]
 refine Ek.sub bs (Qc:=DO k c) l F (λb i=>?_) ?_ ?_ ?_;obtain⟨j,a,_,h,B⟩:=get b i;rw[Rp,B,np];exact(o a (BO h)).all _;grind[NQ,m?,List.getElem_mem];rw[g,<-q,R2];grind[Ad.renL,W9,rA,m?];rintro u t ⟨rfl,rfl⟩;refine⟨s.ren _,?_⟩;grind[Vm,si,List.drop_eq_nil_of_le]
structure Sg(α:Type)where
 sz:S
 f:α->Ad
 pos:0<sz
 len:∀x,(f x).cells.length=sz
 pure:∀x,Pure (f x)
def Sg.cl(e:Sg R)(l:Ψ R):Ψ Ad:=(l.map e.f).flatMap Ad.cells
theorem Sg.clen{a:Type}(e:Sg a):∀l:Ψ a,(e.cl l).length=W l*e.sz
 |[]=>by simp[Sg.cl]
 |x::l=>by have:=Sg.clen e l;simp only[Sg.cl,B4,Ii,Aa,e.len]at this⊢;grind
def xu(k:IntKind):Sg Int:=⟨1,.int k,g!,λ_=>rfl,λ_=>rfl⟩
abbrev Bd:=Ψ UInt8
def ix{α:Type}(l:List α)(i:Int):Option α:=if 0<=i then l[i.toNat]? else ε
def app{α:Type}(l xs:Ψ α):Ω (Ψ α):=if W l+W xs<=16777216 then Z (l++xs)else D
theorem ALH{f:R->Ad}{l}{x:R}(h:ix l i=Z x):0<=i/\(l.map f)[i.toNat]?=Z (f x):=by unfold ix at h;grind
theorem kK{l a r:Ψ R}(h:app l a=Z r):W l+W a<=16777216/\r=l++a:=by grind[app]
def AJK(e:Sg R)(l:Ψ R):AB5 e.sz (e.cl l) (l.map e.f):=⟨e.pos,λv b=>by obtain⟨x,_,rfl⟩:=Bs.1 b;exact e.len x,rfl⟩
inductive Step(S R:Type)where
 |next (s:S)
 |done (r:R)
def fP{S R:Type}(body:S->Ω (Step S R)):Nat->S->Ω R
 |0,_=>D
 |n+1,s=>
  match body s with
  |some (.next s')=>fP body n s'
  |some (.done r)=>Z r
  |none=>D
theorem ABJ{body:l->Ω (Step l R)}{s:l}{r:R}(h:fP body n s=Z r):fP body (n+1) s=Z r:=by induction n generalizing s<;>grind[fP]
theorem AFH{body:l->Ω (Step l R)}{s:l}{r:R}(h:fP body n s=Z r)(a:n<=N):fP body N s=Z r:=by induction a<;>grind[ABJ]
open Classical in
noncomputable def Ai{S R:Type}(body:S->Ω (Step S R))(s:S):Ω R:=if h:∃r n,fP body n s=Z r then Z h.choose else D
theorem ma{body:l->Ω (Step l R)}{s:l}{r:R}:Ai body s=Z r↔∃n,fP body n s=Z r:=by
 unfold Ai;constructor;intro h;split at h<;>grind;rintro⟨n,hn⟩;have a:∃r n,fP body n s=Z r:=⟨r,n,hn⟩
 grind[AFH]
theorem HX(body:l→Ω (Step l R))(s:l):Ai body s=match body s with
  |some (.next b)=>Ai body b
  |some (.done r)=>Z r
  |none=>D:=by
 apply Option.ext;intro r;rw[ma];constructor
 ·rintro⟨n,h⟩;cases n with
  |zero=>cases h
  |succ n=>
   rw[fP]at h;cases a:body s with
   |none=>rw[a]at h;cases h
   |some q=>
    rw[a]at h;cases q with
    |next b=>exact ma.2 ⟨n,h⟩
    |done r=>exact h
 ·intro h;cases a:body s with
  |none=>rw[a]at h;cases h
  |some q=>
   rw[a]at h;cases q with
   |next b=>obtain⟨n,hn⟩:=ma.1 h;exact⟨n+1,by rw[fP,a];exact hn⟩
   |done c=>exact⟨1,by rw[fP,a];exact h⟩
def ADV{body:l->Ω (Step l R)}(C:l->R->Prop)(c:∀s b r,body s=Z (.next b)->C b r->C s r)(d:∀s r,body s=Z (.done r)->C s r){s:l}{r:R}(h:Ai body s=Z r):C s r:=by
 obtain⟨n,hn⟩:=ma.1 h;clear h;induction n generalizing s with
 |zero=>cases hn
 |succ n e=>
  rw[fP]at hn;cases a:body s with
  |none=>rw[a]at hn;cases hn
  |some q=>
   rw[a]at hn;cases q with
   |next b=>exact c s b r a (e hn)
   |done f=>injection hn with hn;subst hn;exact d s f a
theorem bnd{x:Ω R}{k:R->Ω l}{r:l}(h:x.bind k=Z r):∃a,x=Z a/\k a=Z r:=by cases x<;>grind
abbrev GK(n:S)(α:Type):=Fin n->α
def GK.all{n}{α:Type}(x:α):GK n α:=λ_=>x
def fy(n:S)(e:Sg R)(a:GK n R):Ψ Ad:=(List.finRange n).flatMap λi=>(e.f (a i)).cells
def AEU(n:S)(e:Sg R)(a:GK n R):(fy n e a).length=n*e.sz:=by
 unfold fy;have:∀l:Ψ (Fin n),(l.flatMap λi=>(e.f (a i)).cells).length=W l*e.sz:=by
  intro l;induction l with
  |nil=>simp
  |cons x l c=>rw[Ii,Aa,c,e.len];simp[D5,Ys]
 rw[this,List.length_finRange]
def G2{n:S}(a:GK n R)(i:Int):Option R:=if h:0<=i/\i.toNat<n then δ (a ⟨i.toNat,h.2⟩)else ε
def Xi{n}(a:GK n R)(i:Int)(v:R):GK n R:=λj=>if(j.val:Int)=i then v else a j
theorem qD{a}{x:R}(h:G2 a i=Z x):0<=i/\∃k:Fin n,i=(k.val:Int)/\a k=x:=by grind[G2]
theorem uh(g:R→Ψ l)(sz:S)(c:∀x,(g x).length=sz)(l1:Ψ R)(x:R)(l2:Ψ R):
  (l1++x::l2).flatMap g=l1.flatMap g++g x++l2.flatMap g/\(l1.flatMap g).length=W l1*sz:=by
 induction l1<;>grind
theorem ub(k:Fin n):∃l1 l2,List.finRange n=l1++k::l2/\W l1=k.val/\k∉l1/\k∉l2:=by
 refine⟨(List.finRange n).take k.val,(List.finRange n).drop (k.val+1),?_,k!,?_,?_⟩;have a:(List.finRange n).drop k.val=k::(List.finRange n).drop (k.val+1):=by rw[OQ q!];simp
 rw[<-a,DG];intro h;obtain⟨i,b,e⟩:=WX.1 h;grind;intro h;obtain⟨i,b,e⟩:=WX.1 h;grind
theorem uF(e:Sg R)(a:GK n R)(k:Fin n):∃b c,fy n e a=b++(e.f (a k)).cells++c∧W b=k.val*e.sz∧
  ∀v,fy n e (Xi a k.val v)=b++(e.f v).cells++c:=by
 obtain⟨l1,l2,g,h,m,o⟩:=ub k;unfold fy;rw[g];obtain⟨p,q⟩:=uh (λi=>(e.f (a i)).cells) e.sz (λi=>e.len _) l1 k l2;refine⟨_,_,p,by rw[q,h],λv=>?_⟩;have r:∀j,j≠k->Xi a k.val v j=a j:=by grind[Xi]
 have l:Xi a k.val v k=v:=by grind[Xi]
 rw[(uh (λi=>(e.f (Xi a k.val v i)).cells) e.sz (λi=>e.len _) l1 k l2).1];grind[List.map_congr_left]
section
variable {α:Type}{n:Nat} (e:Sg α) {a:GK n α}{i:Int}{x:α}
theorem AEV(h:G2 a i=Z x)(pre b:Ψ Ad):(pre++fy n e a++b).length=W pre+n*e.sz+W b∧W pre+i.toNat*e.sz+e.sz≤(pre++fy n e a++b).length∧
  ((pre++fy n e a++b).drop (W pre+i.toNat*e.sz)).take e.sz=(e.f x).cells/\∀v,XZ (pre++fy n e a++b) (W pre+i.toNat*e.sz) (e.f v).cells=pre++fy n e (Xi a i v)++b:=by
 obtain⟨r,k,rfl,rfl⟩:=qD h;obtain⟨c,d,j,l,m⟩:=uF e a k;have o:((k.val:Int)).toNat=k.val:=q!
 have g:=AEU n e a;have q:=e.len (a k);refine⟨k!,?_,?_,λv=>?_⟩;grind;grind;have p:=e.len v;rw[m v,j,o,<-l];have:(pre++(c++(e.f (a k)).cells++d)++b)=(pre++c)++((e.f (a k)).cells++(d++b)):=q!
 rw[this];unfold XZ;rw[<-Aa,Yr,p,<-q,Yb,mJ o!];simp
theorem AEQ{off m:S}(pre b:Ψ Ad)(h:G2 a i=Z x)(c:off+m<=e.sz):W pre+i.toNat*e.sz+off+m<=(pre++fy n e a++b).length/\((pre++fy n e a++b).drop (W pre+i.toNat*e.sz+off)).take m=((e.f x).cells.drop off).take m:=by obtain⟨_,d,g,_⟩:=AEV e h pre b;grind[List.drop_take,List.drop_drop]
end
def sapp(a b:Bd):Ω Bd:=if W a+W b<=9223372036854775807 then Z (a++b)else D
theorem AJL{a b r:Bd}(h:sapp a b=Z r):(if W a+W b<=9223372036854775807 then Z (Ad.str (a++b))else D)=Z (.str r):=by grind[sapp]
def R4(s:Bd)(lo hi:Int):Ω Bd:=if 0<=lo/\lo<=hi/\hi<=W s then Z ((s.drop lo.toNat).take (hi.toNat-lo.toNat))else D
def Sr(s:Ψ R)(lo hi:Int):Ω (Ψ R):=if 0<=lo/\lo<=hi/\hi<=W s then Z ((s.drop lo.toNat).take (hi.toNat-lo.toNat))else D
def E7(l:Ψ Int):Bd:=l.map λn=>UInt8.ofNat n.toNat
theorem yo:∀l:Ψ Int,u8s (l.map (xu .u8).f)=Z (E7 l)
 |[]=>rfl
 |n::l=>by have:=yo l;simp;simp only[xu]at this⊢;simp only[u8s,this];rfl
def AI2(k:IntKind)(l:Ψ Int):(xu k).cl l=l.map (xu k).f:=by
 unfold Sg.cl;induction l with
 |nil=>rfl
 |cons x l a=>simp only[B4,Ii,a];rfl
theorem AFS(l:Ψ Int)(c:kd P Y=.str)(d:kd P b=.bytes):
  X6 P H b Y (.vs 1 (l.map (xu .u8).f))=Z (.str (E7 l)):=by
 simp only[X6,rowsOf];have:(l.map (xu .u8).f).flatMap Ad.cells=l.map (xu .u8).f:=AI2 .u8 l;grind[yo]
def ABK{body:l->Ω (Step l R)}{C:l->R->Prop}(h:∀s q,body s=Z q->match q with|.next d=>∀o,C d o->C s o|.done o=>C s o){s:l}{o:R}(b:Ai body s=Z o):C s o:=ADV C (λs _ r a c=>h s _ a r c) (λs _ a=>h s _ a) b
def mk(x:R)(l c:Int):Option (List R):=if 0<=l/\l<=c/\c<=16777216 then δ (ς l.toNat x)else ε
theorem ALI(e:Sg R)(x:R){c:Int}{r:List R}(h:mk x i c=δ r):(0<=i/\i<=c/\c<=16777216)/\i.toNat=θ r/\(ς i.toNat (e.f x).cells).flatten=e.cl r:=by unfold mk at h;split at h;rename_i b;injection h with h;subst h;unfold Sg.cl;induction i.toNat<;>grind;cases h
def Tl(s:Bd):Ψ Int:=s.map λb=>(b.toNat:Int)
def AKQ(s:Bd):W s=(Tl s).length/\nK s=(xu .u8).cl (Tl s):=by
 refine⟨by simp[Tl],?_⟩;unfold Sg.cl Tl nK;induction s with
 |nil=>rfl
 |cons b r a=>simp only[B4,a];rfl
def six(s:Bd)(i:Int):Option Int:=if 0<=i then(s[i.toNat]?).map λb=>(b.toNat:Int)else ε
theorem AKP{s}{x:Int}(h:six s i=Z x)(a:kd P b=.str):lY P b (.str s) (.int G i)=Z (.int .u8 x):=by grind[six,lY]
def uP(e:Sg R){l}{x:R}(h:ix l i=Z x):∃d j,e.cl l=d++(e.f x).cells++j/\W d=i.toNat*e.sz/\0<=i/\i.toNat<W l/\l[i.toNat]?=Z x/\∀v,e.cl (l.set i.toNat v)=d++(e.f v).cells++j:=by
 unfold ix at h;split at h
 case isFalse=>cases h
 rename_i k;obtain⟨c,n⟩:=EX.1 h;have m:l=l.take i.toNat++x::l.drop (i.toNat+1):=by rw[<-n,<-OQ c,DG]
 have b:∀v,l.set i.toNat v=l.take i.toNat++v::l.drop (i.toNat+1):=λv=>by rw[List.set_eq_take_append_cons_drop,C! c]
 have a:∀v,e.cl (l.take i.toNat++v::l.drop (i.toNat+1))=e.cl (l.take i.toNat)++(e.f v).cells++e.cl (l.drop (i.toNat+1)):=λv=>by simp[Sg.cl]
 refine⟨e.cl (l.take i.toNat),e.cl (l.drop (i.toNat+1)),?_,?_,k,c,h,λv=>by rw[b,a]⟩;conv=>lhs;rw[m]
 exact a x;rw[e.clen,BP,RH (Nat.le_of_lt c)]
def EU{α:Type}(l:List α)(i:Int)(v:α):List α:=l.set i.toNat v
def pj{l:Ψ R}{v:R}(h:W l=n):(EU l i v).length=n:=by rw[<-h];exact WW
section
variable {α:Type} (e:Sg α) {l:Ψ α}{i:Int}{x:α}
theorem AIt(h:ix l i=Z x)(d:N+n<=e.sz):i.toNat*e.sz+N+n<=(e.cl l).length/\((e.cl l).drop (i.toNat*e.sz+N)).take n=((e.f x).cells.drop N).take n:=by obtain⟨j,k,b,c,_⟩:=uP e h;have g:=e.len x;rw[b,<-c];refine⟨k!,?_⟩;rw[A3,Yb,mJ o!,B5,Tr,Yb,fj,C5,g,show n-(e.sz-N)=0 by omega];simp
end
mutual
def Ad.beq:Ad->Ad->Bool
 |.bool a,.bool b=>a==b
 |.int k n,.int k' n'=>decide (k=k')&&τ (n=n')
 |.str s,.str t=>decide (s=t)
 |.nilp,.nilp=>E
 |.nils,.nils=>E
 |.nilf,.nilf=>E
 |.ptr a b c,.ptr a' b' c'=>decide (a=a')&&(τ (b=b')&&τ (c=c'))
 |.vptr cs,.vptr ds=>Ad.beqL cs ds
 |.vs a cs,.vs b ds=>decide (a=b)&&Ad.beqL cs ds
 |.sl a b c d e,.sl a' b' c' d' e'=>decide (a=a')&&(τ (b=b')&&(τ (c=c')&&(τ (d=d')&&τ (e=e'))))
 |.agg cs,.agg ds=>Ad.beqL cs ds
 |.tup cs,.tup ds=>Ad.beqL cs ds
 |_,_=>η
def Ad.beqL:Ψ Ad->Ψ Ad->Bool
 |[],[]=>E
 |a::r,b::s=>Ad.beq a b&&Ad.beqL r s
 |_,_=>η
end
mutual
theorem beq_eq:∀a b,Ad.beq a b=E->a=b
 |.bool a,b,h=>by cases b<;>simp[Ad.beq]at h;rw[h]
 |.int k n,b,h=>by cases b<;>simp[Ad.beq]at h;rw[h.1,h.2]
 |.str s,b,h=>by cases b<;>simp[Ad.beq]at h;rw[h]
 |.nilp,b,h=>by cases b<;>simp[Ad.beq]at h;rfl
 |.nils,b,h=>by cases b<;>simp[Ad.beq]at h;rfl
 |.nilf,b,h=>by cases b<;>simp[Ad.beq]at h;rfl
 |.ptr _ _ _,b,h=>by cases b<;>simp[Ad.beq]at h;rw[h.1,h.2.1,h.2.2]
 |.vptr cs,b,h=>by cases b<;>simp[Ad.beq]at h;rw[mP cs _ h]
 |.vs a cs,b,h=>by cases b<;>simp[Ad.beq]at h;rw[h.1,mP cs _ h.2]
 |.sl _ _ _ _ _,b,h=>by cases b<;>simp[Ad.beq]at h;rw[h.1,h.2.1,h.2.2.1,h.2.2.2.1,h.2.2.2.2]
 |.agg cs,b,h=>by cases b<;>simp[Ad.beq]at h;rw[mP cs _ h]
 |.tup cs,b,h=>by cases b<;>simp[Ad.beq]at h;rw[mP cs _ h]
 |.fn _ _ _,b,h=>by cases b<;>simp[Ad.beq]at h
 |.yf _,b,h=>by cases b<;>simp[Ad.beq]at h
 |.mp _,b,h=>by cases b<;>simp[Ad.beq]at h
 |.itp _ _,b,h=>by cases b<;>simp[Ad.beq]at h
 |.any,b,h=>by cases b<;>simp[Ad.beq]at h
 |.vx _ _,b,h=>by cases b<;>simp[Ad.beq]at h
theorem mP:∀a b,Ad.beqL a b=E->a=b
 |[],b,h=>by cases b<;>simp[Ad.beqL]at h;rfl
 |x::r,b,h=>by
  cases b with
  |nil=>simp[Ad.beqL]at h
  |cons y s=>simp only[Ad.beqL,Ba]at h;rw[beq_eq x y h.1,mP r s h.2]
end
mutual
inductive Ty where
 |bool
 |int (k:IntKind)
 |str
 |list (t:Ty)
 |arr (n:S) (t:Ty)
 |prod (ts:Ss)
inductive Ss where
 |one (t:Ty)
 |cons (t:Ty) (ts:Ss)
end
mutual
@[reducible] def Ty.D:Ty->Type
 |.bool=>Bool
 |.int _=>Int
 |.str=>Ψ UInt8
 |.list t=>Ψ t.D
 |.arr n t=>GK (n+1) t.D
 |.prod ts=>ts.D
@[reducible] def Ss.D:Ss->Type
 |.one t=>t.D
 |.cons t ts=>t.D×ts.D
end
mutual
def Ty.sz:Ty->S
 |.bool=>1
 |.int _=>1
 |.str=>1
 |.list _=>1
 |.arr n t=>(n+1)*t.sz
 |.prod ts=>ts.sz
def Ss.sz:Ss->S
 |.one t=>t.sz
 |.cons t ts=>t.sz+ts.sz
end
mutual
def Ty.enc:(t:Ty)->t.D->Ad
 |.bool,b=>.bool b
 |.int k,n=>.int k n
 |.str,s=>.str s
 |.list t,l=>.vs t.sz (l.map t.enc)
 |.arr n t,a=>.agg ((List.finRange (n+1)).flatMap λi=>(t.enc (a i)).cells)
 |.prod ts,x=>.agg (ts.cells x)
def Ss.cells:(ts:Ss)->ts.D->Ψ Ad
 |.one t,x=>(t.enc x).cells
 |.cons t ts,x=>(t.enc x.1).cells++ts.cells x.2
end
mutual
theorem Ty.sz_pos:∀t:Ty,0<t.sz
 |.bool=>g!
 |.int _=>by simp[Ty.sz]
 |.str=>g!
 |.list _=>by simp[Ty.sz]
 |.arr n t=>by simp only[Ty.sz];exact Nat.mul_pos (Nat.succ_pos n) t.sz_pos
 |.prod a=>by simp only[Ty.sz];exact a.sz_pos
theorem Ss.sz_pos:∀a:Ss,0<a.sz
 |.one t=>by simp only[Ss.sz];exact t.sz_pos
 |.cons t a=>by simp only[Ss.sz];have:=t.sz_pos;omega
end
mutual
theorem Ty.enc_len:∀(t:Ty)x,(t.enc x).cells.length=t.sz
 |.bool,_=>rfl
 |.int _,_=>rfl
 |.str,_=>rfl
 |.list _,_=>rfl
 |.arr n t,a=>by
  show((List.finRange (n+1)).flatMap λi=>(t.enc (a i)).cells).length=(n+1)*t.sz;have:∀l:Ψ (Fin (n+1)),(l.flatMap λi=>(t.enc (a i)).cells).length=W l*t.sz:=by
   intro l;induction l with
   |nil=>simp
   |cons x l b=>rw[Ii,Aa,b,t.enc_len];simp[D5,Ys]
  rw[this,List.length_finRange]
 |.prod ts,x=>ts.cells_len x
theorem Ss.cells_len:∀(a:Ss)x,(a.cells x).length=a.sz
 |.one t,x=>by simp only[Ss.cells,Ss.sz];exact t.enc_len x
 |.cons t a,x=>by simp only[Ss.cells,Ss.sz,Aa];rw[t.enc_len,a.cells_len]
end
mutual
theorem Ty.enc_pure:∀(t:Ty)x,Pure (t.enc x)
 |.bool,_=>rfl
 |.int _,_=>rfl
 |.str,_=>rfl
 |.list t,l=>by unfold Pure;show Ad.idsAllL _ (l.map t.enc)=E;rw[Dv];intro v b;obtain⟨x,_,rfl⟩:=Bs.1 b;exact t.enc_pure x
 |.arr n t,a=>by unfold Pure;show Ad.idsAllL _ ((List.finRange (n+1)).flatMap λi=>(t.enc (a i)).cells)=E;rw[Dv];intro v b;obtain⟨i,_,b⟩:=G3.1 b;exact Vk (t.enc_pure _) v b
 |.prod ts,x=>by unfold Pure;show Ad.idsAllL _ (ts.cells x)=E;rw[Dv];exact ts.cells_pure x
theorem Ss.cells_pure:∀(b:Ss)x,∀v∈b.cells x,Pure v
 |.one t,x,v,a=>Vk (t.enc_pure x) v a
 |.cons t b,x,v,a=>by simp only[Ss.cells,Ak]at a;rcases a with a|a;exact Vk (t.enc_pure _) v a;exact b.cells_pure _ v a
end
def Ty.E(t:Ty):Sg t.D:=⟨t.sz,t.enc,t.sz_pos,t.enc_len,t.enc_pure⟩
mutual
def Ty.beq:Ty->Ty->Bool
 |.bool,.bool=>E
 |.int k,.int k'=>decide (k=k')
 |.str,.str=>E
 |.list t,.list t'=>t.beq t'
 |.arr n t,.arr n' t'=>ξ n n'&&t.beq t'
 |.prod ts,.prod ts'=>ts.beq ts'
 |_,_=>η
def Ss.beq:Ss->Ss->Bool
 |.one t,.one t'=>t.beq t'
 |.cons t ts,.cons t' ts'=>t.beq t'&&ts.beq ts'
 |_,_=>η
end
mutual
theorem Ty.beq_eq:∀(t a:Ty),t.beq a=E->t=a
 |.bool,a,h=>by cases a<;>simp[Ty.beq]at h;rfl
 |.int k,a,h=>by cases a<;>simp[Ty.beq]at h;rw[h]
 |.str,a,h=>by cases a<;>simp[Ty.beq]at h;rfl
 |.list t,a,h=>by cases a<;>simp[Ty.beq]at h;rw[t.beq_eq _ h]
 |.arr n t,a,h=>by cases a<;>simp[Ty.beq]at h;rw[h.1,t.beq_eq _ h.2]
 |.prod ts,a,h=>by cases a<;>simp[Ty.beq]at h;rw[ts.beq_eq _ h]
theorem Ss.beq_eq:∀(t a:Ss),t.beq a=E->t=a
 |.one t,a,h=>by cases a<;>simp[Ss.beq]at h;rw[t.beq_eq _ h]
 |.cons t ts,a,h=>by cases a<;>simp[Ss.beq]at h;rw[t.beq_eq _ h.1,ts.beq_eq _ h.2]
end
def Ty.cast{t t':Ty}(h:t.beq t'=ζ)(x:t.D):t'.D:=Ty.beq_eq t t' h▸x
def eO{t a:Ty}(h:t.beq a=E)(x:t.D):a.enc (Ty.cast h x)=t.enc x:=by have:=Ty.beq_eq t a h;subst this;rfl
mutual
def Ty.zero:(t:Ty)->t.D
 |.bool=>η
 |.int _=>(0:Int)
 |.str=>([]:Ψ UInt8)
 |.list t=>([]:Ψ t.D)
 |.arr n t=>(GK.all t.zero:GK (n+1) t.D)
 |.prod ts=>ts.zero
def Ss.zero:(ts:Ss)->ts.D
 |.one t=>t.zero
 |.cons t ts=>(t.zero,ts.zero)
end
inductive Bx where
 |bl (b:Bool)
 |it (k:IntKind) (n:Int)
 |st (s:List UInt8)
 |ls (t:Ty) (l:List t.D)
 |ar (n:S) (t:Ty) (a:GK (n+1) t.D)
 |own (id ver:S) (t:Ty) (n:S)
 |nil
 |raw (v:Ad)
def Bx.w:Bx->S
 |.ar n t _=>(n+1)*t.sz
 |_=>1
def Bx.enc:Bx->Ψ Ad
 |.bl b=>[.bool b]
 |.it k n=>[.int k n]
 |.st s=>[.str s]
 |.ls t l=>[.vs t.sz (l.map t.enc)]
 |.ar n t a=>((Ty.arr n t).enc a).cells
 |.own id _ t n=>[.sl id n t.sz 0 n]
 |.nil=>[.nils]
 |.raw v=>[v]
def Bx.one:Bx->Ad
 |.bl b=>.bool b
 |.it k n=>.int k n
 |.st s=>.str s
 |.ls t l=>.vs t.sz (l.map t.enc)
 |.ar n t a=>(Ty.arr n t).enc a
 |.own id _ t n=>.sl id n t.sz 0 n
 |.nil=>.nils
 |.raw v=>v
def lvs(cs:Ψ Bx):Ψ Ad:=cs.flatMap Bx.enc
def Bx.enc_len(x:Bx):W x.enc=x.w:=by
 cases x with
 |ar n t a=>exact Ty.enc_len (.arr n t) a
 |_=>rfl
inductive TV where
 |c (x:Bx)
 |g (cs:List Bx)
 |aptr (id base n:S) (t:Ty) (i:Int) (off:S)
 |bptr (id ver:S) (t:Ty) (n:S) (i:Int) (off:S)
 |vw (id ver:S) (t:Ty) (n lo m:S)
 |vx (t:Ty) (l:List t.D)
 |vptr (cs:List Bx) (post:List Ad)
 |tup (vs:List TV)
def vwE(id n sz lo m:S):Ad:=
 if min m (n-lo)=0 then(if lo=0 then .sl id n sz 0 0 else .vs sz [])else .sl id n sz (lo*sz) (min m (n-lo))
mutual
def TV.enc:TV->Ad
 |.c x=>x.one
 |.g cs=>.agg (lvs cs)
 |.aptr id base _ t i off=>.ptr id 0 (base+i.toNat*t.sz+off)
 |.bptr id _ t n i off=>.ptr id n (i.toNat*t.sz+off)
 |.vw id _ t n lo m=>vwE id n t.sz lo m
 |.vx t l=>.vx t.sz (l.map t.enc)
 |.vptr cs post=>.vptr (lvs cs++post)
 |.tup vs=>.tup (TV.encL vs)
def TV.encL:Ψ TV->Ψ Ad
 |[]=>[]
 |v::r=>v.enc::TV.encL r
end
def uW:∀l:Ψ TV,TV.encL l=l.map TV.enc
 |[]=>rfl
 |v::r=>by simp only[TV.encL,B4,uW r]
abbrev Bj:=Ψ (S×TV)
inductive LS where
 |ready
 |busy
 |ret
 |exit (x:S)
def LS.st:LS->LoopState
 |.ready=>.ready
 |.busy=>.busy
 |_=>.done
def LS.pend:LS->Ω Code
 |.ret=>Z .ret
 |.exit x=>Z (.exit x)
 |_=>D
def LS.beq:LS->LS->Bool
 |.ready,.ready=>E
 |.busy,.busy=>E
 |.ret,.ret=>E
 |.exit x,.exit y=>ξ x y
 |_,_=>η
def LS.beq_eq{a b:LS}(h:a.beq b=E):a=b:=by cases a<;>cases b<;>simp only[LS.beq]at h<;>first|rfl|cases h|rw[DB h]
inductive Dx where
 |dead
 |live (ro:Bool) (cs:List Bx)
 |buf (ro:Bool) (t:Ty) (l:List t.D) (n ver:S)
 |lp (ro:Bool) (F:FuncId) (n:S) (env:Bj) (ps:Array Tmp) (a b:Code) (s:LS)
 |mp (ro:Bool) (k:IntKind) (t:Ty) (es:List (Int×t.D))
abbrev As:=Ψ Dx
def B3(env:Bj):Env:=env.map λp=>(p.1,p.2.enc)
def Dx.enc:Dx->Fw
 |.dead=>.dead
 |.live _ cs=>.live 0 (lvs cs)
 |.buf _ t l n _=>.live n (t.E.cl l)
 |.lp _ _ n env ps a b s=>.lp ⟨n,B3 env,ps,a,b,s.st,s.pend⟩
 |.mp _ k t es=>.mp k (es.map λp=>(p.1,t.enc p.2))
def BL(H:As):Aw:=H.map Dx.enc
def Vx:TV:=.c (.raw .any)
def Bj.get:Bj->S->TV
 |[],_=>Vx
 |(k,v)::r,t=>match ξ k t with|true=>v|false=>Bj.get r t
def Bj.del(t:S):Bj->Bj
 |[]=>[]
 |(k,v)::r=>match ξ k t with|true=>Bj.del t r|false=>(k,v)::Bj.del t r
def Bj.put(env:Bj)(t:S)(v:TV):Bj:=(t,v)::Bj.del t env
def Bj.putO(env:Bj):Ω S->TV->Bj
 |some t,v=>env.put t v
 |none,_=>env
theorem beq_false(h:N≠n):ξ N n=η:=by grind[Nat.eq_of_beq_eq_true]
theorem VM(env:Bj)(t:S):(B3 env).get t=(env.get t).enc:=by
 induction env with
 |nil=>simp[B3,Env.get,Bj.get,Vx,TV.enc,Bx.one]
 |cons p r a=>grind[B3,Env.get,Bj.get,Nat.beq_refl,beq_false]
theorem AEt(env:Bj)(t:S):B3 (Bj.del t env)=(B3 env).filter λp=>decide (p.1≠t):=by induction env<;>grind[Bj.del,B3,Nat.beq_refl,beq_false]
def lC(env:Bj)(t:S)(v:TV):B3 (env.put t v)=(B3 env).put t v.enc:=by simp only[Env.put,<-AEt];rfl
def Ye(env:Bj)(t:Ω S)(v:TV):B3 (env.putO t v)=(B3 env).putO t v.enc:=by
 cases t with
 |none=>rfl
 |some t=>exact lC env t v
def AEo:Value->Bx
 |.bool b=>.bl b
 |.int k n=>.it k n
 |.string s=>.st s.data.toList
 |.pointer D=>.raw .nilp
 |.slice D 0 0=>.nil
 |.nilFunc=>.raw .nilf
 |_=>.raw .any
def cvT:Value->TV
 |.agg cs=>match cs.toList.all (·.oneCell')with|true=>.g (cs.toList.map AEo)|false=>Vx
 |v=>.c (AEo v)
def zR(v:Value):(AEo v).one=sH v:=by
 cases v with
 |pointer p=>cases p<;>rfl
 |slice a l c=>
  cases a with
  |some _=>rfl
  |none=>
   match l,c with
   |0,0=>rfl
   |0,_+1=>rfl
   |_+1,_=>rfl
 |_=>rfl
theorem AEp(v:Value):(AEo v).enc=[sH v]:=by
 cases v with
 |pointer p=>cases p<;>rfl
 |slice a l c=>
  cases a with
  |some _=>rfl
  |none=>
   match l,c with
   |0,0=>rfl
   |0,_+1=>rfl
   |_+1,_=>rfl
 |_=>rfl
theorem AG1(v:Value):(cvT v).enc=ADH v:=by
 cases v with
 |agg b=>
  simp only[cvT,ADH];cases h:b.toList.all (·.oneCell')with
  |false=>simp[Vx,TV.enc,Bx.one]
  |true=>simp only[TV.enc,lvs];induction b.toList<;>grind[AEp]
 |pointer p=>exact zR (.pointer p)
 |slice a l c=>exact zR (.slice a l c)
 |_=>rfl
def Jx(env:Bj):Operand->TV
 |.tmp t=>env.get t
 |.const v=>cvT v
 |.global _=>Vx
 |.func f=>.c (.raw (.fn (.func f) [] []))
theorem Lu(env:Bj)(x:Operand):BR (B3 env) x=(Jx env x).enc:=by
 cases x with
 |tmp t=>exact VM env t
 |const v=>exact(AG1 v).symm
 |global _=>rfl
 |func f=>rfl
def X1:Ψ Bx->S->Ω (Ψ Bx×Ψ Bx)
 |ls,0=>Z ([],ls)
 |[],_+1=>D
 |x::r,n+1=>
  match Nat.ble x.w (n+1)with
  |true=>match X1 r (n+1-x.w)with|some (a,b)=>Z (x::a,b)|none=>D
  |false=>D
mutual
def Ty.lvs:(t:Ty)->t.D->Ψ Bx
 |.bool,b=>[.bl b]
 |.int k,n=>[.it k n]
 |.str,s=>[.st s]
 |.list t,l=>[.ls t l]
 |.arr n t,a=>[.ar n t a]
 |.prod ts,x=>ts.lvs x
def Ss.lvs:(ts:Ss)->ts.D->Ψ Bx
 |.one t,x=>t.lvs x
 |.cons t ts,x=>t.lvs x.1++ts.lvs x.2
end
def Bx.scalar:Bx->Bool
 |.ar .. =>η
 |.raw (.agg _)=>η
 |_=>E
def part(P:Program)(t:TypeId)(cs:Ψ Bx)(off:S):Ω TV:=
 match X1 cs off with
 |some (_,r)=>
  match tI P t with
  |some (E,n)=>match X1 r n with|some (a,_)=>Z (.g a)|none=>D
  |some (η,_)=>match r with|x::_=>(match x.scalar with|true=>Z (.c x)|false=>D)|[]=>D
  |none=>D
 |none=>D
section
variable {R:Type}
def okT(o:Ω TV)(k:TV->Ω R):Ω R:=
 match o with
 |some v=>k v
 |none=>D
def AET(cs:Ψ Bx)(base n:S)(t:Ty):Ω (GK (n+1) t.D):=
 match X1 cs base with
 |some (_,.ar n' t' a::_)=>if h:(Ty.arr n' t').beq (Ty.arr n t)=E then Z (Ty.cast h a)else D
 |_=>D
def Yw(H:As)(id ver:S)(t:Ty):Ω (Ψ t.D):=
 match H[id]? with
 |some (.buf _ t' l _ ver')=>match ξ ver ver' with|true=>(if h:(Ty.list t').beq (Ty.list t)=E then Z (Ty.cast h l)else D)|false=>D
 |_=>D
def X0(H:As)(id:S):Ω (Ψ Bx):=
 match H[id]? with
 |some (.live _ cs)=>Z cs
 |_=>D
def loadT(P:Program)(H:As)(t:TypeId)(v:TV)(k:TV->Ω R):Ω R:=
 match v with
 |.c (.raw (.ptr id 0 off))=>match X0 H id with|some cs=>okT (part P t cs off) k|none=>D
 |.vptr cs _=>okT (part P t cs 0) k
 |.aptr id base n te i off=>
  match X0 H id with
  |some cs=>match AET cs base n te with|some a=>(G2 a i).bind λe=>okT (part P t (te.lvs e) off) k|none=>D
  |none=>D
 |.bptr id ver te _ i off=>match Yw H id ver te with|some l=>(ix l i).bind λe=>okT (part P t (te.lvs e) off) k|none=>D
 |_=>D
def tvA:Ad->TV
 |.bool b=>.c (.bl b)
 |.int k n=>.c (.it k n)
 |.str s=>.c (.st s)
 |v=>.c (.raw v)
def okA(o:Ω Ad)(k:TV->Ω R):Ω R:=
 match o with
 |some v=>k (tvA v)
 |none=>D
def eqT(as bs:Ψ Bx):Bool:=vv (lvs as) (lvs bs)
def AIu(P:Program)(op:BinOp)(t:TypeId)(x y:TV)(k:TV->Ω R):Ω R:=
 match x,y with
 |.c (.it kx a),.c (.it ky b)=>
  match op with
  |.shl=>cond (τ (b<0)) D (k (.c (.it kx (kx.wrap (a*2^min b.toNat kx.bits)))))
  |.shr=>cond (τ (b<0)) D (k (.c (.it kx (a.fdiv (2^min b.toNat kx.bits)))))
  |.quo=>if kx=ky then cond (b==0) D (k (.c (.it kx (kx.wrap (a.tdiv b)))))else D
  |.rem=>if kx=ky then cond (b==0) D (k (.c (.it kx (a.tmod b))))else D
  |op=>if kx=ky then okA (qT op kx a b) k else D
 |.c (.bl a),.c (.bl b)=>
  match op with
  |.eql=>if kd P t=.bool then k (.c (.bl (a==b)))else D
  |.neq=>if kd P t=.bool then k (.c (.bl (!(a==b))))else D
  |_=>D
 |.c (.st a),.c (.st b)=>
  match op with
  |.add=>(sapp a b).bind λs=>k (.c (.st s))
  |op=>okA (xh op a b) k
 |.g as,.g bs=>
  match AEf P t with
  |some ks=>
   if typed ks (lvs as)=E/\typed ks (lvs bs)=E then
    match op with
    |.eql=>k (.c (.bl (eqT as bs)))
    |.neq=>k (.c (.bl (!eqT as bs)))
    |_=>D
   else D
  |none=>D
 |_,_=>D
def unT(op:UnOp)(v:TV)(k:TV->Ω R):Ω R:=
 match v with
 |.c x=>okA (unV op x.one) k
 |_=>D
def AEl(P:Program)(H:As)(src dst:TypeId)(v:TV)(k:TV->Ω R):Ω R:=
 match v with
 |.c (.ls (.int .u8) l)=>if kd P dst=.str/\kd P src=.bytes then k (.c (.st (E7 l)))else D
 |.c (.own id ver (.int .u8) _)=>if kd P dst=.str/\kd P src=.bytes then(match Yw H id ver (.int .u8)with|some l=>k (.c (.st (E7 l)))|none=>D)else D
 |.c (.it kk n)=>okA (X6 P [] src dst (.int kk n)) k
 |.c (.st s)=>okA (X6 P [] src dst (.str s)) k
 |_=>D
def oF(P:Program)(H:As)(s f:S)(v:TV)(k:TV->Ω R):Ω R:=
 match fI P s f with
 |some (off,_,n)=>
  match ξ n 0 with
  |true=>D
  |false=>
   match v with
   |.c (.raw (.ptr id 0 o))=>match X0 H id with|some _=>k (.c (.raw (.ptr id 0 (o+off))))|none=>D
   |.vptr cs post=>match X1 cs off with|some (_,r)=>k (.vptr r post)|none=>D
   |.aptr id base n te i o=>match X0 H id with|some _=>k (.aptr id base n te i (o+off))|none=>D
   |.bptr id ver te n i o=>match Yw H id ver te with|some _=>k (.bptr id ver te n i (o+off))|none=>D
   |_=>D
 |none=>D
def AA6(P:Program)(s f:S)(v:TV)(k:TV->Ω R):Ω R:=
 match fI P s f,v with
 |some (off,t,_),.g cs=>okT (part P t cs off) k
 |_,_=>D
def oJ(P:Program)(H:As)(t:TypeId)(v i:TV)(k:TV->Ω R):Ω R:=
 match i with
 |.c (.it _ i)=>
  match eI P t with
  |some (Z len,_,sz)=>
   match v with
   |.c (.raw (.ptr id 0 off))=>
    match X0 H id with
    |some cs=>
     match X1 cs off with
     |some (_,.ar n te a::_)=>if len=n+1/\sz=te.sz then(G2 a i).bind λ_=>k (.aptr id off n te i 0)else D
     |_=>D
    |none=>D
   |.vptr (.ar n te a::r) post=>if len=n+1/\sz=te.sz then(G2 a i).bind λe=>k (.vptr (te.lvs e) ((((Ty.arr n te).enc a).cells.drop (i.toNat*te.sz+te.sz))++(lvs r++post)))else D
   |_=>D
  |some (D,_,sz)=>
   match v with
   |.c (.ls te l)=>if sz=te.sz then(ix l i).bind λe=>k (.vptr (te.lvs e) [])else D
   |.c (.own id ver te n)=>match Yw H id ver te with|some l=>(if sz=te.sz then(ix l i).bind λ_=>k (.bptr id ver te n i 0)else D)|none=>D
   |.vw id ver te n lo m=>match Yw H id ver te with|some l=>(if sz=te.sz then(ix ((l.drop lo).take m) i).bind λ_=>k (.bptr id ver te n ((lo:Int)+i) 0)else D)|none=>D
   |_=>D
  |none=>D
 |_=>D
def xl(P:Program)(e:TypeId)(sz:S)(cs:Ψ Bx)(i:Int)(k:TV->Ω R):S->S->Ω R
 |0,_=>D
 |m+1,j=>cond (τ (i=Int.ofNat j)) (okT (part P e cs (j*sz)) k) (xl P e sz cs i k m (j+1))
def ABB(P:Program)(t:TypeId)(v i:TV)(k:TV->Ω R):Ω R:=
 match i with
 |.c (.it _ i)=>
  match v with
  |.g [.ar n te a]=>
   match eI P t with
   |some (Z len,e,sz)=>if len=n+1/\sz=te.sz then(G2 a i).bind λx=>okT (part P e (te.lvs x) 0) k else D
   |_=>D
  |.g cs=>
   match eI P t with
   |some (Z len,e,sz)=>match Nat.ble len 16 with|true=>xl P e sz cs i k len 0|false=>D
   |_=>D
  |.c (.st s)=>if kd P t=.str then(six s i).bind λb=>k (.c (.it .u8 b))else D
  |_=>D
 |_=>D
def vn(d:Int):Ω TV->Ω Int
 |none=>Z d
 |some (.c (.it _ n))=>Z n
 |_=>D
def AKM(l:Ψ R)(lo hi m:Int):Ω (Ψ R):=if m=hi then Sr l lo hi else D
def ABp(P:Program)(H:As)(t:TypeId)(v:TV)(lo hi mx:Ω TV)(k:TV->Ω R):Ω R:=
 match mx with
 |some (.c (.it _ m))=>
  match v with
  |.c (.ls te xs)=>
   match vn 0 lo,vn (W xs) hi,eI P t with
   |some l,Z h,Z (D,_,sz)=>if sz=te.sz/\hi.isSome=E then(AKM xs l h m).bind λx=>k (.vx te x)else D
   |_,_,_=>D
  |_=>D
 |some _=>D
 |none=>
  match v with
  |.c (.st s)=>
   match vn 0 lo,vn (W s) hi with
   |some l,Z h=>if kd P t=.str then(R4 s l h).bind λx=>k (.c (.st x))else D
   |_,_=>D
  |.c (.ls te xs)=>
   match vn 0 lo,vn (W xs) hi,eI P t with
   |some l,Z h,Z (D,_,sz)=>if sz=te.sz then(Sr xs l h).bind λx=>k (.c (.ls te x))else D
   |_,_,_=>D
  |.c (.own id ver te n)=>
   match Yw H id ver te with
   |some xs=>
    match vn 0 lo,vn (W xs) hi,eI P t with
    |some l,Z h,Z (D,_,sz)=>if sz=te.sz then(Sr xs l h).bind λ_=>k (.vw id ver te n l.toNat (h.toNat-l.toNat))else D
    |_,_,_=>D
   |none=>D
  |_=>D
def AJF(P:Program)(H:As)(t:TypeId)(v:TV)(k:TV->Ω R):Ω R:=
 match P.underlying t,v with
 |some .string,.c (.st s)=>k (.c (.it .i64 (W s)))
 |some (.array n _),_=>k (.c (.it .i64 n))
 |some (.slice _),.c (.ls _ l)=>k (.c (.it .i64 (W l)))
 |some (.slice _),.c (.own id ver te n)=>match Yw H id ver te with|some _=>k (.c (.it .i64 n))|none=>D
 |some (.slice _),.c .nil=>k (.c (.it .i64 0))
 |some (.slice _),.vw id ver te _ lo m=>match Yw H id ver te with|some l=>k (.c (.it .i64 ((l.drop lo).take m).length))|none=>D
 |_,_=>D
def mmT(mx:Bool)(x y:TV)(k:TV->Ω R):Ω R:=
 match x,y with
 |.c (.it kx a),.c (.it _ b)=>k (.c (.it kx (if mx then(if b>a then b else a)else(if b<a then b else a))))
 |_,_=>D
def AJG(x y z:TV)(k:TV->Ω R):Ω R:=
 match x,y,z with
 |.c (.it kx a),.c (.it _ b),.c (.it _ c)=>k (.c (.it kx (if c<(if b<a then b else a)then c else(if b<a then b else a))))
 |_,_,_=>D
def TV.words:TV->Ω (Ψ Bx)
 |.c x=>match x.scalar&&x.one.solid with|true=>Z [x]|false=>D
 |.g cs=>Z cs
 |_=>D
mutual
def Ty.zlvs:(t:Ty)->Ψ Bx
 |.bool=>[.bl η]
 |.int k=>[.it k 0]
 |.str=>[.st []]
 |.list _=>[.nil]
 |.arr n t=>[.ar n t (GK.all t.zero)]
 |.prod ts=>ts.zlvs
def Ss.zlvs:Ss->Ψ Bx
 |.one t=>t.zlvs
 |.cons t ts=>t.zlvs++ts.zlvs
end
mutual
def ABx(P:Program):S->TypeId->Ω Ty
 |0,_=>D
 |d+1,t=>
  match P.underlying t with
  |some .bool=>Z .bool
  |some (.int k)=>Z (.int k)
  |some .string=>Z .str
  |some (.slice e)=>(ABx P d e).map Ty.list
  |some (.array (n+1) e)=>(ABx P d e).map (Ty.arr n)
  |some (.struct fs)=>(AIW P d fs.toList).map Ty.prod
  |_=>D
def AIW(P:Program):S->Ψ Field->Ω Ss
 |0,_=>D
 |_+1,[]=>D
 |d+1,[f]=>(ABx P d f.type).map Ss.one
 |d+1,f::r=>match ABx P d f.type,AIW P d r with|some t,Z ts=>Z (.cons t ts)|_,_=>D
end
def ww:Ad->Bx
 |.bool b=>.bl b
 |.int k n=>.it k n
 |.str s=>.st s
 |v=>.raw v
def vj(P:Program)(t:TypeId):Ω (Ψ Bx):=
 match Zk P t with
 |some z=>
  match ABx P 1000 t with
  |some ty=>match Ad.beqL z (lvs ty.zlvs)with|true=>Z ty.zlvs|false=>Z (z.map ww)
  |none=>Z (z.map ww)
 |none=>D
def ADp(cs:Ψ Bx)(off:S)(vs:Ψ Bx)(n:S):Ω (Ψ Bx):=
 match X1 cs off with
 |some (a,r)=>match X1 r n with|some (_,b)=>Z (a++(vs++b))|none=>D
 |none=>D
def AGF:Ψ Bx->S
 |[]=>0
 |x::r=>x.w+AGF r
def zZ(p:ah):Ψ Bx->Ψ (S×TV)->Ω (Ψ Bx)
 |cs,[]=>Z cs
 |cs,(i,v)::r=>
  match p.at_ i,v.words with
  |some (off,size),Z ws=>
   match ξ (AGF ws) size with
   |true=>match ADp cs off ws size with|some cs'=>zZ p cs' r|none=>D
   |false=>D
  |_,_=>D
def AA0(P:Program)(t:TypeId)(parts:Ψ (S×TV)):Ω TV:=
 match vj P t,vQ P t with
 |some z,Z p=>(zZ p z parts).map TV.g
 |_,_=>D
def rT:Ψ TV->Ω (Ψ Ad)
 |[]=>Z []
 |.c x::r=>match x.scalar,rT r with|true,Z l=>Z (x.one::l)|_,_=>D
 |_=>D
def quT(P:Program)(env:Bj)(H:As)(op:Op)(k:TV->Ω R):Ω R:=
 match op with
 |.move x|.assign x=>k (Jx env x)
 |.pick c a b=>match Jx env c with|.c (.bl t)=>cond t (k (Jx env a)) (k (Jx env b))|_=>D
 |.load t a=>loadT P H t (Jx env a) k
 |.nilCheck x=>
  match Jx env x with
  |.c (.raw (.ptr id 0 off))=>match X0 H id with|some _=>k (.c (.raw (.ptr id 0 off)))|none=>D
  |.c (.raw (.fn (.func f) a b))=>k (.c (.raw (.fn (.func f) a b)))
  |.vptr cs post=>k (.vptr cs post)
  |.aptr id base n te i off=>match X0 H id with|some _=>k (.aptr id base n te i off)|none=>D
  |.bptr id ver te n i off=>match Yw H id ver te with|some _=>k (.bptr id ver te n i off)|none=>D
  |_=>D
 |.binOp op t x y _=>AIu P op t (Jx env x) (Jx env y) k
 |.unOp op _ x=>unT op (Jx env x) k
 |.convert s d x=>AEl P H s d (Jx env x) k
 |.fieldAddr s x f=>oF P H s f (Jx env x) k
 |.field s x f=>AA6 P s f (Jx env x) k
 |.indexAddr t x i=>oJ P H t (Jx env x) (Jx env i) k
 |.index t x i=>ABB P t (Jx env x) (Jx env i) k
 |.slice t x lo hi mx=>ABp P H t (Jx env x) (lo.map (Jx env)) (hi.map (Jx env)) (mx.map (Jx env)) k
 |.extract x i=>match Jx env x with|.tup vs=>(match vs[i]? with|some v=>k v|none=>D)|_=>D
 |.makeFunc f a b=>match rT (a.toList.map (Jx env)),rT (b.toList.map (Jx env))with|some l,Z m=>k (.c (.raw (.fn f l m)))|_,_=>D
 |.build t parts=>okT (AA0 P t (parts.toList.map λp=>(p.1,Jx env p.2))) k
 |.call {callee:=.builtin .len,args:=⟨[x]⟩,argTypes:=⟨[t]⟩}=>AJF P H t (Jx env x) k
 |.call {callee:=.builtin .max,args:=⟨[x,y]⟩,.. }=>mmT E (Jx env x) (Jx env y) k
 |.call {callee:=.builtin .min,args:=⟨[x,y]⟩,.. }=>mmT η (Jx env x) (Jx env y) k
 |.call {callee:=.builtin .min,args:=⟨[x,y,z]⟩,.. }=>AJG (Jx env x) (Jx env y) (Jx env z) k
 |_=>D
end
end Go.Ab
