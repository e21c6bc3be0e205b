/- A layer over the model in which values are trees: its laws and a typed interpreter, part 1. Texts of the folder wip, laid in few files with shorter names by a program (wip/tools/pack.py); nothing is assumed. -/
import Derived.Calls
import Derived.Below
import Derived.RangeFuncRecord
import Derived.OrdersIn
import Derived.Lib.FrozenHead
import Derived.Orders
import Derived.Laws.Cells
import Derived.Laws.Entries
import Derived.Laws.StructEq
import Derived.ChangeKeysEq
import Derived.Laws.BytesString
import Derived.Laws.Tables
import Derived.Great.FillDense
import Derived.Great.BuildSlice
noncomputable section
set_option linter.unusedVariables false
set_option linter.unusedSimpArgs false
set_option linter.unusedSectionVars false
set_option linter.defProp false
set_option linter.unnecessarySimpa false
set_option linter.deprecated false
namespace Go
def gD:=@Array.extract_size
def O9:=@Array.getD_eq_getD_getElem?
def cU:=@Array.getElem?_append_left
def lD:=@Array.getElem?_append_right
def PA:=@Array.getElem?_eq_getElem
def pb:=@Array.getElem?_eq_none_iff
def gE:=@Array.getElem?_eq_some_iff
def YM:=@Array.getElem?_map
def pd:=@Array.getElem?_modify
def TX:=@Array.getElem?_push
def nB:=@Array.getElem?_setIfInBounds_ne
def PX:=@Array.getElem?_toList
def DM:=@Array.length_toList
def nC:=@Array.mem_of_getElem?
def iF:=@Array.size_setIfInBounds
def iG:=@BitVec.eq_of_getLsbD_eq
def S9:=@BitVec.ofInt_natCast
def TA:=@BitVec.toNat_ofNat
def X9:=@BitVec.xor_assoc
def Ur:=@BitVec.xor_self
def YA:=@BitVec.zero_xor
def BO:=@Bool.and_eq_true
def PY:=@Bool.and_self
def OT:=@Bool.and_true
def Iz:=@Bool.false_eq_true
def Us:=@Bool.not_eq_true'
def YB:=@Bool.not_false
def Ea:=@Bool.not_true
def di:=@Bool.or_eq_true
def RF:=@Decidable.byContradiction
def iH:=@Int.ediv_ediv_of_nonneg
def Eb:=@Int.eq_ofNat_of_zero_le
def YC:=@Int.fdiv_eq_ediv_of_nonneg
def Ae:=@Int.le_refl
def dj:=@Int.lt_or_le
def dk:=@Int.mul_ediv_add_emod
def Ut:=@Int.tmod_lt_of_pos
def Uu:=@Int.tmod_nonneg
def DD:=@Int.toNat_natCast
def nD:=@List.Pairwise.imp_of_mem
def nE:=@List.Perm.eq_of_pairwise
def iI:=@List.all_cons
def Fx:=@List.all_eq_true
def iJ:=@List.all_nil
def YD:=@List.any_eq_true
def Ax:=@List.append_assoc
def iK:=@List.append_eq_append_iff
def Gl:=@List.append_inj
def Dn:=@List.append_nil
def Do:=@List.cons_append
def YE:=@List.drop_append
def nF:=@List.drop_append_of_le_length
def PZ:=@List.drop_drop
def YF:=@List.drop_eq_getElem_cons
def iL:=@List.drop_eq_nil_of_le
def RG:=@List.drop_left
def YG:=@List.drop_of_length_le
def iM:=@List.drop_succ_cons
def iN:=@List.drop_zero
def EJ:=@List.eq_nil_of_length_eq_zero
def Mp:=@List.ext_getElem?
def nG:=@List.extract_eq_take_drop
def nH:=@List.filterMap_append
def Jp:=@List.filter_append
def dl:=@List.filter_cons
def iO:=@List.filter_cons_of_neg
def iP:=@List.filter_cons_of_pos
def YH:=@List.filter_nil
def YI:=@List.flatMap_append
def I0:=@List.flatMap_cons
def iQ:=@List.flatMap_nil
def iR:=@List.flatten_cons
def YJ:=@List.foldl_append
def YK:=@List.foldl_cons
def I1:=@List.getD_eq_getElem?_getD
def B6:=@List.getElem?_append_left
def Cr:=@List.getElem?_append_right
def nI:=@List.getElem?_cons_succ
def YL:=@List.getElem?_cons_zero
def OU:=@List.getElem?_drop
def Az:=@List.getElem?_eq_getElem
def Cs:=@List.getElem?_eq_none
def TB:=@List.getElem?_eq_some_iff
def CL:=@List.getElem?_map
def Eu:=@List.getElem?_of_mem
def TC:=@List.getElem?_range
def Uv:=@List.getElem?_set
def D3:=@List.getElem?_set_ne
def G8:=@List.getElem?_set_self
def RH:=@List.getElem?_take
def dm:=@List.getElem?_take_of_lt
def iS:=@List.getElem?_toArray
def iT:=@List.getElem?_zip_eq_some
def Uw:=@List.getElem_mem
def Ag:=@List.length_append
def BV:=@List.length_cons
def G9:=@List.length_drop
def LC:=@List.length_filter_le
def Dc:=@List.length_map
def Bt:=@List.length_nil
def Zl:=@List.length_set
def CH:=@List.length_take
def Nh:=@List.map_append
def Lu:=@List.map_congr_left
def BZ:=@List.map_cons
def Zm:=@List.map_id
def Ni:=@List.map_map
def HV:=@List.map_nil
def O2:=@List.map_toArray
def Ar:=@List.mem_append
def HW:=@List.mem_append_left
def Qw:=@List.mem_append_right
def An:=@List.mem_cons
def CC:=@List.mem_cons_of_mem
def JK:=@List.mem_cons_self
def Bc:=@List.mem_filter
def Nj:=@List.mem_filterMap
def HX:=@List.mem_flatMap
def O3:=@List.mem_iff_getElem
def F8:=@List.mem_iff_getElem?
def Bl:=@List.mem_map
def Nk:=@List.mem_map_of_mem
def BJ:=@List.mem_of_getElem?
def U9:=@List.mem_of_mem_drop
def Jy:=@List.mem_of_mem_take
def Nl:=@List.mem_or_eq_of_mem_set
def IT:=@List.mem_range
def A3:=@List.mem_singleton
def k9:=@List.mem_zipIdx_iff_getElem?
def CD:=@List.nil_append
def O4:=@List.nodup_append
def Ff:=@List.nodup_cons
def Nm:=@List.nodup_iff_pairwise_ne
def O5:=@List.nodup_nil
def JL:=@List.pairwise_iff_getElem
def S5:=@List.pairwise_map
def fE:=@List.perm_ext_iff_of_nodup
def fF:=@List.replicate_succ
def Qx:=@List.set_append_right
def VC:=@List.set_set
def lC:=@List.singleton_append
def Zn:=@List.size_toArray
def S6:=@List.sum_cons
def D5:=@List.take_add_one
def fG:=@List.take_append
def F9:=@List.take_append_drop
def fH:=@List.take_append_of_le_length
def Zo:=@List.take_left
def O6:=@List.take_left'
def Cb:=@List.take_of_length_le
def fJ:=@List.take_succ_cons
def Zp:=@List.zip_append
def S7:=@List.zip_cons_cons
def fK:=@List.zip_nil_left
def Zq:=@Nat.add_assoc
def Ge:=@Nat.add_mul
def fL:=@Nat.add_sub_cancel
def VD:=@Nat.add_sub_cancel_left
def Qy:=@Nat.add_zero
def HY:=@Nat.beq_refl
def DN:=@Nat.eq_of_beq_eq_true
def Qz:=@Nat.eq_zero_or_pos
def Nn:=@Nat.le_of_ble_eq_true
def Ak:=@Nat.le_refl
def Dp:=@Nat.le_trans
def DB:=@Nat.lt_of_lt_of_le
def Ap:=@Nat.lt_or_ge
def O7:=@Nat.lt_trichotomy
def S8:=@Nat.mod_eq_of_lt
def fM:=@Nat.mul_le_mul
def O8:=@Nat.mul_le_mul_right
def BQ:=@Nat.ne_of_lt
def Zr:=@Nat.pow_add
def VE:=@Nat.pow_le_pow_right
def IU:=@Nat.sub_self
def fN:=@Nat.succ_mul
def D6:=@Nat.zero_add
def B7:=@Nat.zero_le
def Dq:=@Option.bind_eq_some_iff
def AI:=@Option.bind_some
def fO:=@Option.getD_some
def Zs:=@Option.isSome_iff_exists
def Zt:=@Option.map_eq_some_iff
def Be:=@Option.map_some
def Ch:=@Option.some.inj
def Ai:=@Option.some.injEq
def Jz:=@Option.toList_some
def HZ:=@Prod.ext
def fP:=@Prod.ext_iff
def EV:=@Prod.mk.injEq
def VF:=@Sum.elim_inr
def VG:=@UInt8.toNat_ofNat'
end Go
namespace Go.Ab
inductive AV where
 |bool (b:Bool)
 |int (k:IntKind) (n:Int)
 |str (s:List UInt8)
 |nilp
 |ptr (id g off:Nat)
 |vptr (cs:List AV)
 |nils
 |vs (sz:Nat) (rows:List AV)
 |sl (id g sz off len:Nat)
 |fn (f:Fn) (first caps:List AV)
 |yf (id:Nat)
 |mp (id:Nat)
 |itp (id m:Nat)
 |nilf
 |agg (cs:List AV)
 |tup (vs:List AV)
 |any
 deriving Inhabited
def AV.cells:AV->List AV
 | .agg cs=>cs
 |v=>[v]
structure Cx where
 w:World
 n:Nat
 io:Nat->Option Nat
 gen:Nat->Nat
 cap:Nat->Nat
 O:Nat->Prop
inductive Bf(x:Cx):AV->Value->Prop where
 |bool (b:Bool):Bf x (.bool b) (.bool b)
 |int (k:IntKind) (n:Int):Bf x (.int k n) (.int k n)
 |str {s:List UInt8} (t:ByteArray) (h:t.data.toList=s):Bf x (.str s) (.string t)
 |nilp:Bf x .nilp (.pointer none)
 |ptr {id g off:Nat} {c:Value} (hid:id<x.n) (hg:g≤x.gen id) (h1:c.oneCell'=true)
   (hc:x.gen id=g-> ∃B,x.io id=some B/\c= .pointer (some ⟨B,off,none⟩)):Bf x (.ptr id g off) c
 |vptr {cs:List AV} {B off:Nat} (f:Nat→Value) (hO: ¬x.O B) (hB:B<x.w.heap.size)
   (hc: ∀(j:Nat) (v:AV),cs[j]? =some v->x.w.cell? ⟨B,off+j,none⟩=some (f j)/\(f j).oneCell'=true)
   (hv: ∀(j:Nat) (v:AV),cs[j]? =some v->Bf x v (f j)):Bf x (.vptr cs) (.pointer (some ⟨B,off,none⟩))
 |nils:Bf x .nils (.slice none 0 0)
 |vs {sz:Nat} {rows:List AV} {a:Option Addr} {cap:Nat} (f:Nat→Nat→Value) (hcap:rows.length≤cap) (hsz:0<sz)
   (hrow: ∀(j:Nat) (e:AV),rows[j]? =some e->e.cells.length=sz)
   (ha:rows≠ []-> ∃B off,a=some ⟨B,off,none⟩/\ ¬x.O B/\B<x.w.heap.size/\
    ∀(j:Nat) (e:AV) (i:Nat) (v:AV),rows[j]? =some e->e.cells[i]? =some v->x.w.cell? ⟨B,off+(j*sz+i),none⟩=some (f j i)/\(f j i).oneCell'=true)
   (hv: ∀(j:Nat) (e:AV) (i:Nat) (v:AV),rows[j]? =some e->e.cells[i]? =some v->Bf x v (f j i)):Bf x (.vs sz rows) (.slice a rows.length cap)
 |sl {id g sz off len:Nat} {c:Value} (hid:id<x.n) (hg:g≤x.gen id) (h1: ∃a cap,c= .slice a len cap)
   (hc:x.gen id=g->(x.io id=none/\len=0/\off=0/\c= .slice none 0 0)\/
    ∃B cap,x.io id=some B/\len<=cap/\off+cap*sz<=x.cap id/\c= .slice (some ⟨B,off,none⟩) len cap):Bf x (.sl id g sz off len) c
 |fn {f:Fn} {first caps:List AV} {first' caps':Array Value} (h1:first'.size=first.length) (h2:caps'.size=caps.length)
   (hv1: ∀(j:Nat) (v:AV) (c:Value),first[j]? =some v->first'[j]? =some c->Bf x v c) (hv2: ∀(j:Nat) (v:AV) (c:Value),caps[j]? =some v->caps'[j]? =some c->Bf x v c):
   Bf x (.fn f first caps) (.func f first' caps')
 |yf {id:Nat} {c:Value} (hid:id<x.n) (h1:c.oneCell'=true) (hc:x.gen id=0-> ∃B,x.io id=some B/\c= .func (.yield B) #[] #[]):Bf x (.yf id) c
 |mp {id:Nat} {c:Value} (hid:id<x.n) (h1:c.oneCell'=true) (hc:x.gen id=0-> ∃B,x.io id=some B/\c= .map (some B)):Bf x (.mp id) c
 |itp {id m:Nat} {c:Value} (hid:id<x.n) (hm:m<x.n) (h1:c.oneCell'=true) (hc:x.gen id=0-> ∃B,x.io id=some B/\c= .pointer (some ⟨B,0,none⟩)/\(x.gen m=0->x.io m=some (x.cap id))):Bf x (.itp id m) c
 |nilf:Bf x .nilf .nilFunc
 |agg {cs:List AV} {cs':Array Value} (h:cs'.size=cs.length) (h1: ∀(j:Nat) (c:Value),cs'[j]? =some c→c.oneCell'=true)
   (hv: ∀(j:Nat) (v:AV) (c:Value),cs[j]? =some v->cs'[j]? =some c->Bf x v c):Bf x (.agg cs) (.agg cs')
 |tup {vs:List AV} {vs':Array Value} (h:vs'.size=vs.length)
   (hv: ∀(j:Nat) (v:AV) (c:Value),vs[j]? =some v->vs'[j]? =some c->Bf x v c):Bf x (.tup vs) (.tuple vs')
 |any (c:Value):Bf x .any c
structure Cx.Later(x y:Cx):Prop where
 size:x.w.heap.size<=y.w.heap.size
 keep: ∀B,B<x.w.heap.size-> ¬x.O B-> ∀off,y.w.cell? ⟨B,off,none⟩=x.w.cell? ⟨B,off,none⟩
 own: ∀B,B<x.w.heap.size->y.O B->x.O B
 n:x.n<=y.n
 gen: ∀id,id<x.n->x.gen id<=y.gen id
 same: ∀id,id<x.n->y.gen id=x.gen id->y.io id=x.io id/\y.cap id=x.cap id
variable {N s:Nat}{a:TypeId}{w B:World}{P:Program}{b C:Value}{c:Nat→Prop}{d J:List AV}{e n F:AV}{f:Cx}{i:Array Value}{j:Option (List Deferred)}{k:Act}{m:Operand}{o:Oper}{X:Nat->Prop}{p:List Nat}{q:Code}{r:Bool}{u:Option Nat}{v:Nat×Nat}{x:Nat->Nat}{z:IntKind}{A:FuncId}{D:BinOp}{G:Func}{I:Obj}
theorem eX(h:B.heap[N]? =w.heap[N]?)(a:Nat):B.cell? ⟨N,a,none⟩=w.cell? ⟨N,a,none⟩:=by grind[World.cell?]
theorem Bf.later{x y:Cx}(h:x.Later y)(r:Bf x e b):Bf y e b:=by
 induction r with
 |bool c=>exact .bool c
 |int k n=>exact .int k n
 |str t J=>exact .str t J
 |nilp=>exact .nilp
 |ptr a w d m=>refine .ptr (DB a h.n) (Dp w (h.gen _ a)) d λv=>?_;have d:=h.gen _ a;have l:=h.same _ a (by omega);grind
 |vptr f q g m K p=>refine .vptr f (λo=>q (h.own _ g o)) (DB g h.size) (λj e H=>?_) p;rw[h.keep _ g q];grind
 |nils=>exact .nils
 |vs f s C u G K p=>refine .vs f s C u (λA=>?_) p;obtain⟨B,F,v,q,g,m⟩:=G A;refine⟨B,F,v,(λo=>q (h.own _ g o)),DB g h.size,λj v i e H N=>?_⟩;rw[h.keep _ g q];grind
 |sl a w d m=>refine .sl (DB a h.n) (Dp w (h.gen _ a)) d λv=>?_;have d:=h.gen _ a;have l:=h.same _ a (by omega);grind
 |fn d l _ _ D E=>exact .fn d l D E
 |yf a d m=>refine .yf (DB a h.n) d λv=>?_;have d:=h.gen _ a;have l:=h.same _ a (by omega);grind
 |mp a d m=>refine .mp (DB a h.n) d λv=>?_;have d:=h.gen _ a;have l:=h.same _ a (by omega);grind
 |itp a z d m=>refine .itp (DB a h.n) (DB z h.n) d λv=>?_;have d:=h.gen _ a;have l:=h.same _ a (by omega);obtain⟨B,g,I,O⟩:=m (by omega);refine⟨B,l.1.trans g,I,λv=>?_⟩;have L:=h.gen _ z;have M:=h.same _ z (by omega);grind
 |nilf=>exact .nilf
 |agg h d _ p=>exact .agg h d p
 |tup h _ p=>exact .tup h p
 |any b=>exact .any b
abbrev Env:=List (Nat×AV)
structure eU where
 n:Nat
 env:Env
 params:Array Tmp
 assign:Code
 body:Code
 state:LoopState
 pending:Option Code
inductive EU where
 |dead
 |live (g:Nat) (cells:List AV)
 |lp (L:eU)
 |bld (T e row:Nat) (l:Option (List UInt8))
 |brow (o:Nat)
 |mp (k:IntKind) (es:List (Int×AV))
 |it (n:Nat) (seen:List Nat)
 deriving Inhabited
def EU.isB:EU->Bool
 | .bld .. =>true
 | .brow _=>true
 | .mp _ _=>true
 | .it _ _=>true
 |_=>false
abbrev As:=List EU
structure Gh where
 io:Nat->Option Nat
 gen:Nat->Nat
 cap:Nat->Nat
def owned(h:Gh)(H:As)(B:Nat):Prop:= ∃id e,H[id]? =some e/\e≠EU.dead/\h.io id=some B
def cx(X:Nat->Prop)(h:Gh)(H:As)(w:World):Cx:=⟨w,H.length,h.io,h.gen,h.cap,λB=>X B\/owned h H B⟩
def tJ(x:Cx)(id g:Nat)(cs:List AV):Prop:=
 x.gen id=g/\((x.io id=none/\cs=[])\/ ∃(B:Nat) (arr:Array Value) (T:TypeId) (fz:Nat×Nat) (f:Nat->Value),x.io id=some B/\x.w.heap[B]? =some (.cells arr T fz)/\arr.size=x.cap id/\
  cs.length<=arr.size/\(∀i,i<arr.size->(decide (fz.1<=i)&&decide (i<fz.2))=false)/\
  ∀(j:Nat) (v:AV),cs[j]? =some v->arr[j]? =some (f j)/\(f j).oneCell'=true/\Bf x v (f j))
def oJ(x:Cx)(id:Nat)(L:eU):Prop:=
 x.gen id=0/\ ∃(B:Nat) (r:Loop),x.io id=some B/\x.w.heap[B]? =some (.loop r)/\r.state=L.state/\r.pending=L.pending/\r.params=L.params/\r.assign=L.assign/\r.body=L.body/\r.tmps.size=L.n/\
  ∀t v,(t,v)∈L.env->t<L.n/\Bf x v (r.tmps.getD t undef)
def xv(h:Gh)(H:As)(w:World)(id:Nat):EU->Prop
 | .bld T e row l=> ∃(B:Nat) (p v:Value),h.io id=some B∧w.heap[B]? =some (.cells #[p,v] T (0,0))∧(p= .pointer none∨p= .pointer (some ⟨B,0,none⟩))∧h.gen id=0∧(l=none→p= .pointer none∧v= .slice none 0 0)∧
   (H[row]? =some (.brow id)->w.ownsRowF 0 e 1 v (l.getD []).length (Lib.byteCells (l.getD []))/\v.ownBlock=h.io row)
 | .brow _=> ∀B,h.io id=some B-> ∃arr T fz,w.heap[B]? =some (.cells arr T fz)
 | .mp k es=> ∃(B:Nat) (arr:Array MapEntry),h.io id=some B∧h.gen id=0∧w.heap[B]? =some (.map arr arr.size)∧arr.size=es.length∧
   ∀(j:Nat) (p:Int×AV),es[j]? =some p-> ∃e:MapEntry,arr[j]? =some e/\e.born=j/\e.key= .int k p.1/\ ∀x,Bf x p.2 e.val
 | .it n seen=> ∃B,h.io id=some B/\h.gen id=0/\w.heap[B]? =some (.mapIter (some (h.cap id)) n seen.toArray n)
 |_=>True
structure Iq(X:Nat->Prop)(h:Gh)(H:As)(w:World):Prop where
 out: ∀B,X B->B<w.heap.size/\ ¬owned h H B
 live: ∀(id g:Nat) (cs:List AV),H[id]? =some (EU.live g cs)->tJ (cx X h H w) id g cs
 lp: ∀(id:Nat) (L:eU),H[id]? =some (EU.lp L)->oJ (cx X h H w) id L
 inj: ∀(id id':Nat) (e e':EU) (B:Nat),H[id]? =some e->H[id']? =some e'->e≠ .dead->e'≠ .dead->h.io id=some B->h.io id'=some B->id=id'
 bld: ∀(id:Nat) (e:EU),H[id]? =some e->e.isB=true->xv h H w id e
variable {H E:As}{h L:Gh}{g:Env}{l:EU}{K:AV->As->Prop}{t:AV→As→Prop}
def Iq.bldKeep(s:Iq c h H w)
  (key: ∀(id:Nat) (e:EU),E[id]? =some e->e.isB=true->H[id]? =some e/\L.io id=h.io id/\L.gen id=h.gen id/\L.cap id=h.cap id/\ ∀K (o:Obj),h.io id=some K->w.heap[K]? =some o->(∀z,o≠ .deferred z)->B.heap[K]? =w.heap[K]?):
  ∀(id:Nat) (e:EU),E[id]? =some e->e.isB=true->xv L E B id e:=by
 intro id e N I;obtain⟨C,d,u,m,t⟩:=key id e N I;have b:=s.bld id e C I;cases e with
 |bld T R F l=>obtain⟨K,p,v,a,j,i,A,M,X⟩:=b;refine⟨K,p,v,d.trans a,(t K _ a j (λz=>by simp)).trans j,i,u.trans A,M,λhr=>?_⟩;obtain⟨D,r,_,_,Q⟩:=key F (.brow id) hr rfl;obtain⟨q1,q2⟩:=X D;refine⟨⟨q1.1,?_⟩,q2.trans r.symm⟩;rcases q1.2 with q|⟨g,cap,x,y,rfl,O,J,P⟩;exact .inl q;refine .inr ⟨g,cap,x,y,rfl,O,(Q g _ ?_ J (λz=>by simp)).trans J,P⟩;simpa[Value.ownBlock]using q2.symm
 |brow o=>intro K G;obtain⟨f,T,y,a⟩:=b K (d▸G);exact⟨f,T,y,(t K _ (d▸G) a (λz=>by simp)).trans a⟩
 |mp k S=>obtain⟨K,f,a,j,i,A⟩:=b;exact⟨K,f,d.trans a,u.trans j,(t K _ a i (λz=>by simp)).trans i,A⟩
 |it n seen=>obtain⟨K,a,j,i⟩:=b;exact⟨K,d.trans a,u.trans j,by rw[m];exact(t K _ a i (λz=>by simp)).trans i⟩
 |_=>trivial
def Nc(x:Cx)(env:Env)(a:Act):Prop:= ∀t v,(t,v)∈env->t<a.tmps.size/\Bf x v (a.tmps.getD t undef)
structure St(X:Nat->Prop)(h:Gh)(N:Nat)(env:Env)(H:As)(a:Act)(w:World):Prop where
 sim:Iq X h H w
 env:Nc (cx X h H w) env a
 size:a.tmps.size=N
structure HT(h:Gh)(H:As)(w:World)(h':Gh)(H':As)(w':World):Prop where
 os:w'.os=w.os
 tape:w'.tape=w.tape
 output:w'.output=w.output
 size:w.heap.size<=w'.heap.size
 keep: ∀B,B<w.heap.size-> ¬owned h H B->w'.heap[B]? =w.heap[B]?
 n:H.length<=H'.length
 gen: ∀id,id<H.length->h.gen id<=h'.gen id
 same: ∀id,id<H.length->h'.gen id=h.gen id->h'.io id=h.io id/\h'.cap id=h.cap id
 fresh: ∀B,owned h' H' B->owned h H B\/w.heap.size<=B
 loops: ∀(B:Nat) (r:Loop),w.heap[B]? =some (.loop r)-> ∃r':Loop,w'.heap[B]? =some (.loop r')
def HT.refl(h:Gh)(H:As)(w:World):HT h H w h H w:=⟨rfl,rfl,rfl,Ak _,λ_ _ _=>rfl,Ak _,λ_ _=>Ak _,λ_ _ _=>⟨rfl,rfl⟩,λ_ h=>.inl h,λ_ r h=>⟨r,h⟩⟩
theorem HT.trans{c j k:Gh}{i:As}{l m o:World}(a:HT c H l j E m)(b:HT j E m k i o):HT c H l k i o where
 os:=b.os.trans a.os
 tape:=b.tape.trans a.tape
 output:=b.output.trans a.output
 size:=Dp a.size b.size
 keep B hB hn:=(b.keep B (DB hB a.size) λd=>by rcases a.fresh B d with h|h;grind;omega).trans (a.keep B hB hn)
 n:=Dp a.n b.n
 gen id hid:=Dp (a.gen id hid) (b.gen id (DB hid a.n))
 same id hid e:=by have q:=a.gen id hid;have s:=b.gen id (DB hid a.n);have u:=a.same id hid (by omega);have v:=b.same id (DB hid a.n) (by omega);grind
 fresh B d:=by rcases b.fresh B d with h|h;exact a.fresh B h;exact .inr (Dp a.size h)
 loops B r h:=by obtain⟨p,c⟩:=a.loops B r h;exact b.loops B p c
def HT.later{h c:Gh}{H b:As}{w d:World}(e:HT h H w c b d)(X:Nat->Prop):(cx X h H w).Later (cx X c b d)where
 size:=e.size
 keep B hB hO off:=eX (e.keep B hB λa=>hO (.inr a)) off
 own B hB a:=by rcases a with a|a;exact .inl a;rcases e.fresh B a with h|h;exact .inr h;simp only[cx]at hB;omega
 n:=e.n
 gen:=e.gen
 same:=e.same
def Nc.later{x y:Cx}(l:x.Later y)(h:Nc x g k):Nc y g k:=λt v m=>⟨(h t v m).1,(h t v m).2.later l⟩
def Es(P:Program)(F:FuncId)(args:List AV)(H:As)(Q:AV->As->Prop):Prop:=
 ∀(X:Nat->Prop) (h:Gh) (w:World) (cargs:Array Value),Iq X h H w->cargs.size=args.length->
  (∀(j:Nat) (v:AV) (c:Value),args[j]? =some v->cargs[j]? =some c->Bf (cx X h H w) v c)->
  Calls P F cargs w λe w'=> ∃c v h' H',e= .returned c/\Q v H'/\Iq X h' H' w'/\Bf (cx X h' H' w') v c/\HT h H w h' H' w'
def FR(r:Option Nat):Fence:={Fence.wide with round:=r}
def Wy(a:Act)(w:World)(a':Act)(w':World):Prop:=
 ∃ds,a'.defers=ds++a.defers/\ds.Nodup/\ ∀d∈ds,∃D,d={target:=.collected D,args:= #[]}/\w.heap.size<=D/\w'.heap[D]? =some (.deferred (some []))
def gC(r:Option Nat)(w:World):Prop:= ∀l,r=some l-> ∃x:Loop,w.heap[l]? =some (.loop x)
def Wy.same{b:Act}{w c:World}(h:b.defers=k.defers):Wy k w b c:=⟨[],by simp[h],.nil,λ_ h=>by cases h⟩
def Iq.deferred(s:Iq X h H w)(i:w.heap[N]? =some (.deferred j)): ¬owned h H N:=by
 rintro⟨id,e,D,t,b⟩;cases e with
 |dead=>exact t rfl
 |live g u=>rcases(s.live id g u D).2 with⟨hn,_⟩|⟨B,m,T,y,f,a,q,_⟩;rw[show(cx X h H w).io id=h.io id from rfl,b]at hn;cases hn;rw[show(cx X h H w).io id=h.io id from rfl,b]at a;injection a with e;subst e;rw[show(cx X h H w).w.heap=w.heap from rfl,i]at q;cases q
 |lp L=>obtain⟨_,B,r,a,q,_⟩:=s.lp id L D;rw[show(cx X h H w).io id=h.io id from rfl,b]at a;injection a with e;subst e;rw[show(cx X h H w).w.heap=w.heap from rfl,i]at q;cases q
 |bld T A z l=>obtain⟨B,p,v,d,c,_⟩:=s.bld id _ D rfl;rw[b]at d;injection d with e;subst e;rw[i]at c;cases c
 |brow o=>obtain⟨m,T,y,c⟩:=s.bld id _ D rfl N b;rw[i]at c;cases c
 |mp k C=>obtain⟨B,m,d,_,c,_⟩:=s.bld id _ D rfl;rw[b]at d;injection d with e;subst e;rw[i]at c;cases c
 |it n seen=>obtain⟨B,d,_,c⟩:=s.bld id _ D rfl;rw[b]at d;injection d with e;subst e;rw[i]at c;cases c
theorem kW(h:w.heap[N]? =some I):N<w.heap.size:=by grind
def HT.defs(x:HT h H w L E B)(s:Iq X h H w)(a:w.heap[N]? =some (.deferred j)):B.heap[N]? =some (.deferred j):=(x.keep N (kW a) (s.deferred a)).trans a
theorem Wy.trans{X:Nat->Prop}{h j b:Gh}{H f n:As}{a a1 a2:Act}{w e m:World}(o:Wy a w a1 e)(s:Iq X j f e)(z:HT h H w j f e)(x:HT j f e b n m)(p:Wy a1 e a2 m):Wy a w a2 m:=by obtain⟨g,B,t,v⟩:=o;obtain⟨i,C,u,y⟩:=p;refine⟨i++g,by grind,O4.2 ⟨u,t,λd r A q E=>?_⟩,λd c=>?_⟩;grind;rcases Ar.1 c with c|c;obtain⟨D,k,b,l⟩:=y d c;exact⟨D,k,Dp z.size b,l⟩;obtain⟨D,k,b,l⟩:=v d c;exact⟨D,k,b,x.defs s l⟩
def gC.later{h c:Gh}{H b:As}{w a:World}(k:gC u w)(x:HT h H w c b a):gC u a:=λl e=>by obtain⟨y,d⟩:=k l e;exact x.loops l y d
def Lr(P:Program)(N:Nat)(c:Code)(env:Env)(H:As)(Q:Exit->Env->As->Prop):Prop:=
 ∀(r:Option Nat) (X:Nat->Prop) (h:Gh) (a:Act) (w:World),St X h N env H a w->gC r w->
  c.wpIn (FR r) 0 P (λe a' w'=> ∃h' env' H',Q e env' H'/\St X h' N env' H' a' w'/\HT h H w h' H' w'/\Wy a w a' w') a w
def Es.mono{P:Program}{F:FuncId}{H:As}{Q:AV->As->Prop}(h:Es P F d H K)(i: ∀v b,K v b->Q v b):Es P F d H Q:=λX g w a s j hr=>(h X g w a s j hr).mono λ_ _ ⟨c,v,f,b,e,q,r⟩=>⟨c,v,f,b,e,i _ _ q,r⟩
def Lr.mono{P:Program}{N:Nat}{H:As}{Q f:Exit->Env->As->Prop}(h:Lr P N q g H Q)(j: ∀e b d,Q e b d->f e b d):Lr P N q g H f:=λr X l a w s k=>wpIn_mono (h r X l a w s k) λ_ _ _ ⟨i,b,d,c,r⟩=>⟨i,b,d,j _ _ _ c,r⟩
def oH(K:Env->As->Prop)(Q:Exit->Env->As->Prop):Exit->Env->As->Prop
 | .normal,env,H=>K env H
 |e,env,H=>Q e env H
def iV(id:Nat)(Q:Exit->Env->As->Prop):Exit->Env->As->Prop
 | .exit id',env,H=>if id'=id then Q .normal env H else Q (.exit id') env H
 |e,env,H=>Q e env H
section rules
variable {P:Program} {N:Nat} {env:Env} {H:As} {Q:Exit->Env->As->Prop}
def Lr.skip(h:Q .normal env H):Lr P N .skip env H Q:=λ_ _ _ _ _ s _=>wpIn_skip ⟨_,_,_,h,s,HT.refl _ _ _,.same rfl⟩
def Lr.ret(h:Q .ret env H):Lr P N .ret env H Q:=λ_ _ _ _ _ s _=>wpIn_ret ⟨_,_,_,h,s,HT.refl _ _ _,.same rfl⟩
def Lr.exit(h:Q (.exit s) env H):Lr P N (.exit s) env H Q:=λ_ _ _ _ _ a _=>wpIn_exit ⟨_,_,_,h,a,HT.refl _ _ _,.same rfl⟩
def Lr.seq{x y:Code}(h:Lr P N x env H (oH (λb d=>Lr P N y b d Q) Q)):Lr P N (.seq x y) env H Q:=by
 intro r X g a w s k;refine wpIn_seq (wpIn_mono (h r X g a w s k) ?_);rintro e n u ⟨j,b,d,q,f,c,i⟩;cases e with
 |normal=>apply wpIn_mono (q r X j n u f (k.later c));rintro e a2 v ⟨p,env2,m,q2,t,l,o⟩;exact⟨p,env2,m,q2,t,c.trans l,i.trans f.sim c l o⟩
 |_=>exact⟨j,b,d,q,f,c,i⟩
theorem Lr.block{id:Nat}(h:Lr P N q env H (iV id Q)):Lr P N (.block id q) env H Q:=by intro r X g a w s k;refine wpIn_block (wpIn_mono (h r X g a w s k) ?_);rintro e f j ⟨i,b,d,c,r⟩;cases e<;>grind[iV,Exit.inBlock]
def F3(N n0:Nat)(env:Env)(H:As)(env2:Env)(H2:As):Prop:=
 n0<=H2.length/\ ∀(X:Nat->Prop) (h:Gh) (a:Act) (w:World),St X h N env H a w->
  ∃h2,St X h2 N env2 H2 a w/\(∀id,id<n0->h2.gen id=h.gen id/\h2.io id=h.io id/\h2.cap id=h.cap id)/\ ∀B,owned h2 H2 B->owned h H B
def F3.ext{d:Gh}{f:As}(hn:f.length=N)(o:N≤E.length)
  (k: ∀id,id<N->d.gen id=h.gen id/\d.io id=h.io id/\d.cap id=h.cap id) (m: ∀i,owned d E i->owned h H i) (x:HT L f B h H w):HT L f B d E w where
 os:=x.os
 tape:=x.tape
 output:=x.output
 size:=x.size
 keep:=x.keep
 n:=by omega
 gen id hid:=by rw[(k id (by omega)).1];exact x.gen id hid
 same id hid e:=by obtain⟨a,b,c⟩:=k id (by omega);rw[a]at e;rw[b,c];exact x.same id hid e
 fresh i hB:=x.fresh i (m i hB)
 loops:=x.loops
theorem F3.refl(N:Nat)(env:Env)(H:As):F3 N H.length env H env H:=⟨Ak _,λ_ h _ _ s=>⟨h,s,λ_ _=>⟨rfl,rfl,rfl⟩,λ_ h=>h⟩⟩
def Lr.weak(f:F3 N H.length env H g E)(h:Lr P N q g E Q):Lr P N q env H Q:=by intro r X d a w s k;obtain⟨m,t,n,o⟩:=f.2 X d a w s;apply wpIn_mono (h r X m a w t k);rintro e v x ⟨l,b,i,c,p,u,j⟩;exact⟨l,b,i,c,p,(F3.ext rfl f.1 n o (HT.refl d H w)).trans u,j⟩
end rules
def Env.get:Env->Nat->AV
 |[],_=>.any
 |(k,v)::r,t=>if k=t then v else Env.get r t
def Env.put(env:Env)(t:Nat)(v:AV):Env:=(t,v)::env.filter λp=>decide (p.1≠t)
def Env.putO(env:Env):Option Nat->AV->Env
 |some t,v=>env.put t v
 |none,_=>env
theorem Mw{env:Env}{t:Nat}:Env.get env t= .any\/(t,Env.get env t)∈env:=by induction env<;>grind[Env.get]
def jr:Value->AV
 | .bool b=>.bool b
 | .int k n=>.int k n
 | .string s=>.str s.data.toList
 | .pointer none=>.nilp
 | .slice none 0 0=>.nils
 | .nilFunc=>.nilf
 |_=>.any
def uh:Value->AV
 | .agg cs=>if cs.toList.all (·.oneCell')then .agg (cs.toList.map jr)else .any
 |v=>jr v
theorem ij(x:Cx)(v:Value):Bf x (jr v) v:=by unfold jr;split;exact .bool _;exact .int _ _;exact .str _ rfl;exact .nilp;exact .nils;exact .nilf;exact .any _
theorem py(x:Cx)(v:Value):Bf x (uh v) v:=by unfold uh;split;rename_i b;split;rename_i h;refine .agg (by simp) (λj c a=>?_) λj v c a d=>?_;grind;grind[ij];exact .any _;exact ij x _
def BA(env:Env):Operand->AV
 | .tmp t=>env.get t
 | .const v=>uh v
 | .global _=>.any
 | .func f=>.fn (.func f) [] []
def DO(h:Nc f g k)(o:Operand):Bf f (BA g o) (k.eval o):=by
 cases o with
 |tmp t=>rcases Mw (env:=g) (t:=t)with e|m;simp only[BA,e];exact .any _;exact(h _ _ m).2
 |const v=>exact py f v
 |global a=>exact .any _
 |func x=>exact .fn rfl rfl (λ_ _ _ h=>by simp at h) (λ_ _ _ h=>by simp at h)
theorem Nc.put{x:Cx}{a:Act}(h:Nc x g a){d:Nat}{v:AV}(i:d<a.tmps.size)(j:Bf x v b):Nc x (g.put d v) (a.put (some d) b):=by
 intro t u m;simp only[Act.put];rcases An.1 m with e|m;simp_all;rw[Bc]at m;obtain⟨m,c⟩:=m;have c:t≠d:=by grind
 obtain⟨f,k⟩:=h t u m;have:(a.tmps.setIfInBounds d b).getD t undef=a.tmps.getD t undef:=by rw[O9,O9,nB (λe=>c e.symm)]
 grind
def Nc.putO(h:Nc f g k){v:AV}(b: ∀t,u=some t->t<k.tmps.size)(e:Bf f v C):Nc f (g.putO u v) (k.put u C):=by
 cases u with
 |none=>exact h
 |some u=>exact h.put (b u rfl) e
def Zf(a:Act)(d:Option Nat)(c:Value):(a.put d c).tmps.size=a.tmps.size:=by cases d<;>simp[Act.put]
def Ip(P:Program)(N:Nat)(o:Oper)(env:Env)(H:As)(K:AV->As->Prop):Prop:=
 ∀(r:Option Nat) (X:Nat->Prop) (h:Gh) (a:Act) (w:World),St X h N env H a w-> ∀Q:Exit->Act->World->Prop,
  Oper.wpIn (FR r) 0 P o a w (λa' w'=> ∃c v h' H',a'=a.put o.dst c/\K v H'/\Bf (cx X h' H' w') v c/\Iq X h' H' w'/\HT h H w h' H' w') Q
def Ip.mono{P:Program}{N:Nat}{H:As}{d:AV->As->Prop}(h:Ip P N o g H K)(i: ∀v b,K v b->d v b):Ip P N o g H d:=λr X j a w s Q=>Oper.wpIn_mono (λ_ _ ⟨c,v,f,b,e,k,r⟩=>⟨c,v,f,b,e,i _ _ k,r⟩) (h r X j a w s Q)
def Op.plain:Op->Bool
 | .defer _=>false
 |_=>true
def Cu(n:Op.plain o.op=true)(h: ∀(X:Nat→Prop) (h:Gh) (a:Act) (w:World),St X h N g H a w→ ∀Q:Exit→Act→World→Prop,
  Oper.wp P o a w (λp b=> ∃c v i e,p=a.put o.dst c/\t v e/\Bf (cx X i e b) v c/\Iq X i e b/\HT h H w i e b) Q):Ip P N o g H t:=by
 intro r X z a w s Q;have d:=h X z a w s Q;refine⟨λ_ _=>trivial,?_⟩;rw[Oper.semAt_eq _ _ _ (λc j=>by rw[j]at n;cases n)];unfold Oper.wp at d;generalize (execOp a.eval o).run P w=res at d;have j: ∀{f:FuncId} {args:Array Value} {b:World} {R:Ending->World->Prop},Calls P f args b R->CallsIn (FR r) (0-1) P f args b R:=by
  intro f args b R K;have m:CallsIn Fence.wide (0-1) P f args b R:=callsIn_wide.2 K;cases r with
  |none=>exact m
  |some l=>exact m
 cases res with
 |ok v b=>
  cases v with
  |enter f args=>exact⟨(λh=>by cases h),j d⟩
  |row row args=>refine⟨(λh=>by cases h),λc q _=>?_⟩;obtain⟨v,k,u,y⟩:=d c q;exact⟨v,k,u,stepsIn_wide.2 y⟩
  |round l f tmps assign body=>exact d.elim
  |_=>exact d
 |halt x b=>cases x<;>exact d
def Tl(ops:Array Oper)(env:Env)(j:Nat):AV:=
 match (ops[j]?).bind (·.dst)with
 |some d=>env.get d
 |none=>.any
def U6(ops:Array Oper)(g:Option (Nat×Bool))(env:Env)(A B:Prop):Prop:=
 match g with
 |none=>A
 |some (j,want)=>
  match Tl ops env j with
  | .bool b=>(b=want->A)/\(b=(!want)->B)
  | .tup []=>B
  |_=>False
def Nt(n:Nat)(ops:List Oper):Bool:=ops.all λo=>match o.dst with|some d=>decide (d<n)|none=>true
theorem qK{x:Array Oper}(s:Nc f g k){A B:Prop}(h:U6 x o.guard g A B):
  (Region.wanted o (yielded x k.tmps)=true/\A)\/(Region.wanted o (yielded x k.tmps)=false/\B):=by
 unfold U6 at h;unfold Region.wanted;cases v:o.guard with
 |none=>grind
 |some p=>
  obtain⟨j,a⟩:=p;rw[v]at h;simp only at h⊢;cases y:Tl x g j with
  |bool b=>
   rw[y]at h;simp only at h;have r:yielded x k.tmps j=some b:=by
    unfold Tl at y;unfold yielded;cases n:(x[j]?).bind (·.dst)with
    |none=>grind
    |some d=>
     rw[n]at y;simp only at y;simp only[AI];rcases Mw (env:=g) (t:=d)with e|m;grind;rw[y]at m;obtain⟨q,hr⟩:=s _ _ m;have:k.tmps[d]? =some (.bool b):=by
      have i:k.tmps.getD d undef= .bool b:=by generalize k.tmps.getD d undef=c at hr;cases hr;rfl
      rw[O9]at i;grind[Array.getElem?_eq_getElem]
     rw[this]
   rw[r];by_cases u:b=a;grind;refine .inr ⟨by simp[u],h.2 ?_⟩;cases b<;>cases a<;>simp_all
  |tup w=>
   cases w with
   |cons _ _=>grind
   |nil=>
    rw[y]at h;simp only at h;refine .inr ⟨?_,h⟩;have r:yielded x k.tmps j=none:=by
     unfold Tl at y;unfold yielded;cases n:(x[j]?).bind (·.dst)with
     |none=>rfl
     |some d=>
      rw[n]at y;simp only at y;simp only[AI];rcases Mw (env:=g) (t:=d)with e|m;grind;rw[y]at m;obtain⟨q,hr⟩:=s _ _ m;have i: ∃l,k.tmps.getD d undef= .tuple l:=by generalize k.tmps.getD d undef=c at hr;cases hr;exact⟨_,rfl⟩
      obtain⟨l,i⟩:=i;have:k.tmps[d]? =some (.tuple l):=by simp_all
      rw[this]
    rw[r];rfl
  |_=>grind
section
variable {P:Program} {N:Nat} {env:Env} {H:As} {Q:Exit->Env->As->Prop}
def Lr.cond{x y:Code}{b:Bool}(d:BA env m= .bool b)(h:b=true->Lr P N x env H Q)(f:b=false->Lr P N y env H Q):Lr P N (.cond m x y) env H Q:=by
 intro r X g a w s k;have hr:=DO s.env m;rw[d]at hr;have e:a.eval m= .bool b:=by generalize a.eval m=v at hr;cases hr;rfl
 apply wpIn_cond e;cases b;exact f rfl r X g a w s k;exact h rfl r X g a w s k
end
mutual
def AV.idsAll(p:Nat->Bool):AV->Bool
 | .ptr id _ _=>p id
 | .sl id _ _ _ _=>p id
 | .yf id=>p id
 | .mp id=>p id
 | .itp id m=>p id&&p m
 | .vptr cs=>AV.idsAllL p cs
 | .vs _ rows=>AV.idsAllL p rows
 | .fn _ a b=>AV.idsAllL p a&&AV.idsAllL p b
 | .agg cs=>AV.idsAllL p cs
 | .tup cs=>AV.idsAllL p cs
 | .bool _| .int _ _| .str _| .nilp| .nils| .nilf| .any=>true
def AV.idsAllL(p:Nat->Bool):List AV->Bool
 |[]=>true
 |v::r=>AV.idsAll p v&&AV.idsAllL p r
end
mutual
def AV.ren(ρ:Nat->Nat):AV->AV
 | .ptr id g off=>.ptr (ρ id) g off
 | .sl id g sz off len=>.sl (ρ id) g sz off len
 | .yf id=>.yf (ρ id)
 | .mp id=>.mp (ρ id)
 | .itp id m=>.itp (ρ id) (ρ m)
 | .vptr cs=>.vptr (AV.renL ρ cs)
 | .vs sz rows=>.vs sz (AV.renL ρ rows)
 | .fn f a b=>.fn f (AV.renL ρ a) (AV.renL ρ b)
 | .agg cs=>.agg (AV.renL ρ cs)
 | .tup cs=>.tup (AV.renL ρ cs)
 | .bool b=>.bool b
 | .int k n=>.int k n
 | .str s=>.str s
 | .nilp=>.nilp
 | .nils=>.nils
 | .nilf=>.nilf
 | .any=>.any
def AV.renL(ρ:Nat->Nat):List AV->List AV
 |[]=>[]
 |v::r=>AV.ren ρ v::AV.renL ρ r
end
theorem NV(a:Nat->Nat)(l:List AV):AV.renL a l=l.map (AV.ren a):=by induction l<;>grind[AV.renL]
theorem Db(p:Nat->Bool)(l:List AV):AV.idsAllL p l=true↔ ∀v∈l,v.idsAll p=true:=by induction l<;>grind[AV.idsAllL]
theorem Lo{p:Nat->Bool}(h:AV.idsAllL p d=true)(a:d[N]? =some e):e.idsAll p=true:=by grind[Db]
theorem oA(a:Nat->Nat)(v:AV):(v.ren a).cells=v.cells.map (AV.ren a):=by cases v<;>simp[AV.ren,AV.cells,NV]
def SN{p:Nat->Bool}(h:e.idsAll p=true): ∀u∈e.cells,u.idsAll p=true:=by
 cases e<;>simp only[AV.cells,A3]<;>first
  |(intro u a;subst a;exact h)
  |(simp only[AV.idsAll]at h;exact(Db _ _).1 h)
theorem Bf.ren{x y:Cx}{p:Nat→Bool}{ρ:Nat→Nat}(F: ∀id,p id=true→id<x.n→ρ id<y.n∧y.gen (ρ id)=x.gen id∧y.io (ρ id)=x.io id∧y.cap (ρ id)=x.cap id)
  (Y:y.w=x.w) (hO: ∀B,y.O B->x.O B) {v:AV}  (r:Bf x v b):v.idsAll p=true->Bf y (v.ren ρ) b:=by
 induction r with
 |bool c=>exact λ_=>.bool c
 |int k n=>exact λ_=>.int k n
 |str t L=>exact λ_=>.str t L
 |nilp=>exact λ_=>.nilp
 | @ptr id g H b A T E z=>intro q;obtain⟨a,c,d,e⟩:=F id q A;refine .ptr a (by rw[c];exact T) E λC=>?_;rw[c]at C;rw[d];exact z C
 | @vptr cs B H f K S z X M=>intro q;simp only[AV.idsAll]at q;simp only[AV.ren,NV];refine .vptr f (λo=>K (hO B o)) (by rw[Y];exact S) (λj v l=>?_) λj v l=>?_;grind;grind[Option.some.injEq,Lo]
 |nils=>exact λ_=>.nils
 | @vs sz D a cap f P W al ha X M=>
  intro q;simp only[AV.idsAll]at q;simp only[AV.ren,NV];have I: ∀{j:Nat} {e:AV},(D.map (AV.ren ρ))[j]? =some e-> ∃u,D[j]? =some u/\e=u.ren ρ:=by grind[Option.some.injEq]
  have G: ∀{u:AV} {i:Nat} {v:AV},(u.ren ρ).cells[i]? =some v-> ∃t,u.cells[i]? =some t/\v=t.ren ρ:=by grind[oA,Option.some.injEq]
  have J:(D.map (AV.ren ρ)).length=D.length:=by simp
  rw[<-J];refine .vs f (by rw[J];exact P) W (λj e l=>?_) (λV=>?_) λj e i v l U=>?_;grind[oA,List.length_map];obtain⟨B,H,e,K,S,z⟩:=ha (by simpa using V);refine⟨B,H,e,λo=>K (hO B o),by rw[Y];exact S,λj e i v l U=>?_⟩;obtain⟨u,s,rfl⟩:=I l;obtain⟨t,L,rfl⟩:=G U;rw[Y];exact z j u i t s L;obtain⟨u,s,rfl⟩:=I l;obtain⟨t,L,rfl⟩:=G U;exact M j u i t s L (SN (Lo q s) _ (BJ L))
 | @sl id g sz H len b A T E z=>intro q;obtain⟨a,c,d,e⟩:=F id q A;refine .sl a (by rw[c];exact T) E λC=>?_;rw[c]at C;rw[d,e];exact z C
 | @fn f first N Q R E h2 ar ax Z ad=>
  intro q;simp only[AV.idsAll,BO]at q;simp only[AV.ren,NV];refine .fn (by simpa using E) (by simpa using h2) (λj v b l z=>?_) λj v b l z=>?_;rw[CL]at l;cases s:first[j]? with
  |none=>rw[s]at l;cases l
  |some u=>rw[s]at l;simp only[Be,Ai]at l;subst l;exact Z j u b s z (Lo q.1 s)
  rw[CL]at l;cases s:N[j]? with
  |none=>rw[s]at l;cases l
  |some u=>rw[s]at l;simp only[Be,Ai]at l;subst l;exact ad j u b s z (Lo q.2 s)
 | @yf id b A E z=>intro q;obtain⟨a,c,d,e⟩:=F id q A;refine .yf a E λC=>?_;rw[c]at C;rw[d];exact z C
 | @mp id b A E z=>intro q;obtain⟨a,c,d,e⟩:=F id q A;refine .mp a E λC=>?_;rw[c]at C;rw[d];exact z C
 | @itp id m b A hm E z=>intro q;simp only[AV.idsAll,BO]at q;obtain⟨a,c,d,e⟩:=F id q.1 A;obtain⟨a2,b2,d2,e2⟩:=F m q.2 hm;refine .itp a a2 E λC=>?_;rw[c]at C;rw[d,b2,d2,e];exact z C
 |nilf=>exact λ_=>.nilf
 | @agg cs ap h E X M=>
  intro q;simp only[AV.idsAll]at q;simp only[AV.ren,NV];refine .agg (by simpa using h) E λj v b l z=>?_;rw[CL]at l;cases s:cs[j]? with
  |none=>rw[s]at l;cases l
  |some u=>rw[s]at l;simp only[Be,Ai]at l;subst l;exact M j u b s z (Lo q s)
 | @tup vs a0 h X M=>
  intro q;simp only[AV.idsAll]at q;simp only[AV.ren,NV];refine .tup (by simpa using h) λj v b l z=>?_;rw[CL]at l;cases s:vs[j]? with
  |none=>rw[s]at l;cases l
  |some u=>rw[s]at l;simp only[Be,Ai]at l;subst l;exact M j u b s z (Lo q s)
 |any b=>exact λ_=>.any b
mutual
theorem so{p:Nat->Bool}{d:Nat->Nat}(c: ∀id,p id=true->d id=id): ∀v:AV,v.idsAll p=true->v.ren d=v
 | .ptr id g off,h=>by simp only[AV.ren,c id h]
 | .sl id g sz off len,h=>by simp only[AV.ren,c id h]
 | .yf id,h=>by simp only[AV.ren,c id h]
 | .mp id,h=>by simp only[AV.ren,c id h]
 | .itp id m,h=>by simp only[AV.idsAll,BO]at h;simp only[AV.ren,c id h.1,c m h.2]
 | .vptr cs,h=>by simp only[AV.ren,Uo c cs h]
 | .vs sz rows,h=>by simp only[AV.ren,Uo c rows h]
 | .fn f a b,h=>by simp only[AV.idsAll,BO]at h;simp only[AV.ren,Uo c a h.1,Uo c b h.2]
 | .agg cs,h=>by simp only[AV.ren,Uo c cs h]
 | .tup cs,h=>by simp only[AV.ren,Uo c cs h]
 | .bool _,_=>rfl
 | .int _ _,_=>rfl
 | .str _,_=>rfl
 | .nilp,_=>rfl
 | .nils,_=>rfl
 | .nilf,_=>rfl
 | .any,_=>rfl
theorem Uo{p:Nat->Bool}{b:Nat->Nat}(a: ∀id,p id=true->b id=id): ∀l:List AV,AV.idsAllL p l=true->AV.renL b l=l
 |[],_=>rfl
 |v::r,h=>by simp only[AV.idsAllL,BO]at h;simp only[AV.renL,so a v h.1,Uo a r h.2]
end
def tI(P:Program)(t:TypeId):Option (Bool×Nat):=
 match P.info? t,P.underlying t with
 |some i,some d=>some ((match d with| .struct _| .array _ _=>true|_=>false),i.size)
 |_,_=>none
def U2(h:tI P a=some (r,N))(w:World):(isAgg a).run P w= .ok r w:=by unfold tI at h;split at h;rename_i i d c t;unfold isAgg;simp only[Sem.run_bind,run_underlying t,Result.andThen_ok];split<;>simp_all;cases h
def KD{P:Program}(h:tI P a=some (r,N))(w:World):(sizeOf a).run P w= .ok N w:=by unfold tI at h;split at h;rename_i i d t c;simp at h;simp[sizeOf,typeInfo,t,h.2];cases h
def Og(H:As):AV->Nat->Option (List AV)
 | .ptr id g off,n=>
  match H[id]? with
  |some (.live g' cs)=>if g=g'/\off+n<=cs.length then some ((cs.drop off).take n)else none
  |_=>none
 | .vptr cs,n=>if n<=cs.length then some (cs.take n)else none
 |_,_=>none
def fC(x:Cx)(vs:List AV)(cs:List Value):Prop:=cs.length=vs.length/\ ∀(j:Nat) (v:AV) (c:Value),vs[j]? =some v->cs[j]? =some c->Bf x v c
theorem Ng(B a j:Nat):(⟨B,a,none⟩:Addr).add j=⟨B,a+j,none⟩:=by grind[Addr.add]
theorem OV{w:World}(h:w.heap[N]? =some (.cells i a v))(b:Nat):w.cell? ⟨N,b,none⟩=i[b]? :=by grind[World.cell?]
theorem mU(s:Iq c h H w)(r:Bf (cx c h H w) e b)(hr:Og H e N=some d):
  ∃(B a:Nat) (k:List Value),b= .pointer (some ⟨B,a,none⟩)/\k.length=N/\(∀j u,k[j]? =some u->w.cell? ((⟨B,a,none⟩:Addr).add j)=some u/\u.oneCell'=true)/\fC (cx c h H w) d k:=by
 cases r with
 | @ptr id g a b O Z V x=>
  simp only[Og]at hr;split at hr;rename_i U k L;split at hr;rename_i m;obtain⟨rfl,F⟩:=m;simp only[Ai]at hr;subst hr;obtain⟨t,q⟩:=s.live id g k L;obtain⟨B,o,rfl⟩:=x t;rcases q with⟨hn,_⟩|⟨D,I,T,S,f,l,K,E,A,M,i⟩;rw[hn]at o;cases o;have:D=B:=by rw[show(cx c h H w).io id=some B from o]at l;injection l with n;exact n.symm
  subst this;refine⟨D,a,(List.range N).map (λj=>f (a+j)),rfl,by simp,?_,?_,?_⟩;intro j u p;have G:j<N:=by grind[Nat.lt_or_ge,List.getElem?_eq_none]
  have Q:u=f (a+j):=by grind[List.getElem?_range]
  subst Q;have y:k[a+j]? =some (k[a+j]'(by omega)):=Az (by omega);obtain⟨J,P,_⟩:=i _ _ y;rw[Ng,OV (w:=w) K];exact⟨J,P⟩;grind[List.length_map,List.length_range,List.length_take,List.length_drop];grind[Nat.lt_or_ge,List.getElem?_eq_none,List.getElem?_range,Option.some.injEq];cases hr;cases hr
 | @vptr k B a f Y W x R=>
  simp only[Og]at hr;split at hr;rename_i A;simp only[Ai]at hr;subst hr;refine⟨B,a,(List.range N).map f,rfl,by simp,?_,?_,?_⟩;intro j u p;have G:j<N:=by grind[Nat.lt_or_ge,List.getElem?_eq_none]
  rw[CL,TC G]at p;simp only[Be,Ai]at p;subst p;rw[Ng];exact x j _ (Az (by omega));grind[List.length_map,List.length_range,List.length_take];intro j u v p z;have G:j<N:=by rcases Ap j N with C|X;exact C;simp_all[Cs]
  rw[RH,if_pos G]at p;rw[CL,TC G]at z;simp only[Be,Ai]at z;subst z;exact R j u p;cases hr
 |_=>simp only[Og]at hr;cases hr
def bj(P:Program)(t:TypeId)(H:As)(v:AV):Option AV:=
 match tI P t with
 |some (true,n)=>(Og H v n).map AV.agg
 |some (false,_)=>(Og H v 1).bind List.head?
 |none=>none
theorem qX(s:Iq c h H w)(r:Bf (cx c h H w) e b)(v:bj P a H e=some n):
  ∃B u l,b= .pointer (some ⟨B,u,none⟩)/\(loadVar a ⟨B,u,none⟩).run P w= .ok l w/\Bf (cx c h H w) n l:=by
 unfold bj at v;split at v;rename_i X g;cases hr:Og H e X with
 |none=>grind
 |some o=>rw[hr]at v;simp at v;subst v;obtain⟨B,u,f,rfl,d,k,t⟩:=mU s r hr;refine⟨B,u,.agg f.toArray,rfl,?_,?_⟩;unfold loadVar;simp only[Sem.run_bind,U2 g,Result.andThen_ok,if_true,KD g];subst d;rw[run_loadCells_list w ⟨B,u,none⟩ f λj e i=>(k j e i).1];rfl;refine .agg (by simpa using t.1) (λj b i=>?_) λj e b i p=>?_;grind;exact t.2 j e b i (by grind)
 rename_i X g;cases hr:Og H e 1 with
 |none=>grind
 |some o=>
  rw[hr]at v;simp at v;obtain⟨B,u,f,rfl,d,k,t⟩:=mU s r hr;match f,d with
  |[c0],_=>
   match o,t.1 with
   |[u0],_=>simp at v;subst v;refine⟨B,u,c0,rfl,?_,t.2 0 _ _ rfl rfl⟩;unfold loadVar;have m:=(k 0 c0 rfl).1;simp only[Addr.add,if_true]at m;simp[U2 g,m]
 cases v
def fu(P:Program)(env:Env)(H:As):ResultVar->Option AV
 | .tmp t=>some (env.get t)
 | .cell a t=>bj P t H (env.get a)
def Qs(P:Program)(env:Env)(H:As):List ResultVar->Option (List AV)
 |[]=>some []
 |r::rs=>
  match fu P env H r,Qs P env H rs with
  |some v,some vs=>some (v::vs)
  |_,_=>none
def bk(P:Program)(fn:Func)(env:Env)(H:As):Option AV:=
 match Qs P env H fn.results.toList with
 |some [v]=>some v
 |some vs=>some (.tup vs)
 |none=>none
def dD(h:Nc f g k)(t:Nat):Bf f (g.get t) (k.tmps.getD t undef):=DO h (.tmp t)
def mW(tmps:Array Value):ResultVar->Sem Value
 | .tmp t=>pure (tmps.getD t undef)
 | .cell a t=>do loadVar t (<-asAddr (tmps.getD a undef))
def ss(b:Func)(tmps:Array Value):results b tmps=(do
  let a<-b.results.mapM (mW tmps);pure (if h:a.size=1 then a[0]else .tuple a)):=rfl
theorem kI{P:Program}{N:Nat}{X:Nat→Prop}{h:Gh}{env:Env}{H:As}{a:Act}{w:World}(s:St X h N env H a w): ∀(g:List ResultVar) (i:List AV),Qs P env H g=some i→
  ∃f,Sem.run P (g.mapM (mW a.tmps)) w= .ok f w/\fC (cx X h H w) i f
 |[],i,hv=>by simp only[Qs,Ai]at hv;subst hv;exact⟨[],rfl,rfl,λ_ _ _ h=>by cases h⟩
 |r::g,i,hv=>by
  simp only[Qs]at hv;split at hv;rename_i v l k n;simp at hv;subst hv;obtain⟨f,o,b⟩:=kI s g l n;have e: ∃c,Sem.run P (mW a.tmps r) w= .ok c w/\Bf (cx X h H w) v c:=by
   cases r with
   |tmp t=>simp only[fu,Ai]at k;subst k;exact⟨_,rfl,dD s.env t⟩
   |cell x t=>obtain⟨B,y,m,p,q,hr⟩:=qX s.sim (dD s.env x) k;refine⟨m,?_,hr⟩;simp only[mW,p];simp[asAddr,q]
  obtain⟨c,z,hr⟩:=e;refine⟨c::f,?_,by simpa using b.1,?_⟩;simp_all;intro j u d C A;cases j with
  |zero=>grind
  |succ j=>exact b.2 j u d (by grind) (by grind)
  cases hv
theorem vI(s:St c h N g H k w)(d:bk P G g H=some e):
  ∃v,(results G k.tmps).run P w= .ok v w/\Bf (cx c h H w) e v:=by
 unfold bk at d;cases a:Qs P g H G.results.toList with
 |none=>grind
 |some l=>
  rw[a]at d;obtain⟨f,m,b⟩:=kI s _ l a;have n:Sem.run P (G.results.mapM (mW k.tmps)) w= .ok f.toArray w:=by grind[Array.mapM_eq_mapM_toList,Sem.run_map,Result.andThen_ok]
  rw[ss];simp only[Sem.run_bind,n];simp only[Result.andThen_ok,Sem.run_pure,Result.ok.injEq,and_true,exists_eq_left'];match l,b with
  |[],b=>simp at d;subst d;have:f=[]:=EJ (by simpa using b.1);subst this;exact .tup rfl λj e v i _=>by cases i
  |[v0],b=>
   simp at d;subst d;match f,b.1 with
   |[c0],_=>exact b.2 0 _ _ rfl rfl
  |v0::v1::r,b=>
   simp at d;subst d;have X:f.toArray.size≠1:=by rw[Zn,b.1];simp
   rw[dif_neg X];exact .tup (by simpa using b.1) λj e v i o=>b.2 j e v i (by grind)
def Nd(n0:Nat)(v:AV)(H:As)(v2:AV)(H2:As):Prop:=
 n0<=H2.length/\ ∀(X:Nat->Prop) (h:Gh) (w:World) (c:Value),Iq X h H w->Bf (cx X h H w) v c->
  ∃h2,Iq X h2 H2 w/\Bf (cx X h2 H2 w) v2 c/\(∀id,id<n0->h2.gen id=h.gen id/\h2.io id=h.io id/\h2.cap id=h.cap id)/\ ∀B,owned h2 H2 B->owned h H B
def Nd.refl{a:Nat}(v:AV)(H:As)(hn:a<=H.length):Nd a v H v H:=⟨hn,λ_ h _ _ s r=>⟨h,s,r,λ_ _=>⟨rfl,rfl,rfl⟩,λ_ h=>h⟩⟩
def AB8(P:Program)(fn:Func)(n0:Nat)(Q:AV->As->Prop):Exit->Env->As->Prop
 | .normal,env,H| .ret,env,H=> ∃v v2 H2,bk P fn env H=some v/\Nd n0 v H v2 H2/\Q v2 H2
 |_,_,_=>False
def env0:Nat->List AV->Env
 |_,[]=>[]
 |i,v::r=>(i,v)::env0 (i+1) r
theorem qC{t:Nat}{v:AV}: ∀{i:Nat} {l:List AV},(t,v)∈env0 i l->i<=t/\l[t-i]? =some v
 |i,u::r,h=>by simp only[env0,An]at h;rcases h with⟨rfl,rfl⟩|h;simp;obtain⟨a,b⟩:=qC h;grind
theorem eO{y:Option (List Deferred)}(b:w.heap[N]? =some (.deferred j))(B a:Nat):(w.putObj N (.deferred y)).cell? ⟨B,a,none⟩=w.cell? ⟨B,a,none⟩:=by grind[World.cell?,World.putObj_heap_same,World.putObj_heap_other]
def Iq.shut(s:Iq c h H w){x y:Option (List Deferred)}(J:w.heap[N]? =some (.deferred x)):
  (cx c h H w).Later (cx c h H (w.putObj N (.deferred y)))/\Iq c h H (w.putObj N (.deferred y)):=by
 have C:(cx c h H w).Later (cx c h H (w.putObj N (.deferred y))):=⟨by simp[cx],λB _ _ G=>eO J B G,λ_ _ h=>h,Ak _,λ_ _=>Ak _,λ_ _ _=>⟨rfl,rfl⟩⟩
 have d: ∀{B:Nat} {o:Obj},w.heap[B]? =some o->(∀z,o≠ .deferred z)->(w.putObj N (.deferred y)).heap[B]? =some o:=by intro B o a F;by_cases i:B=N;subst i;rw[J]at a;injection a with e;exact(F x e.symm).elim;rw[World.putObj_heap_other i,a]
 refine⟨C,λB a=>⟨by simpa using(s.out B a).1,(s.out B a).2⟩,λid g K l=>?_,λid L l=>?_,s.inj,s.bldKeep λid e l _=>⟨l,rfl,rfl,rfl,λB o _ a F=>(d a F).trans a.symm⟩⟩;obtain⟨A,n⟩:=s.live id g K l;refine⟨A,?_⟩;rcases n with⟨hn,rfl⟩|⟨B,p,T,M,f,D,q,k,E,u,b⟩;exact .inl ⟨hn,rfl⟩;refine .inr ⟨B,p,T,M,f,D,d q (λz=>by simp),k,E,u,λj v U=>?_⟩;obtain⟨V,W,Y⟩:=b j v U;exact⟨V,W,Y.later C⟩;obtain⟨A,B,r,D,q,X,O,P,Q,R,S,I⟩:=s.lp id L l;exact⟨A,B,r,D,d q (λz=>by simp),X,O,P,Q,R,S,λt v m=>⟨(I t v m).1,(I t v m).2.later C⟩⟩
theorem HT.shut(x:HT h H w L E B){y z:Option (List Deferred)}(d:w.heap.size<=N)(e:B.heap[N]? =some (.deferred z)):HT h H w L E (B.putObj N (.deferred y))where
 os:=x.os
 tape:=x.tape
 output:=x.output
 size:=by simpa using x.size
 keep a hB hn:=by rw[World.putObj_heap_other (by omega)];exact x.keep a hB hn
 n:=x.n
 gen:=x.gen
 same:=x.same
 fresh:=x.fresh
 loops a r hB:=by obtain⟨f,L⟩:=x.loops a r hB;grind[World.putObj_heap_other]
def gv{P:Program}{A:Func}{N:Nat}{X:Nat→Prop}{g h:Gh}{H b p:As}{z:World}{v t:AV}{f:Env}{a:Act}{Q:AV→As→Prop}(o:bk P A f b=some v)(j:Nd H.length v b t p)(B:Q t p):
  ∀(i:List Deferred) (w:World),i.Nodup->(∀d∈i,∃D,d={target:=.collected D,args:= #[]}/\z.heap.size<=D/\w.heap[D]? =some (.deferred (some [])))->
   St X h N f b a w->HT g H z h b w->
   LeavesInM Fence.wide 0 P A a.tmps (λe u=> ∃c v h b,e= .returned c/\Q v b/\Iq X h b u/\Bf (cx X h b u) v c/\HT g H z h b u) i .returning w
 |[],w,_,_,s,x=>by obtain⟨c,m,l⟩:=vI s o;obtain⟨J,n,r,I,K⟩:=j.2 X h w c s.sim l;exact⟨c,m,c,t,J,p,rfl,B,n,r,F3.ext rfl j.1 I K x⟩
 |d::i,w,hnd,hds,s,x=>by obtain⟨D,rfl,G,q⟩:=hds d (by simp);simp only[Ff]at hnd;refine⟨by simp,.inl ⟨D,_,rfl,run_takeDeferred q,?_⟩⟩;have C:=s.sim.shut (y:=none) q;refine gv o j B i _ hnd.2 (λF k=>?_) ⟨C.2,s.env.later C.1,s.size⟩ (x.shut G q);obtain⟨E,rfl,o,j⟩:=hds F (CC _ k);refine⟨E,rfl,o,?_⟩;rw[World.putObj_heap_other,j];rintro rfl;exact hnd.1 k
theorem JT(E:P.funcs[A]? =some G)(C:G.body=some q)(hn:d.length≤G.ntmps)
  (I:Lr P G.ntmps q (env0 0 d) H (AB8 P G H.length t)):Es P A d H t:=by
 intro X g w a s M hr;have D:Nc (cx X g H w) (env0 0 d) {tmps:=a++Array.replicate (G.ntmps-a.size) undef,defers:=[]}:=by
  intro b v m;obtain⟨_,N⟩:=qC m;have O:b<d.length:=by grind
  have L:a[b]? =some (a[b]'(by omega)):=PA (by omega);have:(a++Array.replicate (G.ntmps-a.size) undef).getD b undef=a[b]'(by omega):=by simp_all[cU]
  grind
 refine(callsIn_wide (n:=0)).1 (callsIn_of_wp_marks E C trivial (wpIn_mono (I none X g {tmps:=a++Array.replicate (G.ntmps-a.size) undef,defers:=[]} w ⟨s,D,by simp;omega⟩ (λl e=>by cases e)) ?_));rintro e z i ⟨u,j,F,Q,J,K,c,B,y,x⟩;have k: ∀v h f,bk P G j F=some v->Nd H.length v F h f->t h f->LeavesInM Fence.wide 0 P G z.tmps (λe i=> ∃q v u F,e= .returned q/\t v F/\Iq X u F i/\Bf (cx X u F i) v q/\HT g H w u F i) z.defers .returning i:=by intro v h f o p r;rw[B,Dn];exact gv o p r c i y x J K
 cases e with
 |normal=>obtain⟨v,h,f,o,p,r⟩:=Q;exact k v h f o p r
 |ret=>obtain⟨v,h,f,o,p,r⟩:=Q;exact k v h f o p r
 |_=>exact Q.elim
def Zk(P:Program)(F:FuncId):Bool:=
 match P.funcs[F]? with
 |some fn=>fn.body.isSome&& !(fn.name== "runtime.NumGoroutine")
 |none=>false
def bU(h:Zk P A=true)(args:Array Value)(w:World):(callFunc A args).run P w= .ok (.enter A args) w:=by unfold Zk at h;split at h;rename_i a c;unfold callFunc;cases b:a.body<;>simp_all;cases h
def EU.ren(ρ:Nat->Nat):EU->EU
 | .dead=>.dead
 | .live g cs=>.live g (AV.renL ρ cs)
 | .lp L=>.lp {L with env:=L.env.map λp=>(p.1,p.2.ren ρ)}
 | .bld T e row l=>.bld T e (ρ row) l
 | .brow o=>.brow (ρ o)
 | .mp k es=>.mp k es
 | .it n s=>.it n s
def EU.idsAll(p:Nat->Bool):EU->Bool
 | .dead=>true
 | .live _ cs=>AV.idsAllL p cs
 | .lp L=>L.env.all λq=>q.2.idsAll p
 | .bld _ _ row _=>p row
 | .brow o=>p o
 | .mp _ _=>true
 | .it _ _=>true
def Wa(H:As)(bs:List Nat):As:=bs.map λb=>(H.getD b .dead).ren (bs.idxOf ·)
def Mq(H:As)(bs:List Nat)(j:Nat):Nat:=if j<bs.length then bs.getD j 0 else H.length+(j-bs.length)
def X5(ρ:Nat->Nat):As->List Nat->As->As
 |H,b::bs,e::es=>X5 ρ (H.set b (e.ren ρ)) bs es
 |H,_,_=>H
def Q6(H:As)(bs:List Nat)(Hc:As):As:=X5 (Mq H bs) H bs Hc++(Hc.drop bs.length).map (EU.ren (Mq H bs))
def Qn(c:Nat->Nat): ∀(bs:List Nat) (H a:As),(X5 c H bs a).length=H.length
 |[],H,a=>by cases a<;>rfl
 |b::bs,H,[]=>rfl
 |b::bs,H,e::es=>by simp only[X5];rw[Qn c bs];simp
def bV(c:Nat->Nat){id:Nat}: ∀(bs:List Nat) (H a:As),id∉bs->(X5 c H bs a)[id]? =H[id]?
 |[],H,a,_=>by cases a<;>rfl
 |b::bs,H,[],_=>rfl
 |b::bs,H,e::es,h=>by simp only[An,not_or]at h;simp only[X5];rw[bV c bs _ _ h.2,D3 (λe=>h.1 e.symm)]
def oE(a:Nat->Nat): ∀(bs:List Nat) (H c:As) (j b:Nat),bs.Nodup->bs[j]? =some b->b<H.length->bs.length<=c.length->(X5 a H bs c)[b]? =(c[j]?).map (EU.ren a)
 |[],_,_,_,_,_,hj,_,_=>by simp at hj
 |b0::bs,H,[],_,_,_,_,_,hl=>by simp at hl
 |b0::bs,H,e::es,j,b,hnd,hj,hb,hl=>by
  simp only[Ff]at hnd;simp only[X5];cases j with
  |zero=>simp at hj;subst hj;rw[bV a bs _ _ hnd.1];simp[hb]
  |succ j=>simp at hj;rw[oE a bs _ es j b hnd.2 hj (by simpa using hb) (by simpa using hl)];simp
theorem dU(h:N∈p):p.idxOf N<p.length:=List.idxOf_lt_length_of_mem h
theorem Vq(h:N∈p):p[p.idxOf N]? =some N:=by grind
theorem ZZ(a:p.Nodup)(h:p[N]? =some s):p.idxOf s=N:=by grind
section
variable {X:Nat->Prop} {h:Gh} {H:As} {w:World} {bs:List Nat}
mutual
theorem j0: ∀v:AV,v.idsAll (λ_=>true)=true
 | .itp _ _=>rfl
 | .ptr _ _ _=>rfl
 | .sl _ _ _ _ _=>rfl
 | .yf _=>rfl
 | .mp _=>rfl
 | .vptr c=>OD c
 | .vs _ d=>OD d
 | .fn _ a b=>by simp only[AV.idsAll,OD a,OD b,PY]
 | .agg c=>OD c
 | .tup c=>OD c
 | .bool _| .int _ _| .str _| .nilp| .nils| .nilf| .any=>rfl
theorem OD: ∀l:List AV,AV.idsAllL (λ_=>true) l=true
 |[]=>rfl
 |v::r=>by simp only[AV.idsAllL,j0 v,OD r,PY]
end
def Xs(X:Nat->Prop)(h:Gh)(H:As)(bs:List Nat)(B:Nat):Prop:=X B\/ ∃id e,id∉bs/\H[id]? =some e/\e≠EU.dead/\h.io id=some B
def TR(h:Gh)(bs:List Nat):Gh:=⟨λj=>(bs[j]?).bind h.io,λj=>((bs[j]?).map h.gen).getD 0,λj=>((bs[j]?).map h.cap).getD 0⟩
def qu:l.ren x= .dead↔l= .dead:=by cases l<;>simp[EU.ren]
theorem bY(d:(Wa H bs)[N]? =some l)(c:l≠ .dead): ∃b a,bs[N]? =some b/\H[b]? =some a/\a≠ .dead/\l=a.ren (bs.idxOf ·):=by grind[Wa,EU.ren]
theorem xj(e:(Wa H bs)[N]? =some (EU.live s d)): ∃b a,bs[N]? =some b/\H[b]? =some (EU.live s a)/\d=AV.renL (bs.idxOf ·) a:=by obtain⟨b,j,h,f,_,i⟩:=bY e (by simp);cases j<;>grind[EU.ren]
theorem Ze(d:owned (TR h bs) (Wa H bs) N): ∃b e,b∈bs/\H[b]? =some e/\e≠EU.dead/\h.io b=some N:=by obtain⟨j,e,f,c,a⟩:=d;grind[bY,TR]
theorem pP(x:Nat)(c:decide (x∈bs)=true)(_:x<(cx X h H w).n):
  bs.idxOf x<(cx (Xs X h H bs) (TR h bs) (Wa H bs) w).n/\(cx (Xs X h H bs) (TR h bs) (Wa H bs) w).gen (bs.idxOf x)=(cx X h H w).gen x/\(cx (Xs X h H bs) (TR h bs) (Wa H bs) w).io (bs.idxOf x)=(cx X h H w).io x/\(cx (Xs X h H bs) (TR h bs) (Wa H bs) w).cap (bs.idxOf x)=(cx X h H w).cap x:=by
 have a:x∈bs:=by grind
 have b:=Vq a;refine⟨by simpa[cx,Wa]using dU a,?_,?_,?_⟩<;>simp[cx,TR,b]
def xk(B:Nat)(a:(cx (Xs X h H bs) (TR h bs) (Wa H bs) w).O B):(cx X h H w).O B:=by rcases a with(a|⟨id,e,_,d,c,f⟩)|a;exact .inl a;exact .inr ⟨id,e,d,c,f⟩;obtain⟨b,e,_,d,c,f⟩:=Ze a;exact .inr ⟨b,e,d,c,f⟩
theorem Mr{w:World}(h:w.heap[N]? =some I):N<w.heap.size:=by grind
theorem Iq.io_at(B:Iq X h H w)(c:H[N]? =some l)(x:l≠ .dead)(b:h.io N=some s):s<w.heap.size:=by
 cases l with
 |dead=>grind
 |live g t=>obtain⟨_,hn|⟨i,d,T,u,f,a,m,_⟩⟩:=B.live N g t c;rw[show(cx X h H w).io N=h.io N from rfl,b]at hn;grind;rw[show(cx X h H w).io N=h.io N from rfl,b]at a;injection a with l;subst l;exact Mr m
 |lp L=>obtain⟨_,i,r,a,m,_⟩:=B.lp N L c;rw[show(cx X h H w).io N=h.io N from rfl,b]at a;injection a with l;subst l;exact Mr m
 |bld T z y e=>obtain⟨i,p,v,q,j,_⟩:=B.bld N _ c rfl;grind[Mr]
 |brow o=>obtain⟨d,T,u,j⟩:=B.bld N _ c rfl s b;grind
 |mp k A=>obtain⟨i,d,q,_,j,_⟩:=B.bld N _ c rfl;grind[Mr]
 |it n seen=>obtain⟨i,q,_,j⟩:=B.bld N _ c rfl;grind[Mr]
def Y1:(l.ren x).isB=l.isB:=by cases l<;>rfl
def xv.ren{h h':Gh}{H H':As}{w w':World}{id id':Nat}{ρ:Nat→Nat}(b:xv h H w id l)(f:h'.io id'=h.io id)(d:h'.gen id'=h.gen id)(r:h'.cap id'=h.cap id)(s: ∀B (o:Obj),h.io id=some B→w.heap[B]? =some o→w'.heap[B]? =w.heap[B]?)
  (hr: ∀T u a e,l= .bld T u a e->H'[ρ a]? =some (.brow id')->H[a]? =some (.brow id)/\h'.io (ρ a)=h.io a/\ ∀B (o:Obj),h.io a=some B->w.heap[B]? =some o->w'.heap[B]? =w.heap[B]?):xv h' H' w' id' (l.ren ρ):=by
 cases l with
 |bld T u a e=>obtain⟨B,p,v,c,m,j,y,G,F⟩:=b;refine⟨B,p,v,f.trans c,(s B _ c m).trans m,j,d.trans y,G,λA=>?_⟩;obtain⟨z,C,K⟩:=hr T u a e rfl A;obtain⟨q1,q2⟩:=F z;refine⟨⟨q1.1,?_⟩,q2.trans C.symm⟩;rcases q1.2 with q|⟨g,cap,t,x,rfl,I,E,J⟩;exact .inl q;refine .inr ⟨g,cap,t,x,rfl,I,(K g _ ?_ E).trans E,J⟩;simpa[Value.ownBlock]using q2.symm
 |brow o=>intro B D;obtain⟨i,T,x,c⟩:=b B (f▸D);exact⟨i,T,x,(s B _ (f▸D) c).trans c⟩
 |mp k L=>obtain⟨B,i,c,m,j,y⟩:=b;exact⟨B,i,f.trans c,d.trans m,(s B _ c j).trans j,y⟩
 |it n seen=>obtain⟨B,c,m,j⟩:=b;exact⟨B,f.trans c,d.trans m,by rw[r];exact(s B _ c j).trans j⟩
 |_=>trivial
theorem Iq.sub(s:Iq X h H w)(U:bs.Nodup)(hb: ∀b∈bs,((H.getD b .dead).idsAll λid=>decide (id∈bs))=true):Iq (Xs X h H bs) (TR h bs) (Wa H bs) w where
 out B A:=by have V: ¬(∃b e,b∈bs/\H[b]? =some e/\e≠EU.dead/\h.io b=some B)-> ¬owned (TR h bs) (Wa H bs) B:=λhn ho=>hn (Ze ho);rcases A with A|⟨id,e,a1,c,C,n⟩;exact⟨(s.out B A).1,V λ⟨b,e,_,c,C,n⟩=>(s.out B A).2 ⟨b,e,c,C,n⟩⟩;exact⟨s.io_at c C n,V λ⟨b,e',hm,D,K,M⟩=>a1 (s.inj id b e e' B c D C K n M▸hm)⟩
 live j g cs hj:=by
  obtain⟨b,J,a,N,rfl⟩:=xj hj;obtain⟨G,S⟩:=s.live b g J N;refine⟨by simpa[cx,TR,a]using G,?_⟩;rcases S with⟨hn,rfl⟩|⟨B,W,T,fz,f,F,k,R,a2,a0,x⟩;exact .inl ⟨by simpa[cx,TR,a]using hn,rfl⟩;refine .inr ⟨B,W,T,fz,f,by simpa[cx,TR,a]using F,k,by simpa[cx,TR,a]using R,by rw[NV,Dc];exact a2,a0,?_⟩;intro i v I;rw[NV,CL]at I;cases hu:J[i]? with
  |none=>rw[hu]at I;cases I
  |some u=>rw[hu]at I;simp only[Be,Ai]at I;subst I;obtain⟨c,n,D⟩:=x i u hu;refine⟨c,n,Bf.ren (p:=λid=>decide (id∈bs)) (λid=>pP id) rfl xk D ?_⟩;have:=hb b (BJ a);grind[Lo,EU.idsAll]
 lp j L hj:=by
  obtain⟨b,Z,a,N,C,y⟩:=bY hj (by simp);cases Z with
  |dead=>exact(C rfl).elim
  |live g cs=>simp[EU.ren]at y
  |bld=>simp[EU.ren]at y
  |brow=>simp[EU.ren]at y
  |mp=>simp[EU.ren]at y
  |it=>simp[EU.ren]at y
  |lp L0=>simp only[EU.ren,EU.lp.injEq]at y;subst y;obtain⟨G,B,r,F,k,c,n,D,M,h5,h6,h7⟩:=s.lp b L0 N;refine⟨by simpa[cx,TR,a]using G,B,r,by simpa[cx,TR,a]using F,k,c,n,D,M,h5,h6,λt v m=>?_⟩;obtain⟨q,hq,e⟩:=Bl.1 m;simp only[EV]at e;obtain⟨rfl,rfl⟩:=e;refine⟨(h7 q.1 q.2 hq).1,Bf.ren (p:=λid=>decide (id∈bs)) (λid=>pP id) rfl xk (h7 q.1 q.2 hq).2 ?_⟩;have:=hb b (BJ a);grind[EU.idsAll,List.all_eq_true]
 inj i i' e e' B c n hn1 hn2 D M:=by obtain⟨b,c0,P,al,ar,_⟩:=bY c hn1;obtain⟨b',Y,Q,ap,ax,_⟩:=bY n hn2;have e:=s.inj b b' c0 Y B al ap ar ax (by simpa[TR,P]using D) (by simpa[TR,Q]using M);subst e;rw[<-ZZ U P,<-ZZ U Q]
 bld j e hj A:=by
  obtain⟨b,Z,a,N,C,rfl⟩:=bY hj (by rintro rfl;cases A);rw[Y1]at A;refine(s.bld b Z N A).ren (by simp[TR,a]) (by simp[TR,a]) (by simp[TR,a]) (λ_ _ _ _=>rfl) λT e1 z l y hr=>?_;subst y;obtain⟨b',ad,d,O,K,E⟩:=bY hr (by simp);have hm:z∈bs:=by grind[List.mem_of_getElem?,EU.idsAll]
  have G:bs[bs.idxOf z]? =some z:=by grind[List.getElem?_eq_getElem,dU]
  rw[G]at d;injection d with d;subst d;refine⟨?_,by simp[TR,G],λ_ _ _ _=>rfl⟩;cases ad with
  |brow o=>
   simp only[EU.ren,EU.brow.injEq]at E;have a3:o∈bs:=by have:=hb z hm;rw[I1,O]at this;simpa[EU.idsAll]using this
   have c:=Vq a3;rw[<-E,a]at c;injection c with c;rw[c];exact O
  |_=>simp[EU.ren]at E
def LH(h:Gh)(H:As)(bs:List Nat)(hc:Gh):Gh:=
 let pick {α:Type} (f fc:Nat->α) (id:Nat):α:=if id∈bs then fc (bs.idxOf id)else if id<H.length then f id else fc (bs.length+(id-H.length))
 ⟨pick h.io hc.io,pick h.gen hc.gen,pick h.cap hc.cap⟩
def ej:(Q6 H bs E).length=H.length+(E.length-bs.length):=by simp[Q6,Qn]
def Q7(h:bs.Nodup)(k:bs.length≤E.length)(a:(Q6 H bs E)[N]? =some l):
  (N∉bs/\N<H.length/\H[N]? =some l)\/ ∃j f,N=Mq H bs j/\E[j]? =some f/\l=f.ren (Mq H bs):=by
 unfold Q6 at a;rcases Ap N H.length with b|b;rw[B6 (by rw[Qn];exact b)]at a;by_cases g:N∈bs;have i:=Vq g;rw[oE _ bs H E _ N h i b k]at a;cases d:E[bs.idxOf N]? with
 |none=>rw[d]at a;cases a
 |some f=>rw[d]at a;simp only[Be,Ai]at a;refine .inr ⟨bs.idxOf N,f,?_,d,a.symm⟩;unfold Mq;rw[if_pos (dU g),I1,i];rfl
 rw[bV _ bs H E g]at a;exact .inl ⟨g,b,a⟩;rw[Cr (by rw[Qn];exact b),Qn,CL,OU]at a;cases d:E[bs.length+(N-H.length)]? with
 |none=>rw[d]at a;cases a
 |some f=>rw[d]at a;simp only[Be,Ai]at a;refine .inr ⟨_,f,?_,d,a.symm⟩;unfold Mq;rw[if_neg (by omega)];omega
theorem VH{hc:Gh}(f:bs.Nodup)(a: ∀b∈bs,b<H.length)(j:Nat)(g:j<E.length):
  Mq H bs j<(Q6 H bs E).length/\(LH h H bs hc).gen (Mq H bs j)=hc.gen j/\(LH h H bs hc).io (Mq H bs j)=hc.io j/\(LH h H bs hc).cap (Mq H bs j)=hc.cap j:=by
 rw[ej];unfold Mq;split;grind[LH];have c:H.length+(j-bs.length)∉bs:=λc=>by have:=a _ c;omega
 have e:bs.length+(H.length+(j-bs.length)-H.length)=j:=by omega
 simp only[LH,c,if_false,show¬(H.length+(j-bs.length)<H.length)from by omega,e,and_true];omega
theorem fq(c:bs.Nodup)(k: ∀b∈bs,b<H.length)(r:bs.length≤E.length)(s:owned (LH h H bs L) (Q6 H bs E) N):
  (∃id e,id∉bs/\H[id]? =some e/\e≠EU.dead/\h.io id=some N)\/owned L E N:=by
 obtain⟨id,e,o,l,a⟩:=s;rcases Q7 c r o with⟨u,p,t⟩|⟨j,m,rfl,q,d⟩;grind[LH];have i:j<E.length:=by grind
 rw[(VH (h:=h) (hc:=L) c k j i).2.2.1]at a;exact .inr ⟨j,m,q,λn=>l (d.trans (qu.2 n)),a⟩
theorem HT.back(l:bs.Nodup)(k: ∀b∈bs,b<H.length)(x:HT (TR h bs) (Wa H bs) w L E B):HT h H w (LH h H bs L) (Q6 H bs E) B:=by
 have r:bs.length<=E.length:=by have:=x.n;simpa[Wa]using this
 refine⟨x.os,x.tape,x.output,x.size,λm p hn=>x.keep m p λa=>?_,?_,?_,?_,?_,x.loops⟩;obtain⟨b,e,_,g,f,i⟩:=Ze a;exact hn ⟨b,e,g,f,i⟩;rw[ej];omega;intro id c;by_cases d:id∈bs;have q:=Vq d;have:=x.gen (bs.idxOf id) (by simpa[Wa]using dU d);grind[LH,TR];simp[LH,d,c];intro id c;by_cases d:id∈bs;have q:=Vq d;have:=x.same (bs.idxOf id) (by simpa[Wa]using dU d);grind[LH,TR];simp[LH,d,c];intro m a;rcases fq l k r a with⟨id,e,_,g,f,i⟩|a;exact .inl ⟨id,e,g,f,i⟩;rcases x.fresh m a with a|a;obtain⟨b,e,_,g,f,i⟩:=Ze a;exact .inl ⟨b,e,g,f,i⟩;grind
def Bf.back(g:bs.Nodup)(f: ∀d∈bs,d<H.length)(l:bs.length≤E.length)
  (r:Bf (cx (Xs X h H bs) L E w) e b):Bf (cx X (LH h H bs L) (Q6 H bs E) w) (e.ren (Mq H bs)) b:=by
 refine Bf.ren (x:=cx (Xs X h H bs) L E w) (y:=cx X (LH h H bs L) (Q6 H bs E) w) (ρ:=Mq H bs) (p:=λ_=>true) (λj _ k=>VH (h:=h) (hc:=L) g f j k) rfl (λB a=>?_) r (j0 e);rcases a with a|a;exact .inl (.inl a);rcases fq g f l a with a|a;exact .inl (.inr a);exact .inr a
theorem lG(a:bs.Nodup)(f: ∀b∈bs,b<H.length)(e:Mq H bs N=Mq H bs s):N=s:=by unfold Mq at e;split at e<;>split at e;rename_i c d;rw[I1,Az c,I1,Az d]at e;simp at e;rw[<-ZZ a (Az c),<-ZZ a (Az d),e];grind[List.getElem_mem];grind[List.getElem_mem];omega
theorem Iq.back(s:Iq X h H w)(d:bs.Nodup)(y: ∀b∈bs,b<H.length)(x:HT (TR h bs) (Wa H bs) w L E B)
  (sc:Iq (Xs X h H bs) L E B):Iq X (LH h H bs L) (Q6 H bs E) B:=by
 have W:bs.length<=E.length:=by have:=x.n;simpa[Wa]using this
 have xb:=HT.back (h:=h) d y x;have K: ∀{id:Nat} {e:EU} {V:Nat} {o:Obj},id∉bs->H[id]? =some e->e≠ .dead->h.io id=some V->w.heap[V]? =some o->B.heap[V]? =some o:=by intro id e V o A O a3 c k;refine(x.keep V (Mr k) λho=>?_).trans k;obtain⟨b,e',a7,Q,h0,h4⟩:=Ze ho;exact A (s.inj id b e e' V O Q a3 h0 c h4▸a7)
 have lt: ∀{j:Nat} {n:EU},E[j]? =some n->j<E.length:=by intro j n N;rcases Ap j E.length with I|I;exact I;grind[List.getElem?_eq_none]
 refine⟨λV Y=>⟨DB (s.out V Y).1 x.size,λho=>?_⟩,λid g cs he=>?_,λid D he=>?_,λid a8 e e' V P I ax a0 Q h4=>?_,λid e he Y=>?_⟩;rcases fq d y W ho with⟨id,e,_,P,h0,I⟩|ho;exact(s.out V Y).2 ⟨id,e,P,h0,I⟩;exact(sc.out V (.inl Y)).2 ho;rcases Q7 d W he with⟨A,p,O⟩|⟨j,n,rfl,N,a⟩;obtain⟨hg,S⟩:=s.live id g cs O;refine⟨by simpa[cx,LH,A,p]using hg,?_⟩;rcases S with⟨hn,rfl⟩|⟨V,ad,T,fz,f,c,k,R,ar,ap,C⟩;exact .inl ⟨by simpa[cx,LH,A,p]using hn,rfl⟩;refine .inr ⟨V,ad,T,fz,f,by simpa[cx,LH,A,p]using c,K A O (by simp) c k,by simpa[cx,LH,A,p]using R,ar,ap,λi v Z=>?_⟩;obtain⟨P,I,Q⟩:=C i v Z;exact⟨P,I,Q.later (xb.later X)⟩;cases n with
 |dead=>simp[EU.ren]at a
 |lp D=>simp[EU.ren]at a
 |bld=>simp[EU.ren]at a
 |brow=>simp[EU.ren]at a
 |mp=>simp[EU.ren]at a
 |it=>simp[EU.ren]at a
 |live g0 al=>
  simp only[EU.ren,EU.live.injEq]at a;obtain⟨rfl,rfl⟩:=a;obtain⟨_,r1,r2,r3⟩:=VH (h:=h) (hc:=L) d y j (lt N);obtain⟨hg,S⟩:=sc.live j g al N;refine⟨r1.trans hg,?_⟩;rcases S with⟨hn,rfl⟩|⟨V,ad,T,fz,f,c,k,R,ar,ap,C⟩;exact .inl ⟨r2.trans hn,rfl⟩;refine .inr ⟨V,ad,T,fz,f,r2.trans c,k,R.trans r3.symm,by rw[NV,Dc];exact ar,ap,λi v Z=>?_⟩;rw[NV,CL]at Z;cases hu:al[i]? with
  |none=>rw[hu]at Z;cases Z
  |some u=>rw[hu]at Z;simp only[Be,Ai]at Z;subst Z;obtain⟨P,I,Q⟩:=C i u hu;exact⟨P,I,Bf.back d y W Q⟩
 rcases Q7 d W he with⟨A,p,O⟩|⟨j,n,rfl,N,a⟩;obtain⟨hg,V,r,c,k,P,I,Q,h4,h5,h6,h7⟩:=s.lp id D O;exact⟨by simpa[cx,LH,A,p]using hg,V,r,by simpa[cx,LH,A,p]using c,K A O (by simp) c k,P,I,Q,h4,h5,h6,λt v m=>⟨(h7 t v m).1,(h7 t v m).2.later (xb.later X)⟩⟩;cases n with
 |dead=>simp[EU.ren]at a
 |live g0 al=>simp[EU.ren]at a
 |bld=>simp[EU.ren]at a
 |brow=>simp[EU.ren]at a
 |mp=>simp[EU.ren]at a
 |it=>simp[EU.ren]at a
 |lp L0=>simp only[EU.ren,EU.lp.injEq]at a;subst a;obtain⟨_,r1,r2,r3⟩:=VH (h:=h) (hc:=L) d y j (lt N);obtain⟨hg,V,r,c,k,P,I,Q,h4,h5,h6,h7⟩:=sc.lp j L0 N;refine⟨r1.trans hg,V,r,r2.trans c,k,P,I,Q,h4,h5,h6,λt v m=>?_⟩;obtain⟨q,hq,e⟩:=Bl.1 m;simp only[EV]at e;obtain⟨rfl,rfl⟩:=e;exact⟨(h7 q.1 q.2 hq).1,Bf.back d y W (h7 q.1 q.2 hq).2⟩
 have key: ∀{id:Nat} {e:EU},(Q6 H bs E)[id]? =some e→e≠ .dead→(LH h H bs L).io id=some V→
   (id∉bs/\H[id]? =some e/\h.io id=some V)\/ ∃j n,id=Mq H bs j/\E[j]? =some n/\n≠ .dead/\L.io j=some V:=by
  intro id e he a3 c;rcases Q7 d W he with⟨A,p,O⟩|⟨j,n,rfl,N,a⟩;exact .inl ⟨A,O,by simpa[LH,A,p]using c⟩;exact .inr ⟨j,n,rfl,N,λh0=>a3 (a.trans (qu.2 h0)),by rw[<-(VH (h:=h) (hc:=L) d y j (lt N)).2.2.1];exact c⟩
 rcases key P ax Q with⟨m1,a1,b1⟩|⟨j1,g1,e1,a1,d1,b1⟩<;>rcases key I a0 h4 with⟨m2,a2,b2⟩|⟨j2,g2,e2,a2,d2,b2⟩;exact s.inj _ _ _ _ V a1 a2 ax a0 b1 b2;exact((sc.out V (.inr ⟨_,_,m1,a1,ax,b1⟩)).2 ⟨j2,g2,a2,d2,b2⟩).elim;exact((sc.out V (.inr ⟨_,_,m2,a2,a0,b2⟩)).2 ⟨j1,g1,a1,d1,b1⟩).elim;rw[e1,e2,sc.inj _ _ _ _ V a1 a2 d1 d2 b1 b2];rcases Q7 d W he with⟨A,p,O⟩|⟨j,n,rfl,N,rfl⟩;have b:=s.bld id e O Y;have a:e.ren (λx=>x)=e:=by cases e<;>simp_all[EU.ren,EU.isB]
 have:=b.ren (h':=LH h H bs L) (H':=Q6 H bs E) (w':=B) (id':=id) (ρ:=λx=>x) (by simp[LH,A,p]) (by simp[LH,A,p]) (by simp[LH,A,p]) (λV o c hb=>(K A O (by rintro rfl;cases Y) c hb).trans hb.symm) λT e1 a4 l a5 hr=>?_;rwa [a]at this;rcases Q7 d W hr with⟨F,J,M⟩|⟨j,n,rfl,N,z⟩;exact⟨M,by simp[LH,F,J],λV o c hb=>(K F M (by simp) c hb).trans hb.symm⟩;exfalso;cases n with
 |brow o=>simp only[EU.ren,EU.brow.injEq]at z;unfold Mq at z;split at z;rename_i ho;exact A (by rw[z,I1,Az ho];simp);omega
 |_=>simp[EU.ren]at z
 rw[Y1]at Y;obtain⟨_,r1,r2,r3⟩:=VH (h:=h) (hc:=L) d y j (lt N);refine(sc.bld j n N Y).ren r2 r1 r3 (λ_ _ _ _=>rfl) λT e1 a4 l a5 hr=>?_;rcases Q7 d W hr with⟨F,J,M⟩|⟨j2,e2,a6,M,G⟩;exfalso;unfold Mq at F J;split at F;rename_i U;rw[I1,Az U]at F;exact F (by simp);rename_i U;rw[if_neg U]at J;omega;have:=lG d y a6;subst this;have a9:=(VH (h:=h) (hc:=L) d y a4 (lt M)).2.2.1;refine⟨?_,a9,λ_ _ _ _=>rfl⟩;cases e2 with
 |brow o=>simp only[EU.ren,EU.brow.injEq]at G;rw[M,lG d y G]
 |_=>simp[EU.ren]at G
end
def gP(env:Env)(c:Call)(first caps:List AV):List AV:=first++c.args.toList.map (BA env)++caps
def fI(P:Program)(s f:Nat):Option (Nat×TypeId×Nat):=
 match P.underlying s with
 |some (.struct fs)=>
  match fs[f]? with
  |some fd=>
   match tI P fd.type with
   |some (_,n)=>some (fd.offset,fd.type,n)
   |none=>none
  |none=>none
 |_=>none
def eI(P:Program)(t:TypeId):Option (Option Nat×TypeId×Nat):=
 match P.underlying t with
 |some (.array len e)=>(tI P e).map λi=>(some len,e,i.2)
 |some (.slice e)=>(tI P e).map λi=>(none,e,i.2)
 |_=>none
inductive Kd where
 |bool|int (k:IntKind)|str|bytes|other
 deriving DecidableEq
def kd(P:Program)(t:TypeId):Kd:=
 match P.underlying t with
 |some .bool=>.bool
 |some (.int k)=>.int k
 |some .string=>.str
 |some (.slice e)=>match P.underlying e with|some (.int .u8)=>.bytes|_=>.other
 |_=>.other
def Q8(H:As)(id g:Nat):Bool:=
 match H[id]? with
 |some (.live g' _)=>g'==g
 |_=>false
def Iq.cur{w:World}(g:Iq X h H w)(a:Q8 H N s=true):h.gen N=s:=by unfold Q8 at a;split at a;rename_i c b d;have:=(g.live N c b d).1;simp at a;exact this.trans a;cases a
def shift(H:As)(k:Nat):AV->Option AV
 | .ptr id g off=>if Q8 H id g then some (.ptr id g (off+k))else none
 | .vptr cs=>if k<=cs.length then some (.vptr (cs.drop k))else none
 |_=>none
theorem oG(s:Iq c h H w)(r:Bf (cx c h H w) e b)(v:shift H N e=some n):
  ∃B a,b= .pointer (some ⟨B,a,none⟩)/\Bf (cx c h H w) n (.pointer (some ((⟨B,a,none⟩:Addr).add N))):=by
 cases r with
 | @ptr id g a b k o t l=>simp only[shift]at v;split at v;rename_i d;simp at v;subst v;obtain⟨B,i,rfl⟩:=l (s.cur d);refine⟨B,a,rfl,.ptr k o rfl λ_=>⟨B,i,by rw[Ng]⟩⟩;cases v
 | @vptr q B a f X m l x=>simp only[shift]at v;split at v;simp at v;subst v;refine⟨B,a,rfl,?_⟩;rw[Ng];refine .vptr (λj=>f (N+j)) X m (λj e p=>?_) λj e p=>?_;grind;grind;cases v
 |_=>grind[shift]
def TH(P:Program)(H:As)(s f:Nat)(v:AV):Option AV:=
 match fI P s f with
 |some (off,_,n)=>if n=0 then none else shift H off v
 |none=>none
def ms(sim:Iq c h H w)(r:Bf (cx c h H w) e b)(d:TH P H s N e=some n):
  ∃i,(Instr.fieldAt s b N).run P w= .ok i w/\Bf (cx c h H w) n i:=by
 unfold TH at d;split at d;rename_i k t X a;split at d;cases d;rename_i hn;obtain⟨B,o,rfl,hr⟩:=oG sim r d;unfold fI at a;split at a;rename_i p g;split at a;rename_i l f;split at a;rename_i v m j;obtain⟨rfl,rfl,rfl⟩:=a;refine⟨_,?_,hr⟩;simp[Instr.fieldAt,run_underlying g,f,Instr.sureAddr,fieldPlace,KD j,hn];cases a;cases a;cases a;cases d
def TL(P:Program)(H:As)(t:TypeId)(v:AV)(i:AV):Option AV:=
 match eI P t,i with
 |some (some len,_,sz),.int _ i=>if 0<=i/\i<len then shift H (i.toNat*sz) v else none
 |some (none,_,sz),.int _ i=>
  match v with
  | .vs sz' rows=>if 0<=i/\sz=sz' then(rows[i.toNat]?).map λe=>.vptr e.cells else none
  | .sl id g sz' off len=>if 0<=i/\i<len/\sz=sz'/\Q8 H id g=true then some (.ptr id g (off+i.toNat*sz))else none
  |_=>none
 |_,_=>none
theorem mz(sim:Iq c h H w)(r:Bf (cx c h H w) e b)(T:Bf (cx c h H w) n C)
  (l:TL P H a e n=some F): ∃O,(Instr.indexAt a b C).run P w= .ok O w/\Bf (cx c h H w) F O:=by
 unfold TL at l;split at l;rename_i len u sz k v Q;cases T;split at l;rename_i A;obtain⟨B,o,rfl,hr⟩:=oG sim r l;unfold eI at Q;split at Q;rename_i X y d;cases m:tI P y with
 |none=>rw[m]at Q;cases Q
 |some p=>rw[m]at Q;simp only[Be,Ai,EV]at Q;obtain⟨rfl,rfl,rfl⟩:=Q;refine⟨_,?_,hr⟩;simp[Instr.indexAt,asIntOf,run_underlying d,Instr.sureAddr,A,KD m]
 rename_i y d;cases m:tI P y<;>grind;cases Q;cases l;rename_i u sz k v Q;cases T;have d: ∃n,P.underlying a=some (.slice u)/\tI P u=some n/\n.2=sz:=by
  unfold eI at Q;split at Q;rename_i X y d;cases m:tI P y with
  |none=>rw[m]at Q;cases Q
  |some p=>rw[m]at Q;simp at Q
  rename_i y d;cases m:tI P y with
  |none=>rw[m]at Q;cases Q
  |some p=>rw[m]at Q;simp only[Be,Ai,EV]at Q;obtain⟨_,rfl,rfl⟩:=Q;exact⟨p,d,m,rfl⟩
  cases Q
 obtain⟨p,d,m,rfl⟩:=d;cases r with
 | @vs N q t cap f i Y S W Z=>
  simp only at l;split at l;rename_i A;obtain⟨G,rfl⟩:=A;cases x:q[v.toNat]? with
  |none=>rw[x]at l;cases l
  |some R=>
   rw[x]at l;simp only[Be,Ai]at l;subst l;have s:v.toNat<q.length:=by rcases Ap v.toNat q.length with I|I;exact I;rw[Cs I]at x;cases x
   obtain⟨B,z,rfl,V,U,J⟩:=W (by intro u;rw[u]at s;simp at s);refine⟨.pointer (some ⟨B,z+v.toNat*p.2,none⟩),?_,.vptr (λj=>f v.toNat j) V U (λj e M=>?_) λj e M=>Z _ R _ e x M⟩;have E:v<q.length:=by omega
   simp[Instr.indexAt,asIntOf,run_underlying d,G,E,KD m,Ng];have:=J _ R j e x M;rw[Zq];exact this
  cases l
 | @sl id g N z len b K x h1 J=>simp only at l;split at l;rename_i A;obtain⟨G,s,rfl,D⟩:=A;simp only[Ai]at l;subst l;rcases J (sim.cur D)with⟨_,hl,_,_⟩|⟨B,cap,L,i,_,rfl⟩;omega;refine⟨.pointer (some ⟨B,z+v.toNat*p.2,none⟩),?_,.ptr K x rfl λ_=>⟨B,L,rfl⟩⟩;simp[Instr.indexAt,asIntOf,run_underlying d,G,s,KD m,Ng];cases l
 |_=>cases l
 cases l
def mP(P:Program)(t:TypeId)(cs:List AV)(off:Nat):Option AV:=
 match tI P t with
 |some (true,n)=>if off+n<=cs.length then some (.agg ((cs.drop off).take n))else none
 |some (false,_)=>cs[off]?
 |none=>none
theorem qj{P:Program}{w:World}(l:i.size=d.length)(o: ∀(j:Nat) (c:Value),i[j]? =some c→c.oneCell'=true)
  (m: ∀(j:Nat) (v:AV) (c:Value),d[j]? =some v->i[j]? =some c->Bf f v c) (t:mP P a d N=some e): ∃c,(part a i N).run P w= .ok c w/\Bf f e c:=by
 unfold mP at t;split at t;rename_i n x;split at t;rename_i b;simp at t;subst t;refine⟨.agg (i.extract N (N+n)),by simp[part,U2 x,KD x],.agg (by simp;omega) (λj c h=>?_) λj v c h g=>?_⟩;grind[Array.getElem?_extract];grind;cases t;rename_i n x;have k:N<d.length:=by grind
 have g:i[N]? =some (i[N]'(by omega)):=PA (by omega);exact⟨_,by simp[part,U2 x,g],m N e _ t g⟩;cases t
def lS(P:Program)(s f:Nat)(v:AV):Option AV:=
 match fI P s f,v with
 |some (off,t,_),.agg cs=>mP P t cs off
 |_,_=>none
def um(r:Bf f e b)(d:lS P s N e=some n): ∃u,(Instr.field s b N).run P w= .ok u w/\Bf f n u:=by
 unfold lS at d;split at d;rename_i o t x i a;cases r with
 | @agg i j g k m=>obtain⟨u,l,hr⟩:=qj (P:=P) (w:=w) g k m d;unfold fI at a;split at a;rename_i q h;split at a;rename_i p v;split at a;simp at a;obtain⟨rfl,rfl,rfl⟩:=a;exact⟨u,by simp[Instr.field,run_underlying h,v,asAgg,l],hr⟩;cases a;cases a;cases a
 cases d
def dV(P:Program)(t:TypeId)(v i:AV):Option AV:=
 match v,i with
 | .agg cs,.int _ i=>
  match eI P t with
  |some (some len,e,sz)=>if 0<=i/\i<len then mP P e cs (i.toNat*sz)else none
  |_=>none
 | .str s,.int _ i=>if kd P t= .str/\0<=i then(s[i.toNat]?).map λb=>.int .u8 b.toNat else none
 |_,_=>none
theorem mA{P:Program}(h:kd P a= .str):P.underlying a=some .string:=by unfold kd at h;grind
theorem AAq(h:kd P a= .int z):P.underlying a=some (.int z):=by unfold kd at h;grind
theorem ut(r:Bf f e b)(B:Bf f n C)(v:dV P a e n=some F): ∃x,(Instr.index a b C).run P w= .ok x w/\Bf f F x:=by
 unfold dV at v;split at v;rename_i u k i;cases B;split at v;rename_i len c sz d;split at v;rename_i g;cases r with
 | @agg u D m t J=>
  obtain⟨x,G,hr⟩:=qj (P:=P) (w:=w) m t J v;unfold eI at d;split at d;rename_i A E o;cases z:tI P E with
  |none=>grind
  |some p=>rw[z]at d;simp only[Be,Ai,EV]at d;obtain⟨rfl,rfl,rfl⟩:=d;exact⟨x,by simp[Instr.index,asIntOf,run_underlying o,g,KD z,G],hr⟩
  simp_all;cases d
 cases v;cases v;rename_i s k i;cases B;cases r with
 | @str s h I=>
  split at v;rename_i g;subst I;cases y:h.data.toList[i.toNat]? with
  |none=>grind
  |some q=>
   rw[y]at v;simp only[Be,Ai]at v;subst v;have j:h[i.toNat]? =some q:=by
    obtain⟨H,d⟩:=TB.1 y;have l:i.toNat<h.size:=by simpa using H
    rw[getElem?_pos h i.toNat l];exact congrArg some d
   exact⟨.int .u8 q.toNat,by simp[Instr.index,asIntOf,run_underlying (mA g.1),g.2,j],.int _ _⟩
  cases v
 cases v
def vT(P:Program)(g:TypeId->Option (List Kd)):List Field->Nat->Option (List Kd)
 |[],_=>some []
 |f::r,off=>
  if f.offset=off/\(f.name== "_")=false then
   match g f.type with
   |some ks=>if ks.length=P.cellsOf f.type then(vT P g r (off+ks.length)).map (ks++ ·)else none
   |none=>none
  else none
def oT(P:Program):Nat->TypeId->Option (List Kd)
 |0,_=>none
 |d+1,t=>
  match P.underlying t with
  |some .bool=>some [.bool]
  |some (.int k)=>some [.int k]
  |some .string=>some [.str]
  |some (.array n e)=>
   match oT P d e with
   |some ks=>if ks.length=P.cellsOf e/\(P.info? e).isSome then some (List.replicate n ks).flatten else none
   |none=>none
  |some (.struct fs)=>if P.stoodInHeld t then none else vT P (oT P d) fs.toList 0
  |_=>none
def sJ:Kd->AV->Bool
 | .bool,.bool _=>true
 | .int k,.int k' _=>decide (k=k')
 | .str,.str _=>true
 |_,_=>false
def typed:List Kd->List AV->Bool
 |[],[]=>true
 |k::ks,v::vs=>sJ k v&&typed ks vs
 |_,_=>false
def sEq:AV->AV->Bool
 | .bool a,.bool b=>a==b
 | .int _ a,.int _ b=>a==b
 | .str a,.str b=>a==b
 |_,_=>false
def mr:List AV->List AV->Bool
 |[],[]=>true
 |a::as,b::bs=>sEq a b&&mr as bs
 |_,_=>false
variable {y:List Kd}
def Up{b:List Kd}: ∀{a:List AV},typed (y++b) a=true->typed y (a.take y.length)=true/\typed b (a.drop y.length)=true:=by
 induction y with
 |nil=>intro a h;exact⟨by simp[typed],by simpa using h⟩
 |cons k f e=>
  intro a h;cases a with
  |nil=>simp[typed]at h
  |cons v a=>simp only[Do,typed,BO]at h;obtain⟨c,d⟩:=e h.2;exact⟨by simp[typed,h.1,c],by simpa using d⟩
def Gb: ∀{a:List Kd} {b:List AV},typed a b=true->b.length=a.length
 |[],[],_=>rfl
 |_::_,_::_,h=>by simp only[typed,BO]at h;simp[Gb h.2]
 |[],_::_,h=>by simp[typed]at h
 |_::_,[],h=>by simp[typed]at h
def im: ∀(n:Nat) (c bs:List AV),c.length=bs.length->mr c bs=(mr (c.take n) (bs.take n)&&mr (c.drop n) (bs.drop n))
 |0,c,bs,_=>by simp[mr]
 |n+1,[],[],_=>by simp[mr]
 |n+1,a::c,b::bs,h=>by simp only[BV,Nat.add_right_cancel_iff]at h;simp only[mr,fJ,iM,im n c bs h,Bool.and_assoc]
 |n+1,[],_::_,h=>by simp at h
 |n+1,_::_,[],h=>by simp at h
def Over(P:Program)(x:Cx)(t:TypeId)(as:List AV)(a:Value):Prop:=
 ∃(b:Bool) (n:Nat) (cs:List Value),tI P t=some (b,n)/\as.length=n/\fC x as cs/\(if b then a= .agg cs.toArray else cs=[a])
def EqF(P:Program)(d:Nat)(t:TypeId)(ks:List Kd):Prop:=
 ∀(w:World) (x:Cx) (a b:Value) (as bs:List AV),Over P x t as a->Over P x t bs b->typed ks as=true->typed ks bs=true->(Op.equalIn d t a b).run P w= .ok (mr as bs) w
def dz{P:Program}{x:List Value}{off n:Nat}{w:World}(hr:fC f d x)(t:tI P a=some (r,n))(m:r=false→n=1)(o:off+n≤d.length):
  ∃h,(part a x.toArray off).run P w= .ok h w/\Over P f a ((d.drop off).take n) h:=by
 have e:fC f ((d.drop off).take n) ((x.drop off).take n):=by refine⟨by simp[hr.1],λj v c g i=>?_⟩;rw[RH]at g i;split at g;rename_i k;rw[if_pos k]at i;rw[OU]at g i;exact hr.2 _ v c g i;cases g
 cases r with
 |true=>refine⟨.agg (x.toArray.extract off (off+n)),by simp[part,U2 t,KD t],true,n,(x.drop off).take n,t,by simp;omega,e,?_⟩;simp only[if_true,Value.agg.injEq];apply Array.toList_inj.1;simp only[Array.toList_extract,nG,VD]
 |false=>
  obtain rfl:=m rfl;have l:off<x.length:=by rw[hr.1];omega
  refine⟨x[off],by simp[part,U2 t,l],false,1,(x.drop off).take 1,t,by simp;omega,e,?_⟩;rw[if_neg (by simp),YF l];rfl
def fw{d:Nat}(h:oT P d a=some y): ∃b,tI P a=some (b,P.cellsOf a)/\(b=false->y.length=1):=by
 cases d with
 |zero=>simp[oT]at h
 |succ d=>
  unfold oT at h;unfold tI Program.cellsOf;cases f:P.info? a with
  |none=>
   have t:P.underlying a=none:=by simp[Program.underlying,f]
   rw[t]at h;cases h
  |some i=>
   cases t:P.underlying a with
   |none=>rw[t]at h;cases h
   |some c=>rw[t]at h;refine⟨_,rfl,?_⟩;cases c<;>simp_all<;>(subst h;rfl)
def qx{P:Program}{d:Nat}{g:TypeId→Option (List Kd)}(C: ∀t i,g t=some i→EqF P d t i∧ ∃b,tI P t=some (b,P.cellsOf t)∧(b=false→i.length=1)){x:Cx}{w:World}{l bs:List AV}{H I:List Value}
  (A:fC x l H) (B:fC x bs I) (j:l.length=bs.length): ∀(m:List Field) (h:Nat) (i:List Kd),vT P g m h=some i->h<=l.length->typed i (l.drop h)=true->typed i (bs.drop h)=true->(Op.eqFields d H.toArray I.toArray m).run P w= .ok (mr (l.drop h) (bs.drop h)) w
 |[],h,i,hk,_,ta,tb=>by simp only[vT,Ai]at hk;subst hk;have J:=Gb ta;have K:=Gb tb;rw[EJ J,EJ K];simp[Op.eqFields,mr]
 |f::m,h,i,hk,ho,ta,tb=>by
  simp only[vT]at hk;split at hk;rename_i L;obtain⟨rfl,k⟩:=L;split at hk;rename_i k1 u;split at hk;rename_i o;cases hr:vT P g m (f.offset+k1.length)with
  |none=>rw[hr]at hk;cases hk
  |some N=>
   rw[hr]at hk;simp only[Be,Ai]at hk;subst hk;obtain⟨q,y⟩:=Up ta;obtain⟨r,z⟩:=Up tb;obtain⟨s,b,D,n⟩:=C _ _ u;have E:=Gb q;have O:=Gb r;have v:f.name≠ "_" :=by simpa using k
   obtain⟨a,Q,F⟩:=dz (P:=P) (w:=w) (off:=f.offset) A D (λe=>o▸n e) (by rw[<-o];simp at E;omega);obtain⟨c,R,G⟩:=dz (P:=P) (w:=w) (off:=f.offset) B D (λe=>o▸n e) (by rw[<-o];simp at O;omega);rw[<-o]at F G;have p:=s w x a c _ _ F G q r;have M:=qx C (w:=w) A B j m (f.offset+k1.length) N hr (by simp at E;omega) (by simpa[PZ]using y) (by simpa[PZ]using z);rw[im k1.length _ _ (by simp[j])];simp only[Op.eqFields,if_pos v,Sem.run_bind,Q,R,p,Result.andThen_ok];cases mr ((l.drop f.offset).take k1.length) ((bs.drop f.offset).take k1.length);simp;simp only[Ea,Iz,if_false,Bool.true_and,M,PZ]
  cases hk;cases hk;cases hk
def oB{P:Program}{d:Nat}{e:TypeId}{f:List Kd}(o:EqF P d e f){b:Bool}(s:tI P e=some (b,f.length))(j:b=false→f.length=1){x:Cx}{w:World}{h bs:List AV}{z A:List Value}
  (u:fC x h z) (v:fC x bs A) (g:h.length=bs.length): ∀(n i:Nat),i*f.length<=h.length->typed (List.replicate n f).flatten (h.drop (i*f.length))=true->typed (List.replicate n f).flatten (bs.drop (i*f.length))=true->(Op.eqItems d e f.length z.toArray A.toArray (List.range' i n)).run P w= .ok (mr (h.drop (i*f.length)) (bs.drop (i*f.length))) w
 |0,i,_,ta,tb=>by have B:=Gb ta;have C:=Gb tb;rw[EJ (l:=h.drop _) (by simpa using B),EJ (l:=bs.drop _) (by simpa using C)];simp[Op.eqItems,mr]
 |n+1,i,ho,ta,tb=>by
  rw[fF,iR]at ta tb;obtain⟨q,k⟩:=Up ta;obtain⟨r,m⟩:=Up tb;have y:=Gb q;have E:=Gb r;obtain⟨a,H,F⟩:=dz (P:=P) (w:=w) (off:=i*f.length) u s j (by simp at y;omega);obtain⟨c,I,G⟩:=dz (P:=P) (w:=w) (off:=i*f.length) v s j (by simp at E;omega);have p:=o w x a c _ _ F G q r;rw[PZ]at k m;have t:i*f.length+f.length=(i+1)*f.length:=by rw[Ge];omega
  rw[t]at k m;have D:=oB o s j (w:=w) u v g n (i+1) (by simp at y;omega) k m;rw[im f.length _ _ (by simp[g]),PZ,PZ,t];rw[List.range'_succ];simp only[Op.eqItems,Sem.run_bind,H,I,p,Result.andThen_ok];cases mr ((h.drop (i*f.length)).take f.length) ((bs.drop (i*f.length)).take f.length);simp;simp[D]
def oU{P:Program}(d:Nat): ∀(m:Nat) (t:TypeId) (y:List Kd),oT P m t=some y->EqF P (d+m) t y
 |0,_,_,h=>by simp[oT]at h
 |m+1,t,y,h=>by
  obtain⟨bt,T,_⟩:=fw h;intro w x a b F bs X Y o p;obtain⟨O,n1,xs,c,U,ra,j⟩:=X;obtain⟨Z,n2,ys,r,V,E,l⟩:=Y;rw[c]at r;simp only[Ai,EV]at r;obtain⟨rfl,rfl⟩:=r;have I:=Gb o;have J:=Gb p;have g: ∀q,P.underlying t=some q->O=(match q with| .struct _| .array _ _=>true|_=>false):=by intro q S;unfold tI at c;rw[S]at c;split at c;rename_i G;injection G with e;subst e;simp only[Ai,EV]at c;exact c.1.symm;cases c
  unfold oT at h;split at h;rename_i f;simp only[Ai]at h;subst h;have:=g _ f;simp only at this;subst this;simp only[Iz,if_false]at j l;subst j l;match F,I,bs,J with
  |[u],_,[v],_=>have C:=ra.2 0 u a rfl rfl;have D:=E.2 0 v b rfl rfl;simp only[typed,OT]at o p;cases u<;>simp[sJ]at o;cases v<;>simp[sJ]at p;cases C;cases D;rw[show d+(m+1)=(d+m)+1 from rfl,run_equalIn_bool' w (d+m) t _ _ f];simp[mr,sEq]
  rename_i k f;simp only[Ai]at h;subst h;have:=g _ f;simp only at this;subst this;simp only[Iz,if_false]at j l;subst j l;match F,I,bs,J with
  |[u],_,[v],_=>have C:=ra.2 0 u a rfl rfl;have D:=E.2 0 v b rfl rfl;simp only[typed,OT]at o p;cases u<;>simp[sJ]at o;cases v<;>simp[sJ]at p;cases C;cases D;subst o p;rw[show d+(m+1)=(d+m)+1 from rfl,run_equalIn_int w (d+m) t _ _ _ _ f];simp[mr,sEq]
  rename_i f;simp only[Ai]at h;subst h;have:=g _ f;simp only at this;subst this;simp only[Iz,if_false]at j l;subst j l;match F,I,bs,J with
  |[u],_,[v],_=>
   have C:=ra.2 0 u a rfl rfl;have D:=E.2 0 v b rfl rfl;simp only[typed,OT]at o p;cases u<;>simp[sJ]at o;cases v<;>simp[sJ]at p;cases C with
   |str s1 Q=>
    cases D with
    |str s2 R=>subst Q R;rw[show d+(m+1)=(d+m)+1 from rfl,run_equalIn_string w (d+m) t _ _ f];simp[mr,sEq,ByteArray.toList_eq]
  rename_i n e f;split at h;rename_i k1 A;split at h;rename_i H;simp only[Ai]at h;subst h;have:=g _ f;simp only at this;subst this;simp only[if_true]at j l;subst j l;obtain⟨N,s⟩:=Zs.1 H.2;obtain⟨b,L,B⟩:=fw A;rw[<-H.1]at L;have i:=oB (oU d m e k1 A) L B (w:=w) ra E (by omega) n 0 (by simp) (by simpa using o) (by simpa using p);rw[show d+(m+1)=(d+m)+1 from rfl,run_equalIn_array w (d+m) _ _ f s,<-H.1,List.range_eq_range'];simpa using i;cases h;cases h;rename_i K f;split at h;cases h;rename_i W;have:=g _ f;simp only at this;subst this;simp only[if_true]at j l;subst j l;have z:P.fieldsOf t=K:=by simp[Program.fieldsOf,f]
  have i:=qx (d:=d+m) (λt y M=>⟨oU d m t y M,fw M⟩) (w:=w) ra E (by omega) K.toList 0 y h (by simp) (by simpa using o) (by simpa using p);rw[show d+(m+1)=(d+m)+1 from rfl,run_equalIn_struct w (d+m) t _ _ (by rw[z];exact f) (by simpa using W),z];simpa using i;cases h
def fT(op:BinOp)(k:IntKind)(a b:Int):Option AV:=
 match op with
 | .add=>some (.int k (k.wrap (a+b)))
 | .sub=>some (.int k (k.wrap (a-b)))
 | .mul=>some (.int k (k.wrap (a*b)))
 | .quo=>if b=0 then none else some (.int k (k.wrap (a.tdiv b)))
 | .rem=>if b=0 then none else some (.int k (a.tmod b))
 | .and=>some (.int k (k.wrap (BitVec.ofInt k.bits a&&&BitVec.ofInt k.bits b).toNat))
 | .or=>some (.int k (k.wrap (BitVec.ofInt k.bits a|||BitVec.ofInt k.bits b).toNat))
 | .xor=>some (.int k (k.wrap (BitVec.ofInt k.bits a^^^BitVec.ofInt k.bits b).toNat))
 | .andNot=>some (.int k (k.wrap (BitVec.ofInt k.bits a&&& ~~~BitVec.ofInt k.bits b).toNat))
 | .eql=>some (.bool (a==b))
 | .neq=>some (.bool (a !=b))
 | .lss=>some (.bool (decide (a<b)))
 | .leq=>some (.bool (decide (a<=b)))
 | .gtr=>some (.bool (decide (a>b)))
 | .geq=>some (.bool (decide (a>=b)))
 | .shl| .shr=>none
def rW{d b:Int}(w:World)(h:fT D z d b=some e): ∃c,(binOp D a (.int z d) (.int z b)).run P w= .ok c w/\Bf f e c:=by
 cases D<;>simp only[fT]at h<;>(try split at h)<;>first
  |cases h;done
  |(simp at h;subst h;first
    |exact⟨_,by simp[binOp,Op.intArith,Op.intDiv,Op.intBits, *],.int _ _⟩
    |exact⟨_,by simp[binOp,Op.intCmp],.bool _⟩)
def dc(op:BinOp)(k:IntKind)(a b:Int):Option AV:=
 if b<0 then none else
 match op with
 | .shl=>some (.int k (k.wrap (a*2^min b.toNat k.bits)))
 | .shr=>some (.int k (a.fdiv (2^min b.toNat k.bits)))
 |_=>none
def wE(P:Program)(t:TypeId):Option (List Kd):=
 if P.eqGuardType P.depth t then none else
 match oT P 12 t with
 |some ks=>if tI P t=some (true,ks.length)then some ks else none
 |none=>none
def oO(op:BinOp)(a b:List UInt8):Option AV:=
 match op with
 | .add=>if a.length+b.length<=9223372036854775807 then some (.str (a++b))else none
 | .eql=>some (.bool (a==b))
 | .neq=>some (.bool (a !=b))
 | .lss=>some (.bool (Op.bytesLess a b))
 | .leq=>some (.bool (Op.bytesLess a b||a==b))
 | .gtr=>some (.bool (!(Op.bytesLess a b||a==b)))
 | .geq=>some (.bool (!Op.bytesLess a b))
 |_=>none
def pj(P:Program)(op:BinOp)(t:TypeId)(x y:AV):Option AV:=
 match x,y with
 | .int k a,.int k' b=>
  match op with
  | .shl| .shr=>dc op k a b
  |_=>if k=k' then fT op k a b else none
 | .bool a,.bool b=>
  match op with
  | .eql=>if kd P t= .bool then some (.bool (a==b))else none
  | .neq=>if kd P t= .bool then some (.bool (!(a==b)))else none
  |_=>none
 | .str a,.str b=>oO op a b
 | .agg as,.agg bs=>
  match wE P t with
  |some ks=>
   if typed ks as=true/\typed ks bs=true then
    match op with
    | .eql=>some (.bool (mr as bs))
    | .neq=>some (.bool (!mr as bs))
    |_=>none
   else none
  |none=>none
 |_,_=>none
theorem uB(h:kd P a= .bool):P.underlying a=some .bool:=by unfold kd at h;grind
def rF(t:ByteArray):t.toList=t.data.toList:=ByteArray.toList_eq t
def yO{y:Operand}(w:World)(ra:Bf f e b)(A:Bf f n C)(h:pj P D a e n=some F):
  ∃c,(do eqGuard D a m y b C;binOp D a b C:Sem Value).run P w= .ok c w/\Bf f F c:=by
 unfold pj at h;split at h;rename_i k u T U;cases ra;cases A;have x:(eqGuard D a m y (.int k u) (.int T U)).run P w= .ok () w:=by unfold eqGuard;cases D<;>simp
 simp only[Sem.run_bind,x,Result.andThen_ok];split at h;unfold dc at h;split at h;cases h;rename_i g;simp only[Ai]at h;subst h;exact⟨_,by simp[binOp,Op.shift,g],.int _ _⟩;unfold dc at h;split at h;cases h;rename_i g;simp only[Ai]at h;subst h;exact⟨_,by simp[binOp,Op.shift,g],.int _ _⟩;simp_all[rW];rename_i p q;cases ra;cases A;have x:(eqGuard D a m y (.bool p) (.bool q)).run P w= .ok () w:=by unfold eqGuard;cases D<;>simp
 simp only[Sem.run_bind,x,Result.andThen_ok];split at h;split at h;rename_i I;simp only[Ai]at h;subst h;exact⟨_,run_eql_bool w a p q (uB I),.bool _⟩;cases h;split at h;rename_i I;simp only[Ai]at h;subst h;refine⟨_,?_,.bool _⟩;simp only[binOp];simp[run_equal_bool w a p q (uB I)];cases h;cases h
 ·rename_i s1 s2;cases ra with
  |str s L=>
   cases A with
   |str z O=>
    have x:(eqGuard D a m y (.string s) (.string z)).run P w= .ok () w:=by unfold eqGuard;cases D<;>simp
    simp only[Sem.run_bind,x,Result.andThen_ok];subst L O;unfold oO at h;split at h;split at h;rename_i S;simp only[Ai]at h;subst h;have o: ¬(((s.size+z.size:Nat):Int)>IntKind.i64.max):=by
     have Z:s.data.toList.length=s.size:=by simp
     have e2:z.data.toList.length=z.size:=by simp
     have K:IntKind.i64.max=9223372036854775807:=by decide
     rw[K];omega
    exact⟨.string (s++z),by simp only[binOp];simp only[Op.stringOp,if_neg o];rfl,.str _ (by simp)⟩;cases h;all_goals first
     |cases h;done
     |(simp only[Ai]at h
       subst h;exact⟨_,by simp only[binOp];simp[Op.stringOp,rF,bne],.bool _⟩)
 rename_i B bs;cases ra with
 | @agg B b V M Y=>
  cases A with
  | @agg bs C W N vb=>
   split at h;rename_i ks d;unfold wE at d;split at d;cases d;rename_i G;split at d;rename_i J E;split at d;rename_i r;simp only[Ai]at d;subst d;split at h;rename_i i;have t:=oU (P:=P) 9988 12 a J E;have Q:=Gb i.1;have R:=Gb i.2;have l:(Op.equalIn 10000 a (.agg b) (.agg C)).run P w= .ok (mr B bs) w:=
    t w f (.agg b) (.agg C) B bs ⟨true,_,b.toList,r,by omega,⟨by simpa using V,λj v c H X=>Y j v c H (by simpa using X)⟩,by simp⟩
     ⟨true,_,C.toList,r,by omega,⟨by simpa using W,λj v c H X=>vb j v c H (by simpa using X)⟩,by simp⟩ i.1 i.2
   have x:(eqGuard D a m y (.agg b) (.agg C)).run P w= .ok () w:=run_eqGuard_agg w D a m y b C (by simpa using G);simp only[Sem.run_bind,x,Result.andThen_ok];split at h;simp only[Ai]at h;subst h;exact⟨_,by rw[run_eql_struct,l];rfl,.bool _⟩;simp only[Ai]at h;subst h;exact⟨_,by rw[run_neq_struct,l];rfl,.bool _⟩;cases h;cases h;cases d;cases d;cases h
 cases h
def unV(op:UnOp)(v:AV):Option AV:=
 match op,v with
 | .neg,.int k n=>some (.int k (k.wrap (0-n)))
 | .xor,.int k n=>some (.int k (k.wrap (BitVec.ofInt k.bits (if k.signed then-1 else k.max)^^^BitVec.ofInt k.bits n).toNat))
 | .not,.bool b=>some (.bool !b)
 |_,_=>none
def ABM{v:UnOp}(w:World)(r:Bf f e b)(h:unV v e=some n): ∃a,(Op.unary v b).run P w= .ok a w/\Bf f n a:=by unfold unV at h;split at h;cases r;simp at h;subst h;exact⟨_,by simp[Op.unary,Op.intArith],.int _ _⟩;cases r;simp at h;subst h;exact⟨_,by simp only[Op.unary];rfl,.int _ _⟩;cases r;simp at h;subst h;exact⟨_,by simp[Op.unary],.bool _⟩;cases h
def rowsOf(H:As):AV->Option (List AV)
 | .vs sz rows=>if sz=1 then some (rows.flatMap AV.cells)else none
 | .sl id g sz off len=>
  match H[id]? with
  |some (.live g' cs)=>if g=g'/\sz=1/\off+len<=cs.length then some ((cs.drop off).take len)else none
  |_=>none
 | .nils=>some []
 |_=>none
def zm:List AV->Option (List UInt8)
 |[]=>some []
 | .int .u8 n::r=>(zm r).map (UInt8.ofNat n.toNat:: ·)
 |_=>none
def UL(P:Program)(H:As)(src dst:TypeId)(v:AV):Option AV:=
 match kd P dst,v with
 | .int k,.int _ n=>if(P.underlying src).isSome then some (.int k (k.wrap n))else none
 | .str,.str s=>if(P.underlying src).isSome then some (.str s)else none
 | .str,v=>
  if kd P src= .bytes then
   match rowsOf H v with
   |some cs=>(zm cs).map AV.str
   |none=>none
  else none
 |_,_=>none
theorem jW{sz:Nat}: ∀{rows:List AV},(∀(j:Nat) (e:AV),rows[j]? =some e->e.cells.length=sz)->(rows.flatMap AV.cells).length=rows.length*sz
 |[],_=>by simp
 |e::r,h=>by have b:=h 0 e rfl;have d:=jW (rows:=r) λj a c=>h (j+1) a (by grind);grind
theorem flat_get{sz:Nat}(c:0<sz): ∀{rows:List AV},(∀(j:Nat) (e:AV),rows[j]? =some e→e.cells.length=sz)→ ∀(i:Nat) (v:AV),(rows.flatMap AV.cells)[i]? =some v→
  ∃e,rows[i/sz]? =some e/\e.cells[i%sz]? =some v
 |e::r,h,i,v,hi=>by
  have d:=h 0 e rfl;simp at hi;rcases Ap i sz with f|a;grind[Nat.div_eq_of_lt,Nat.mod_eq_of_lt];rw[Cr (by omega),d]at hi;obtain⟨b,l,m⟩:=flat_get c (rows:=r) (λj b n=>h (j+1) b (by grind)) (i-sz) v hi;have g:i/sz=(i-sz)/sz+1:=by rw[<-Nat.add_div_right _ c,Nat.sub_add_cancel a]
  have k:i%sz=(i-sz)%sz:=by rw[<-Nat.add_mod_right (i-sz),Nat.sub_add_cancel a]
  grind
def sy{P:Program}(s:Iq c h H w)(r:Bf (cx c h H w) e b)(hr:rowsOf H e=some d):
  ∃a n cap V,b= .slice a n cap/\n=d.length/\fC (cx c h H w) d V/\((a=none/\n=0)\/ ∃C,a=some C/\(loadCells C n).run P w= .ok V.toArray w):=by
 cases r with
 |nils=>simp only[rowsOf,Ai]at hr;subst hr;exact⟨none,0,0,[],rfl,rfl,⟨rfl,λ_ _ _ h=>by cases h⟩,.inl ⟨rfl,rfl⟩⟩
 | @vs sz K a cap f D ax m Z hv=>
  simp only[rowsOf]at hr;split at hr;rename_i R;subst R;simp only[Ai]at hr;subst hr;have l:=jW m;rw[Nat.mul_one]at l;cases K with
  |nil=>
   cases a with
   |none=>exact⟨none,0,cap,[],rfl,rfl,⟨rfl,λ_ _ _ h=>by cases h⟩,.inl ⟨rfl,rfl⟩⟩
   |some C=>exact⟨some C,0,cap,[],rfl,rfl,⟨rfl,λ_ _ _ h=>by cases h⟩,.inr ⟨C,rfl,by simp[loadCells,loadCellsFrom]⟩⟩
  |cons Y I=>
   obtain⟨B,i,rfl,hO,hB,L⟩:=Z (by simp);generalize Y::I=K at*;refine⟨_,K.length,cap,(List.range K.length).map λj=>f j 0,rfl,l.symm,⟨by simp[l],λj e X A o=>?_⟩,.inr ⟨_,rfl,?_⟩⟩;obtain⟨v,p,E⟩:=flat_get (by omega) m j e A;rw[Nat.div_one]at p;rw[Nat.mod_one]at E;have t:j<K.length:=by rcases Ap j K.length with y|y;exact y;rw[Cs y]at p;cases p
   rw[CL,TC t]at o;simp only[Be,Ai]at o;subst o;exact hv j v 0 e p E;have:=run_loadCells (P:=P) w ⟨B,i,none⟩ K.length (λj=>f j 0) λj A=>by have J:K[j]? =some (K[j]):=Az A;have hl:=m j _ J;have M:(K[j]).cells[0]? =some ((K[j]).cells[0]'(by omega)):=Az (by omega);rw[Ng];have:=(L j _ 0 _ J M).1;simpa[cx]using this
   exact this
  cases hr
 | @sl id g sz i len b ap hg R L=>
  simp only[rowsOf]at hr;split at hr;rename_i g' x J;split at hr;rename_i z;obtain⟨rfl,rfl,ar⟩:=z;simp only[Ai]at hr;subst hr;obtain⟨G,F⟩:=s.live id g x J;rcases L G with⟨q,rfl,rfl,rfl⟩|⟨B,cap,q,D,N,rfl⟩;exact⟨none,0,0,[],rfl,by simp,⟨by simp,λ_ _ _ _ h=>by cases h⟩,.inl ⟨rfl,rfl⟩⟩;rcases F with⟨hn,_⟩|⟨Q,W,T,fz,f,u,hb,S,U,al,k⟩;rw[hn]at q;cases q;have:Q=B:=by rw[q]at u;injection u with v;exact v.symm
  subst this;refine⟨_,len,cap,(List.range len).map λj=>f (i+j),rfl,by simp;omega,⟨by simp;omega,λj e X A o=>?_⟩,.inr ⟨_,rfl,?_⟩⟩;have t:j<len:=by rcases Ap j len with y|y;exact y;rw[Cs (by simpa using y)]at o;cases o
  rw[RH,if_pos t,OU]at A;rw[CL,TC t]at o;simp only[Be,Ai]at o;subst o;exact(k _ e A).2.2;exact run_loadCells (P:=P) w ⟨Q,i,none⟩ len (λj=>f (i+j)) λj A=>by have O:x[i+j]? =some (x[i+j]'(by omega)):=Az (by omega);rw[Ng,OV (w:=w) hb];exact(k _ _ O).1
  cases hr;cases hr
 |_=>simp only[rowsOf]at hr;cases hr
theorem rG{x:Cx}: ∀{d:List AV} {b:List Value} {bs:List UInt8},fC x d b->zm d=some bs-> ∃e:List Int,b=e.map (Value.int .u8)/\bs=e.map λn=>UInt8.ofNat n.toNat
 |[],b,bs,hr,hb=>by simp only[zm]at hb;rw[EJ hr.1];simp_all
 |v::d,b,bs,hr,hb=>by
  match b,hr with
  |u::b,hr=>
   have h:=hr.2 0 v u rfl rfl;have l:fC x d b:=⟨by have:=hr.1;simpa using this,λj a c p o=>hr.2 (j+1) a c (by grind) (by grind)⟩
   unfold zm at hb;split at hb<;>rename_i f<;>(try cases f)<;>try (cases hb;done)
   cases k:zm d with
   |none=>grind
   |some g=>obtain⟨e,i,m⟩:=rG l k;cases h;exact⟨_::e,by rw[i];rfl,by grind⟩
def sF(a:List Int): ∀s:ByteArray,(a.foldl (λr n=>r.push (UInt8.ofNat n.toNat)) s).data.toList=s.data.toList++a.map λn=>UInt8.ofNat n.toNat:=by induction a<;>simp_all
theorem wj{P:Program}(h:kd P a= .bytes): ∃e,P.underlying a=some (.slice e)/\P.underlying e=some (.int .u8):=by unfold kd at h;grind
theorem wK{l:TypeId}(s:Iq c h H w)(r:Bf (cx c h H w) e b)(u:UL P H a l e=some n):
  ∃y,(convert a l b).run P w= .ok y w/\Bf (cx c h H w) n y:=by
 unfold UL at u;split at u;rename_i k I o j;split at u;rename_i i;obtain⟨C,i⟩:=Zs.1 i;simp only[Ai]at u;subst u;cases r;exact⟨_,by simp[convert,run_underlying i,run_underlying (AAq j),Conv.intToInt],.int _ _⟩;cases u;rename_i J j;split at u;rename_i i;obtain⟨C,i⟩:=Zs.1 i;simp only[Ai]at u;subst u;cases r with
 |str t F=>exact⟨_,by simp[convert,run_underlying i,run_underlying (mA j)],.str _ F⟩
 cases u;rename_i L j _;split at u;rename_i D;split at u;rename_i B p;cases q:zm B with
 |none=>rw[q]at u;cases u
 |some bs=>
  rw[q]at u;simp only[Be,Ai]at u;subst u;obtain⟨v,m,z⟩:=wj D;obtain⟨X,o,cap,K,rfl,hn,d,f⟩:=sy (P:=P) s r p;obtain⟨x,rfl,rfl⟩:=rG d q;rcases f with⟨rfl,E⟩|⟨A,rfl,g⟩;have:x=[]:=by have G:=d.1;grind[List.length_map,List.eq_nil_of_length_eq_zero]
  subst this;exact⟨.string .empty,by simp[convert,run_underlying m,run_underlying (mA j),run_underlying z,Conv.bytesToString],.str _ rfl⟩;refine⟨_,?_,.str _ (sF x ByteArray.empty)⟩;simp only[convert,Sem.run_bind,run_underlying m,run_underlying (mA j),run_underlying z,Result.andThen_ok];exact run_bytesToString w A o cap x (by simpa using g)
 cases u;cases u;cases u
def mD(P:Program)(H:As)(t:TypeId)(v:AV):Option AV:=
 match P.underlying t,v with
 |some .string,.str s=>some (.int .i64 s.length)
 |some (.array n _),_=>some (.int .i64 n)
 |some (.slice _),.vs _ rows=>some (.int .i64 rows.length)
 |some (.slice _),.sl _ _ _ _ len=>some (.int .i64 len)
 |some (.slice _),.nils=>some (.int .i64 0)
 |_,_=>none
def zA{P:Program}{w:World}{t ty:TypeId}(s:Iq c h H w)(r:Bf (cx c h H w) e b)(u:mD P H t e=some n):
  ∃f,(Builtin.len_ #[t] ty #[b]).run P w= .ok f w/\Bf (cx c h H w) n f:=by
 unfold mD at u;split at u;rename_i p d;simp only[Ai]at u;subst u;cases r with
 |str j m=>
  refine⟨.int .i64 j.size,by simp[Builtin.len_,run_underlying d,goInt],?_⟩;have:p.length=j.size:=by rw[<-m];simp
  rw[this];exact .int _ _
 rename_i X v d;simp only[Ai]at u;subst u;exact⟨.int .i64 X,by simp[Builtin.len_,run_underlying d,goInt],.int _ _⟩;rename_i sz i d;simp only[Ai]at u;subst u;cases r;exact⟨_,by simp[Builtin.len_,run_underlying d,goInt],.int _ _⟩;rename_i id g sz o len d;simp only[Ai]at u;subst u;cases r with
 |sl l x k q=>obtain⟨a,cap,rfl⟩:=k;exact⟨_,by simp[Builtin.len_,run_underlying d,goInt],.int _ _⟩
 rename_i d;simp only[Ai]at u;subst u;cases r;exact⟨_,by simp[Builtin.len_,run_underlying d,goInt],.int _ _⟩;cases u
def mmV(mx:Bool):List AV->Option AV
 |[.int k a,.int _ b]=>some (.int k (if mx then(if b>a then b else a)else(if b<a then b else a)))
 |_=>none
def w7{P:Program}{w:World}{mx:Bool}{ts:Array TypeId}{ty:TypeId}(g:Bf f n b)(h:Bf f e C)(a:mmV mx [n,e]=some F):
  ∃x,((if mx then Builtin.max_ ts ty #[b,C]else Builtin.min_ ts ty #[b,C]):Sem Value).run P w= .ok x w/\Bf f F x:=by
 cases n<;>try (simp[mmV]at a;done)
 cases e<;>try (simp[mmV]at a;done)
 cases g;cases h;simp only[mmV,Ai]at a;subst a;cases mx;exact⟨_,by simp[Builtin.min_,Builtin.min2],.int _ _⟩;exact⟨_,by simp[Builtin.max_,Builtin.max2],.int _ _⟩
def mm3:AV->AV->AV->Option AV
 | .int k a,.int _ b,.int _ c=>some (.int k (if c<(if b<a then b else a)then c else(if b<a then b else a)))
 |_,_,_=>none
def zF{P:Program}{w:World}{ts:Array TypeId}{ty:TypeId}{u:AV}{x:Value}(i:Bf f e b)(j:Bf f n C)(k:Bf f F x)(a:mm3 e n F=some u):
  ∃g,(Builtin.min_ ts ty #[b,C,x]).run P w= .ok g w/\Bf f u g:=by
 unfold mm3 at a;split at a;cases i;cases j;cases k;simp at a;subst a;exact⟨_,by simp[Builtin.min_,Builtin.min2],.int _ _⟩;cases a
def mK:AV->Option Nat
 | .int _ i=>if 0<=i then some i.toNat else none
 |_=>none
def UR(d:Nat):Option AV->Option Nat
 |none=>some d
 |some v=>mK v
def dd(P:Program)(H:As)(t:TypeId)(v:AV)(lo hi mx:Option AV):Option AV:=
 match v with
 | .str s=>
  match UR 0 lo,UR s.length hi,mx with
  |some l,some h,none=>if kd P t= .str/\l<=h/\h<=s.length then some (.str ((s.drop l).take (h-l)))else none
  |_,_,_=>none
 | .vs sz rows=>
  match UR 0 lo,UR rows.length hi,UR rows.length mx,eI P t with
  |some l,some h,some m,some (none,_,sz')=>if sz=sz'/\l<=h/\h<=m/\m<=rows.length/\(mx.isSome=true->hi.isSome=true)then some (.vs sz ((rows.drop l).take (h-l)))else none
  |_,_,_,_=>none
 | .sl id g sz off len=>
  match UR 0 lo,UR len hi,UR len mx,eI P t with
  |some l,some h,some m,some (none,_,sz')=>
   if sz=sz'/\0<sz/\l<=h/\h<=m/\m<=len/\Q8 H id g=true/\(mx.isSome=true->hi.isSome=true)then
    if l=0 then some (.sl id g sz off h)else if l=h then some (.vs sz [])else some (.sl id g sz (off+l*sz) (h-l))
   else none
  |_,_,_,_=>none
 | .nils=>
  match UR 0 lo,UR 0 hi,UR 0 mx,eI P t with
  |some 0,some 0,some 0,some (none,_,_)=>if mx.isSome=true->hi.isSome=true then some .nils else none
  |_,_,_,_=>none
 |_=>none
theorem u7(r:Bf f e b)(h:mK e=some N): ∃k i,b= .int k i/\0<=i/\i.toNat=N:=by
 cases e<;>try (simp[mK]at h;done)
 cases r;grind[mK]
def NW{P:Program}{w:World}{code:BoundsCode}(r:Bf f e b)(h:mK e=some N)(x:N<=s):(Instr.sliceBound b s code).run P w= .ok N w:=by
 obtain⟨k,i,rfl,a,rfl⟩:=u7 r h;have:i<=s:=by omega
 simp[Instr.sliceBound,asIntOf,a,this]
def Vw{P:Program}{w:World}{isSlice:Bool}{len cap l h m:Nat}{k j mx:Option AV}{e b cmx:Option Value}(i: ∀v,k=some v→ ∃c,e=some c∧Bf f v c)(g:k=none→e=none)
  (o: ∀v,j=some v-> ∃c,b=some c/\Bf f v c) (t:j=none->b=none) (z: ∀v,mx=some v-> ∃c,cmx=some c/\Bf f v c) (u:mx=none->cmx=none)
  (a:UR 0 k=some l) (q:UR len j=some h) (D:UR len mx=some m) (s:l<=h) (E:h<=m) (J:m<=len) (K:len<=cap) (F:mx.isSome=true->j.isSome=true):
  (Instr.sliceBounds isSlice len cap e b cmx).run P w= .ok (l,h,if mx.isSome then m else cap) w:=by
 unfold Instr.sliceBounds;cases mx with
 |none=>
  obtain rfl:=u rfl;cases j with
  |none=>
   obtain rfl:=t rfl;simp only[UR,Ai]at q;subst q;cases k with
   |none=>obtain rfl:=g rfl;simp only[UR,Ai]at a;simp[a]
   |some v=>obtain⟨d,rfl,r⟩:=i v rfl;have n:=λc=>NW (P:=P) (w:=w) (code:=c) r a s;simp[n]
  |some A=>
   obtain⟨B,rfl,y⟩:=o A rfl;have p:=λc=>NW (P:=P) (w:=w) (code:=c) y q (show h<=cap by omega);cases k with
   |none=>obtain rfl:=g rfl;simp only[UR,Ai]at a;simp[a,p]
   |some v=>obtain⟨d,rfl,r⟩:=i v rfl;have n:=λc=>NW (P:=P) (w:=w) (code:=c) r a s;simp[p,n]
 |some H=>
  obtain⟨I,rfl,G⟩:=z H rfl;have x:=F rfl;cases j with
  |none=>simp at x
  |some A=>
   obtain⟨B,rfl,y⟩:=o A rfl;have C:=λc=>NW (P:=P) (w:=w) (code:=c) G D (show m<=cap by omega);have p:=λc=>NW (P:=P) (w:=w) (code:=c) y q E;simp only[Sem.run_bind,C,p,Result.andThen_ok,Option.isSome_some,if_true];cases k with
   |none=>obtain rfl:=g rfl;simp only[UR,Ai]at a;simp[a]
   |some v=>obtain⟨d,rfl,r⟩:=i v rfl;have n:=λc=>NW (P:=P) (w:=w) (code:=c) r a s;simp[n]
theorem PC{P:Program}{e:TypeId}(t:eI P a=some (none,e,N)):P.underlying a=some (.slice e)/\ ∃b,tI P e=some (b,N):=by unfold eI at t;split at t;simp_all;rename_i c d;cases f:tI P c<;>grind;cases t
theorem vP{lo V q:Option AV}{N L A:Option Value}(s:Iq c h H w)(r:Bf (cx c h H w) e b)
  (K: ∀e,lo=some e-> ∃b,N=some b/\Bf (cx c h H w) e b) (G:lo=none->N=none)
  (J: ∀e,V=some e-> ∃b,L=some b/\Bf (cx c h H w) e b) (F:V=none->L=none) (R: ∀e,q=some e-> ∃b,A=some b/\Bf (cx c h H w) e b) (I:q=none->A=none)
  (d:dd P H a e lo V q=some n): ∃c',(Instr.sliceAt a b N L A).run P w= .ok c' w/\Bf (cx c h H w) n c':=by
 unfold dd at d;split at d;rename_i s';split at d;rename_i l p S O;split at d;rename_i o;obtain⟨hk,h1,U⟩:=o;simp only[Ai]at d;subst d;obtain rfl:=I rfl;cases r with
 |str t' ht=>
  have x:s'.length=t'.size:=by rw[<-ht];simp
  rw[x]at O U;have o:=Vw (P:=P) (w:=w) (isSlice:=false) (len:=t'.size) (cap:=t'.size) (mx:=none) (cmx:=none) K G J F (λ_ h=>by cases h) (λ_=>rfl) S O rfl h1 U (Ak _) (Ak _) (λh=>by cases h);refine⟨.string (t'.extract l p),?_,.str _ ?_⟩;simp only[Instr.sliceAt,Instr.slice,Sem.run_bind,run_underlying (mA hk),Result.andThen_ok,Option.isSome_none,Iz,if_false,o,Sem.run_pure];simp_all[nG]
 cases d;cases d;rename_i sz k;split at d;rename_i l p m v a2 S O Z he;split at d;rename_i o;obtain⟨rfl,h1,U,h3,h4⟩:=o;simp only[Ai]at d;subst d;obtain⟨z,u,y⟩:=PC he;cases r with
 | @vs sz k X cap f C Y ap ha d=>
  have o:=Vw (P:=P) (w:=w) (isSlice:=true) (len:=k.length) (cap:=cap) K G J F R I S O Z h1 U h3 C h4;have E: ∀{j:Nat} {v:AV},((k.drop l).take (p-l))[j]? =some v->k[l+j]? =some v:=by grind
  have x:((k.drop l).take (p-l)).length=p-l:=by simp;omega
  refine⟨.slice (if(if q.isSome then m else cap)=l then X else X.map (·.add (l*sz))) (p-l) ((if q.isSome then m else cap)-l),?_,?_⟩;simp only[Instr.sliceAt,Instr.slice,Sem.run_bind,run_underlying z,Result.andThen_ok,o,KD y,Sem.run_pure];have hM:p<=(if q.isSome then m else cap):=by split<;>omega
  generalize (if q.isSome then m else cap)=M at hM;have T:Bf (cx c h H w) (.vs sz ((k.drop l).take (p-l))) (.slice (if M=l then X else X.map (·.add (l*sz))) ((k.drop l).take (p-l)).length (M-l)):=?_;rw[x]at T;exact T;refine .vs (λj i=>f (l+j) i) (by rw[x];omega) Y (λj v hj=>ap _ v (E hj)) (λa5=>?_) λj v i e hj V=>d _ v i e (E hj) V;have a4:l<p:=by rcases Ap l p with h5|h5;exact h5;simp_all[EJ]
  obtain⟨B,t,rfl,hO,hB,hc⟩:=ha (by intro v;rw[v]at h3;simp at h3;omega);refine⟨B,t+l*sz,?_,hO,hB,λj v i e hj V=>?_⟩;grind[Ng];have:=hc _ v i e (E hj) V;rw[Ge]at this;rw[show t+l*sz+(j*sz+i)=t+(l*sz+j*sz+i)from by omega];exact this
 cases d;cases d;rename_i id g sz t len;split at d;rename_i l p m v a2 S O Z he;split at d;rename_i o;obtain⟨rfl,Y,h1,U,h3,ad,h4⟩:=o;obtain⟨z,u,y⟩:=PC he;cases r with
 | @sl id g sz t len b W hg a3 hc=>
  rcases hc (s.cur ad)with⟨Q,rfl,rfl,rfl⟩|⟨B,cap,Q,C,D,rfl⟩;have o:=Vw (P:=P) (w:=w) (isSlice:=true) (len:=0) (cap:=0) K G J F R I S O Z h1 U h3 (Ak _) h4;have a0:l=0:=by omega
  have ax:p=0:=by omega
  have a1:m=0:=by omega
  subst a0 ax a1;simp only[if_true,Ai]at d;subst d;refine⟨.slice none 0 0,?_,.sl W hg ⟨_,_,rfl⟩ λ_=>.inl ⟨Q,rfl,rfl,rfl⟩⟩;simp only[Instr.sliceAt,Instr.slice,Sem.run_bind,run_underlying z,Result.andThen_ok,o,KD y,Sem.run_pure];cases q<;>simp;have o:=Vw (P:=P) (w:=w) (isSlice:=true) (len:=len) (cap:=cap) K G J F R I S O Z h1 U h3 C h4
  have ar:(Instr.sliceAt a (.slice (some ⟨B,t,none⟩) len cap) N L A).run P w=
    .ok (.slice (if(if q.isSome then m else cap)=l then some ⟨B,t,none⟩else(some ⟨B,t,none⟩:Option Addr).map (·.add (l*sz))) (p-l) ((if q.isSome then m else cap)-l)) w:=by
   simp only[Instr.sliceAt,Instr.slice,Sem.run_bind,run_underlying z,Result.andThen_ok,o,KD y,Sem.run_pure]
  refine⟨_,ar,?_⟩;have hM:p<=(if q.isSome then m else cap)/\(if q.isSome then m else cap)<=cap:=by split<;>omega
  generalize (if q.isSome then m else cap)=M at hM;split at d;rename_i hl;subst hl;simp only[Ai]at d;subst d;refine .sl W hg ⟨_,_,rfl⟩ λ_=>.inr ⟨B,M,Q,hM.1,?_,?_⟩;exact Dp (Nat.add_le_add_left (O8 _ hM.2) _) D;simp[Ng];rename_i hl;split at d;rename_i al;subst al;simp only[Ai]at d;subst d;rw[IU];exact Bf.vs (rows:=[]) (λ_ _=>undef) (B7 _) Y (λ_ _ h=>by simp at h) (λh=>(h rfl).elim) λ_ _ _ _ h=>by simp at h
  rename_i al;simp only[Ai]at d;subst d;refine .sl W hg ⟨_,_,rfl⟩ λ_=>.inr ⟨B,M-l,Q,by omega,?_,?_⟩;rw[Zq,<-Ge];have:l+(M-l)=M:=by omega
  rw[this];exact Dp (Nat.add_le_add_left (O8 _ hM.2) _) D;rw[if_neg (by omega)];simp[Ng]
 cases d;cases d;split at d;rename_i v sz S O Z he;split at d;rename_i h4;simp only[Ai]at d;subst d;obtain⟨z,u,y⟩:=PC he;cases r;have o:=Vw (P:=P) (w:=w) (isSlice:=true) (len:=0) (cap:=0) K G J F R I S O Z (Ak _) (Ak _) (Ak _) (Ak _) h4;refine⟨.slice none 0 0,?_,.nils⟩;simp only[Instr.sliceAt,Instr.slice,Sem.run_bind,run_underlying z,Result.andThen_ok,o,KD y,Sem.run_pure];cases q<;>simp;cases d;cases d;cases d
def AV.solid:AV->Bool
 | .any=>false
 | .tup _=>false
 |_=>true
def Yx(h:b.oneCell'=true):b.cells= #[b]:=by cases b<;>first|rfl|(simp[Value.oneCell']at h;done)
theorem Ts(r:Bf f e b)(h:e.solid=true):Bf f (.agg e.cells) (.agg b.cells):=by
 have one: ∀{u:AV} {d:Value},Bf f u d->d.oneCell'=true->d.cells= #[d]->u.cells=[u]->Bf f (.agg u.cells) (.agg d.cells):=by intro u d A g q z;rw[q,z];refine .agg rfl (λj b s=>?_) λj e b s l=>?_;grind;grind
 cases r with
 |agg o g p=>exact .agg o g p
 |any b=>simp[AV.solid]at h
 |tup o p=>simp[AV.solid]at h
 |ptr i m g l=>exact one (.ptr i m g l) g (Yx g) rfl
 |sl i m g l=>obtain⟨a,cap,rfl⟩:=g;exact one (.sl i m ⟨a,cap,rfl⟩ l) rfl (Yx rfl) rfl
 |bool c=>exact one (.bool c) rfl rfl rfl
 |int k n=>exact one (.int k n) rfl rfl rfl
 |str t y=>exact one (.str t y) rfl rfl rfl
 |nilp=>exact one .nilp rfl rfl rfl
 |vptr v a c b d=>exact one (.vptr v a c b d) rfl rfl rfl
 |nils=>exact one .nils rfl rfl rfl
 |vs v a c b d x=>exact one (.vs v a c b d x) rfl rfl rfl
 |fn a c b d=>exact one (.fn a c b d) rfl rfl rfl
 |yf i g l=>exact one (.yf i g l) g (Yx g) rfl
 |mp i g l=>exact one (.mp i g l) g (Yx g) rfl
 |itp i w g l=>exact one (.itp i w g l) g (Yx g) rfl
 |nilf=>exact one .nilf rfl rfl rfl
def Tr(cs:List AV)(off:Nat)(vs:List AV):List AV:=cs.take off++vs++cs.drop (off+vs.length)
theorem db(h:N+J.length<=d.length):(Tr d N J).length=d.length:=by grind[Tr]
theorem mY(h:N+J.length<=d.length)(j:Nat):(Tr d N J)[j]? =if N<=j/\j<N+J.length then J[j-N]? else d[j]? :=by grind[Tr,List.getElem?_append_left]
inductive W2 where
 |arr (sz:Nat)
 |str (l:List (Nat×Nat))
def W2.at_:W2->Nat->Option (Nat×Nat)
 | .arr sz,i=>some (i*sz,sz)
 | .str l,i=>l[i]?
def Vz(P:Program)(t:TypeId):Option (List AV):=
 match (P.info? t).bind (·.zero)with
 |some z=>if z.cells.toList.all (·.oneCell')then some (z.cells.toList.map jr)else none
 |none=>none
def mS(P:Program)(t:TypeId):Option W2:=
 match P.underlying t with
 |some (.struct fs)=>(fs.toList.mapM λf=>(P.info? f.type).map λi=>(f.offset,i.size)).map W2.str
 |some (.array _ e)=>(P.info? e).map λi=>W2.arr i.size
 |_=>none
def ju(p:W2):List AV->List (Nat×AV)->Option (List AV)
 |cs,[]=>some cs
 |cs,(i,v)::r=>
  match p.at_ i with
  |some (off,size)=>if v.solid=true/\v.cells.length=size/\off+size<=cs.length then ju p (Tr cs off v.cells) r else none
  |none=>none
def lH(P:Program)(t:TypeId)(parts:List (Nat×AV)):Option AV:=
 match Vz P t,mS P t with
 |some z,some p=>(ju p z parts).map AV.agg
 |_,_=>none
theorem Zi(x:Cx)(h:Vz P a=some d): ∃i v,P.info? a=some i/\i.zero=some v/\Bf x (.agg d) (.agg v.cells):=by
 unfold Vz at h;cases t:P.info? a with
 |none=>grind
 |some i=>
  cases b:i.zero with
  |none=>grind
  |some v=>rw[t]at h;simp only[AI,b]at h;split at h;rename_i z;simp at h;subst h;refine⟨i,v,rfl,b,.agg (by simp) (λj c e=>?_) λj u c e f=>?_⟩;grind;grind[ij];cases h
theorem foldl_set(a:Nat): ∀(l:List Value) (k:Nat) (b:Array Value),a+k+l.length≤b.size→
  ((l.zipIdx k).foldl (λb (p:Value×Nat)=>b.setIfInBounds (a+p.2) p.1) b).size=b.size/\∀j,((l.zipIdx k).foldl (λb (p:Value×Nat)=>b.setIfInBounds (a+p.2) p.1) b)[j]? =if a+k<=j/\j<a+k+l.length then l[j-(a+k)]? else b[j]?
 |[],k,b,_=>by simp;intro j c d;omega
 |v::l,k,b,h=>by simp at h⊢;obtain⟨c,d⟩:=foldl_set a l (k+1) (b.setIfInBounds (a+k) v) (by simp;omega);grind
theorem xf{x:Array Value}{off:Nat}(r:Bf f (.agg d) (.agg i))(p:Bf f (.agg J) (.agg x))(h:off+J.length≤d.length)(a:Array Value)
  (e:a.size=i.size) (g: ∀j,a[j]? =if off<=j/\j<off+x.size then x[j-off]? else i[j]?):Bf f (.agg (Tr d off J)) (.agg a):=by
 cases r with
 |agg m q t=>
  cases p with
  |agg n k o=>refine .agg (by rw[e,m,db h]) (λj c l=>?_) λj v c l s=>?_;grind;grind[mY]
theorem nQ{x:Cx}(p:W2): ∀(b:List (Nat×AV)) (a:List (Nat×Value)) (f:List AV) (d:Array Value) (n:List AV),a.map (·.1)=b.map (·.1)→
  (∀(j:Nat) (q:Nat×AV) (o:Nat×Value),b[j]? =some q->a[j]? =some o->Bf x q.2 o.2)->Bf x (.agg f) (.agg d)->ju p f b=some n->
  ∃l,Instr.fill p.at_ d a=some l/\Bf x (.agg n) (.agg l)
 |[],a,f,d,n,m,_,r,h=>by
  have:a=[]:=by simp_all
  subst this;simp only[ju,Ai]at h;subst h;exact⟨d,rfl,r⟩
 |(i,v)::b,(i',c)::a,f,d,n,m,hr,r,h=>by
  simp at m;obtain⟨rfl,m⟩:=m;simp only[ju]at h;split at h;rename_i e size E;split at h;rename_i u;obtain⟨g,rfl,s⟩:=u;have t:=Ts (hr 0 (i',v) (i',c) rfl rfl) g;have z:c.cells.size=v.cells.length:=by cases t with|agg h _ _=>exact h
  have w:d.size=f.length:=by cases r with|agg h _ _=>exact h
  have k:=foldl_set e c.cells.toList 0 d (by grind);have B:c.cells.zipIdx.foldl (λf (p:Value×Nat)=>f.setIfInBounds (e+p.2) p.1) d=(c.cells.toList.zipIdx 0).foldl (λf (p:Value×Nat)=>f.setIfInBounds (e+p.2) p.1) d:=by rw[<-Array.foldl_toList,Array.toList_zipIdx]
  have A:=xf (off:=e) r t s ((c.cells.toList.zipIdx 0).foldl (λf (p:Value×Nat)=>f.setIfInBounds (e+p.2) p.1) d) k.1 (λj=>by grind);obtain⟨l,C,D⟩:=nQ p b a _ _ n m (λj q o F y=>hr (j+1) q o (by grind) (by grind)) A h;grind[Instr.fill];cases h;cases h
theorem uZ{b:List (Nat×AV)}{t:Array (Nat×Value)}(E:t.toList.map (·.1)=b.map (·.1))
  (hr: ∀(j:Nat) (q:Nat×AV) (A:Nat×Value),b[j]? =some q->t.toList[j]? =some A->Bf f q.2 A.2) (h:lH P a b=some e): ∃c,(Instr.build a t).run P w= .ok c w/\Bf f e c:=by
 unfold lH at h;split at h;rename_i z p F d;cases y:ju p z b with
 |none=>grind
 |some H=>
  rw[y]at h;simp at h;subst h;obtain⟨i,v,D,k,G⟩:=Zi f F;obtain⟨m,s,C⟩:=nQ p b t.toList z v.cells H E hr G y;refine⟨.agg m,run_build w a t m ?_,C⟩;unfold Program.built;rw[D];unfold mS at d;split at d;rename_i B r;rw[r];cases o:B.toList.mapM (λx=>(P.info? x.type).map λi=>(x.offset,i.size))with
  |none=>grind
  |some l=>simp only[k,o];rw[<-s];congr 1;grind[W2.at_]
  rename_i n u r;rw[r];cases g:P.info? u with
  |none=>grind
  |some I=>rw[g]at d;simp at d;subst d;simp only[k,g];exact s
  cases d
 cases h
def CQ(P:Program)(env:Env)(H:As):Op->Option AV
 | .move x| .assign x=>some (BA env x)
 | .pick c a b=>
  match BA env c with
  | .bool t=>some (if t then BA env a else BA env b)
  |_=>none
 | .load t a=>bj P t H (BA env a)
 | .nilCheck x=>
  match BA env x with
  | .ptr id g off=>if Q8 H id g then some (.ptr id g off)else none
  | .vptr cs=>some (.vptr cs)
  | .fn (.func f) a b=>some (.fn (.func f) a b)
  |_=>none
 | .binOp op t x y _=>pj P op t (BA env x) (BA env y)
 | .unOp op _ x=>unV op (BA env x)
 | .convert s d x=>UL P H s d (BA env x)
 | .fieldAddr s x f=>TH P H s f (BA env x)
 | .field s x f=>lS P s f (BA env x)
 | .indexAddr t x i=>TL P H t (BA env x) (BA env i)
 | .index t x i=>dV P t (BA env x) (BA env i)
 | .slice t x lo hi mx=>dd P H t (BA env x) (lo.map (BA env)) (hi.map (BA env)) (mx.map (BA env))
 | .extract x i=>
  match BA env x with
  | .tup vs=>vs[i]?
  |_=>none
 | .makeFunc f a b=>some (.fn f (a.toList.map (BA env)) (b.toList.map (BA env)))
 | .build t parts=>lH P t (parts.toList.map λp=>(p.1,BA env p.2))
 | .call {callee:=.builtin .len,args:=⟨[x]⟩,argTypes:=⟨[t]⟩}=>mD P H t (BA env x)
 | .call {callee:=.builtin .max,args:=⟨[x,y]⟩,.. }=>mmV true [BA env x,BA env y]
 | .call {callee:=.builtin .min,args:=⟨[x,y]⟩,.. }=>mmV false [BA env x,BA env y]
 | .call {callee:=.builtin .min,args:=⟨[x,y,z]⟩,.. }=>mm3 (BA env x) (BA env y) (BA env z)
 |_=>none
def vE{P:Program}{N:Nat}{X:Nat→Prop}{h:Gh}{env:Env}{H:As}{a:Act}{w:World}{o:Oper}{v:AV}(s:St X h N env H a w)(b:CQ P env H o.op=some v):
  ∃c,(execOp a.eval o).run P w= .ok (.value c) w/\Bf (cx X h H w) v c:=by
 have k:=λx=>DO s.env x;have d: ∀{m:Sem Value},(∃c,m.run P w= .ok c w/\Bf (cx X h H w) v c)-> ∃c,(do pure (Next.value (<-m)):Sem Next).run P w= .ok (.value c) w/\Bf (cx X h H w) v c:=by rintro m ⟨c,u,hr⟩;exact⟨c,by simp[u],hr⟩
 unfold execOp;cases e:o.op with
 |move x=>rw[e]at b;simp only[CQ,Ai]at b;subst b;exact⟨_,rfl,k x⟩
 |assign x=>rw[e]at b;simp only[CQ,Ai]at b;subst b;exact⟨_,rfl,k x⟩
 |pick c x y=>rw[e]at b;simp only[CQ]at b;split at b;rename_i t ht;have u:=k c;rw[ht]at u;simp only[Ai]at b;subst b;generalize W:a.eval c=cv at u;cases u;simp only[W,asBool];cases t;exact⟨_,by simp,k y⟩;exact⟨_,by simp,k x⟩;cases b
 |load t x=>rw[e]at b;simp only[CQ]at b;obtain⟨B,ad,D,E,hl,hr⟩:=qX s.sim (k x) b;exact d ⟨D,by rw[E];simp[Instr.loadAt,Instr.sureAddr,hl],hr⟩
 |nilCheck x=>
  rw[e]at b;simp only[CQ]at b;have z:=k x;split at b;rename_i id g ad E;rw[E]at z;split at b;rename_i M;simp only[Ai]at b;subst b;generalize A:a.eval x=c at z;cases z with
  |ptr Y S n u=>obtain⟨B,al,rfl⟩:=u (s.sim.cur M);exact⟨_,by simp only[A];rfl,.ptr Y S n u⟩
  cases b;rename_i cs E;rw[E]at z;simp only[Ai]at b;subst b;generalize A:a.eval x=c at z;cases z with
  |vptr f n r U V=>exact⟨_,by simp only[A];rfl,.vptr f n r U V⟩
  rename_i f p q E;rw[E]at z;simp only[Ai]at b;subst b;generalize A:a.eval x=c at z;cases z with
  |fn n r U V=>exact⟨_,by simp only[A];rfl,.fn n r U V⟩
  cases b
 |binOp op t x y yt=>rw[e]at b;simp only[CQ]at b;exact d (yO w (k x) (k y) b)
 |unOp op t x=>rw[e]at b;simp only[CQ]at b;exact d (ABM w (k x) b)
 |convert p q x=>rw[e]at b;simp only[CQ]at b;exact d (wK s.sim (k x) b)
 |fieldAddr p x f=>rw[e]at b;simp only[CQ]at b;exact d (ms s.sim (k x) b)
 |field p x f=>rw[e]at b;simp only[CQ]at b;exact d (um (k x) b)
 |indexAddr t x i=>rw[e]at b;simp only[CQ]at b;exact d (mz s.sim (k x) (k i) b)
 |index t x i=>rw[e]at b;simp only[CQ]at b;exact d (ut (k x) (k i) b)
 |slice t x lo hi T=>
  rw[e]at b;simp only[CQ]at b;have G: ∀(y:Option Operand) (v:AV),y.map (BA env)=some v-> ∃c,y.map a.eval=some c/\Bf (cx X h H w) v c:=by
   intro y v Q;cases y with
   |none=>cases Q
   |some y=>simp only[Be,Ai]at Q;subst Q;exact⟨_,rfl,k y⟩
  have C: ∀(y:Option Operand),y.map (BA env)=none->y.map a.eval=none:=by
   intro y Q;cases y with
   |none=>rfl
   |some y=>cases Q
  exact d (vP s.sim (k x) (G lo) (C lo) (G hi) (C hi) (G T) (C T) b)
 |extract x i=>
  rw[e]at b;simp only[CQ]at b;have z:=k x;split at b;rename_i vs E;rw[E]at z;generalize u:a.eval x=c at z;cases z with
  | @tup vs R hs Z=>
   have ap:i<vs.length:=by rcases Ap i vs.length with r|r;exact r;rw[Cs r]at b;cases b
   have S:R[i]? =some (R[i]'(by omega)):=PA (by omega);refine d ⟨_,?_,Z i v _ b S⟩;simp only[Instr.extract,u,S];rfl
  cases b
 |makeFunc f p q=>
  rw[e]at b;simp only[CQ,Ai]at b;subst b;have L: ∀(p:Array Operand) (j:Nat) (v:AV) (c:Value),(p.toList.map (BA env))[j]? =some v->(p.map a.eval)[j]? =some c->Bf (cx X h H w) v c:=by
   intro p j v c J u;rw[CL,PX]at J;rw[YM]at u;cases O:p[j]? with
   |none=>rw[O]at J;cases J
   |some y=>rw[O]at J u;simp only[Be,Ai]at J u;subst J u;exact k y
  exact d ⟨_,rfl,.fn (by simp) (by simp) (L p) (L q)⟩
 |build t I=>
  rw[e]at b;simp only[CQ]at b;refine d (uZ ?_ ?_ b);simp;intro j q q' K F;rw[CL,PX]at K;rw[PX,YM]at F;cases O:I[j]? with
  |none=>rw[O]at K;cases K
  |some y=>rw[O]at K F;simp only[Be,Ai]at K F;subst K F;exact k y.2
 |call c=>
  rw[e]at b;simp only[CQ]at b;split at b<;>rename_i l<;>first
   |(cases b;done)
   |(cases l;done)
   |skip
  injection l with l;subst l;simp only[resolve,invoke,builtin,Sem.run_bind,Sem.run_pure,Result.andThen_ok,O2,BZ,HV];obtain⟨D,n,r⟩:=zA (ty:=o.type) s.sim (k _) b;exact⟨D,by rw[n];rfl,r⟩;injection l with l;subst l;simp only[resolve,invoke,builtin,Sem.run_bind,Sem.run_pure,Result.andThen_ok,O2,BZ,HV];obtain⟨D,n,r⟩:=w7 (P:=P) (w:=w) (mx:=true) (ts:=_) (ty:=o.type) (k _) (k _) b;exact⟨D,by simp only[if_true]at n;rw[n];rfl,r⟩;injection l with l;subst l;simp only[resolve,invoke,builtin,Sem.run_bind,Sem.run_pure,Result.andThen_ok,O2,BZ,HV];obtain⟨D,n,r⟩:=w7 (P:=P) (w:=w) (mx:=false) (ts:=_) (ty:=o.type) (k _) (k _) b;exact⟨D,by simp only[Iz,if_false]at n;rw[n];rfl,r⟩;injection l with l;subst l;simp only[resolve,invoke,builtin,Sem.run_bind,Sem.run_pure,Result.andThen_ok,O2,BZ,HV];obtain⟨D,n,r⟩:=zF (P:=P) (w:=w) (ts:=_) (ty:=o.type) (k _) (k _) (k _) b;exact⟨D,by rw[n];rfl,r⟩
 |_=>rw[e]at b;simp[CQ]at b
def DY{P:Program}{N:Nat}{H:As}{v:AV}(b:CQ P g H o.op=some v)(e:K v H):Ip P N o g H K:=by apply Cu (by cases f:o.op<;>first|rfl|(rw[f]at b;simp[CQ]at b));intro X h a w s Q;obtain⟨c,d,hr⟩:=vE s b;unfold Oper.wp;rw[d,Oper.upon_value];exact⟨c,v,h,H,rfl,e,hr,s.sim,HT.refl _ _ _⟩
section
variable {X:Nat->Prop} {h:Gh} {H:As} {w:World}
def Gh.at_(h:Gh)(id:Nat)(io:Option Nat)(gen cap:Nat):Gh:=
 ⟨λi=>if i=id then io else h.io i,λi=>if i=id then gen else h.gen i,λi=>if i=id then cap else h.cap i⟩
def cT(x:Cx)(cs:List AV)(arr:Array Value)(fz:Nat×Nat):Prop:=
 ∃f:Nat->Value,cs.length<=arr.size/\(∀i,i<arr.size->(decide (fz.1<=i)&&decide (i<fz.2))=false)/\
  ∀(j:Nat) (v:AV),cs[j]? =some v->arr[j]? =some (f j)/\(f j).oneCell'=true/\Bf x v (f j)
def Ol(r:Bf f (.agg d) (.agg i)):cT f d i (0,0):=by
 cases r with
 |agg l h k=>
  refine⟨λj=>i.getD j undef,by omega,λa _=>by simp,λj v c=>?_⟩;have b:j<i.size:=by rcases Ap j d.length with g|g;omega;rw[Cs g]at c;cases c
  have x:i[j]? =some (i[j]):=PA b;have e:i.getD j undef=i[j]:=by simp[b]
  show i[j]? =some (i.getD j undef)/\(i.getD j undef).oneCell'=true/\Bf f v (i.getD j undef);rw[e];exact⟨x,h j _ x,k j v _ c x⟩
def Iq.of_ext'(s:Iq X h H w)(hx:HT h H w L E B)
  (key: ∀(id:Nat) (e:EU),E[id]? =some e->e≠ .dead->(H[id]? =some e/\L.gen id=h.gen id/\L.io id=h.io id/\L.cap id=h.cap id/\ ∀q,h.io id=some q->B.heap[q]? =w.heap[q]?)\/((∃g S,e= .live g S/\tJ (cx X L E B) id g S)\/(∃y,e= .lp y/\oJ (cx X L E B) id y)\/(e.isB=true/\xv L E B id e)))
  (R: ∀(id T e i:Nat) (l:Option (List UInt8)),E[id]? =some (.bld T e i l)->H[id]? =some (.bld T e i l)->E[i]? =some (.brow id)->xv L E B id (.bld T e i l))
  (inj: ∀(id I:Nat) (e e':EU) (q:Nat),E[id]? =some e->E[I]? =some e'->e≠ .dead->e'≠ .dead->L.io id=some q->L.io I=some q->id=I):Iq X L E B:=by
 have hl:=hx.later X;refine⟨λq x=>⟨DB (s.out q x).1 hx.size,λV=>?_⟩,λid g S K=>?_,λid y K=>?_,inj,λid e K x=>?_⟩;rcases hx.fresh q V with V|V;exact(s.out q x).2 V;have:=(s.out q x).1;omega;rcases key id _ K (by simp)with⟨c,J,z,U,C⟩|⟨g',N,e,hn⟩|⟨y,e,_⟩|⟨e,_⟩;obtain⟨hg,Q⟩:=s.live id g S c;refine⟨J.trans hg,?_⟩;rcases Q with⟨hn,rfl⟩|⟨q,M,T',W,f,d,Z,P,al,ad,A⟩;exact .inl ⟨z.trans hn,rfl⟩;refine .inr ⟨q,M,T',W,f,z.trans d,(C q d).trans Z,P.trans U.symm,al,ad,λj v hj=>?_⟩;obtain⟨p1,p2,p3⟩:=A j v hj;exact⟨p1,p2,p3.later hl⟩;injection e with a b;subst a b;exact hn;cases e;cases e;rcases key id _ K (by simp)with⟨c,J,z,U,C⟩|⟨g',N,e,hn⟩|⟨L',e,hn⟩|⟨e,_⟩;obtain⟨hg,q,r,d,Z,u,F,G,O,h5,Y,h7⟩:=s.lp id y c;exact⟨J.trans hg,q,r,z.trans d,(C q d).trans Z,u,F,G,O,h5,Y,λt v m=>⟨(h7 t v m).1,(h7 t v m).2.later hl⟩⟩;cases e;injection e with a;subst a;exact hn;cases e;rcases key id _ K (by rintro rfl;cases x)with⟨c,J,z,U,C⟩|⟨g',N,e,hn⟩|⟨L',e,hn⟩|⟨_,hn⟩;cases e with
 |bld T e0 i l=>by_cases hr:E[i]? =some (.brow id);exact R id T e0 i l K c hr;obtain⟨q,p,v,u,F,G,O,Y,_⟩:=s.bld id _ c x;exact⟨q,p,v,z.trans u,(C q u).trans F,G,J.trans O,Y,λh=>(hr h).elim⟩
 |brow o=>intro q d;obtain⟨D,T,fz,u⟩:=s.bld id _ c x q (z▸d);exact⟨D,T,fz,(C q (z▸d)).trans u⟩
 |mp k es=>obtain⟨q,D,u,F,G,O⟩:=s.bld id _ c x;exact⟨q,D,z.trans u,J.trans F,(C q u).trans G,O⟩
 |it n seen=>obtain⟨q,u,F,G⟩:=s.bld id _ c x;exact⟨q,z.trans u,J.trans F,by rw[U];exact(C q u).trans G⟩
 |_=>cases x
 subst e;cases x;subst e;cases x;exact hn
def Iq.of_ext(s:Iq X h H w)(J:HT h H w L E B)
  (key: ∀(id:Nat) (e:EU),E[id]? =some e->e≠ .dead->(H[id]? =some e/\L.gen id=h.gen id/\L.io id=h.io id/\L.cap id=h.cap id/\ ∀c,h.io id=some c->B.heap[c]? =w.heap[c]?)\/((∃g r,e= .live g r/\tJ (cx X L E B) id g r)\/ ∃a,e= .lp a/\oJ (cx X L E B) id a))
  (inj: ∀(id d:Nat) (e t:EU) (c:Nat),E[id]? =some e->E[d]? =some t->e≠ .dead->t≠ .dead->L.io id=some c->L.io d=some c->id=d):Iq X L E B:=by
 refine s.of_ext' J (λid e j m=>?_) (λid T O o l j k hr=>?_) inj;rcases key id e j m with b|b|b;exact .inl b;exact .inr (.inl b);exact .inr (.inr (.inl b));obtain⟨c,p,v,b,D,f,F,I,G⟩:=s.bld id _ k rfl;rcases key id _ j (by simp)with⟨_,u,x,P,y⟩|⟨_,_,e,_⟩|⟨_,e,_⟩;rcases key o _ hr (by simp)with⟨n,Q,z,R,A⟩|⟨_,_,e,_⟩|⟨_,e,_⟩;refine⟨c,p,v,x.trans b,(y c b).trans D,f,u.trans F,I,λ_=>?_⟩;obtain⟨q1,q2⟩:=G n;refine⟨⟨q1.1,?_⟩,q2.trans z.symm⟩;rcases q1.2 with q|⟨g,cap,i,C,rfl,K,M,N⟩;exact .inl q;refine .inr ⟨g,cap,i,C,rfl,K,(A g ?_).trans M,N⟩;simpa[Value.ownBlock]using q2.symm;cases e;cases e;cases e;cases e
def IP{e:EU}(a:(H++[l])[N]? =some e):(N<H.length/\H[N]? =some e)\/(N=H.length/\e=l):=by rcases O7 N H.length with b|rfl|c;rw[B6 b]at a;exact .inl ⟨b,a⟩;rw[Cr (Ak _),IU]at a;simp at a;exact .inr ⟨rfl,a.symm⟩;rw[Cs (by simp;omega)]at a;cases a
def Io{e:EU}(c:N<H.length)(a:(H.set N l)[s]? =some e):(s≠N/\H[s]? =some e)\/(s=N/\e=l):=by by_cases b:s=N;subst b;rw[G8 c]at a;simp at a;exact .inr ⟨rfl,a.symm⟩;rw[D3 (λe=>b e.symm)]at a;exact .inl ⟨b,a⟩
def HT.push(o:Obj)(cap:Nat)(E:EU):
  HT h H w (h.at_ H.length (some w.heap.size) 0 cap) (H++[E]) {w with heap:=w.heap.push o}where
 os:=rfl
 tape:=rfl
 output:=rfl
 size:=by simp
 keep B hB _:=by simp[TX,BQ hB]
 n:=by simp
 gen id hid:=by simp[Gh.at_,BQ hid]
 same id hid _:=by simp[Gh.at_,BQ hid]
 fresh B ho:=by obtain⟨id,e,b,d,a⟩:=ho;rcases IP b with⟨c,b⟩|⟨rfl,rfl⟩;exact .inl ⟨id,e,b,d,by simpa[Gh.at_,BQ c]using a⟩;simp[Gh.at_]at a;exact .inr (by omega)
 loops B r hB:=⟨r,by have:=Mr hB;simp[TX,BQ this,hB]⟩
def Iq.push_any(s:Iq X h H w)(o:Obj)(cap:Nat)(E:EU)
  (t:E≠ .dead->((∃g l,E= .live g l/\tJ (cx X (h.at_ H.length (some w.heap.size) 0 cap) (H++[E]) {w with heap:=w.heap.push o}) H.length g l)\/∃L,E= .lp L/\oJ (cx X (h.at_ H.length (some w.heap.size) 0 cap) (H++[E]) {w with heap:=w.heap.push o}) H.length L)):
  Iq X (h.at_ H.length (some w.heap.size) 0 cap) (H++[E]) {w with heap:=w.heap.push o}:=by
 refine s.of_ext (HT.push o cap E) (λid e f d=>?_) λid u e v B p q b c i j=>?_;rcases IP f with⟨a,f⟩|⟨rfl,rfl⟩;refine .inl ⟨f,by simp[Gh.at_,BQ a],by simp[Gh.at_,BQ a],by simp[Gh.at_,BQ a],λB k=>?_⟩;have:=s.io_at f d k;simp[TX,BQ this];exact .inr (t d);rcases IP p with⟨l1,m⟩|⟨rfl,_⟩<;>rcases IP q with⟨l2,n⟩|⟨rfl,_⟩;exact s.inj _ _ _ _ B m n b c (by simpa[Gh.at_,BQ l1]using i) (by simpa[Gh.at_,BQ l2]using j);have r:=s.io_at m b (by simpa[Gh.at_,BQ l1]using i);simp[Gh.at_]at j;omega;have r:=s.io_at n c (by simpa[Gh.at_,BQ l2]using j);simp[Gh.at_]at i;omega;rfl
def Iq.push(s:Iq X h H w)(a:Array Value)(T:TypeId)(c:Nat×Nat)(g:List AV)(i:cT (cx X h H w) g a c):
  Iq X (h.at_ H.length (some w.heap.size) 0 a.size) (H++[.live 0 g]) {w with heap:=w.heap.push (.cells a T c)}:=by
 refine s.push_any _ _ _ λ_=>.inl ⟨0,g,rfl,?_⟩;obtain⟨f,e,d,b⟩:=i;refine⟨by simp[cx,Gh.at_],.inr ⟨w.heap.size,a,T,c,f,by simp[cx,Gh.at_],by show(w.heap.push (.cells a T c))[w.heap.size]? =_;simp,by simp[cx,Gh.at_],e,d,λj v k=>?_⟩⟩;obtain⟨l,m,n⟩:=b j v k;exact⟨l,m,n.later ((HT.push _ _ _).later X)⟩
def Iq.upd(s:Iq X h H w){id g g' B:Nat}{arr:Array Value}{T:TypeId}{fz:Nat×Nat}{w':World}(z:H[id]? =some (EU.live g J))(hg:g≤g')
  (A:g'=g->h.io id=some B/\h.cap id=arr.size) (a:h.io id=some B\/w.heap.size<=B) (hb:w'.heap[B]? =some (.cells arr T fz)) (O: ∀k,k<w.heap.size->k≠B->w'.heap[k]? =w.heap[k]?)
  (S:w'.os=w.os) (D:w'.tape=w.tape) (I:w'.output=w.output) (C:w.heap.size<=w'.heap.size) (hh:cT (cx X h H w) d arr fz):
  Iq X (h.at_ id (some B) g' arr.size) (H.set id (.live g' d)) w'/\HT h H w (h.at_ id (some B) g' arr.size) (H.set id (.live g' d)) w':=by
 have t:id<H.length:=by rcases Ap id H.length with p|p;exact p;rw[Cs p]at z;cases z
 have x:h.gen id=g:=(s.live id g J z).1;have U:HT h H w (h.at_ id (some B) g' arr.size) (H.set id (.live g' d)) w':=by refine⟨S,D,I,C,λk P hn=>?_,by simp,λi o=>?_,λi o e=>?_,λk ho=>?_,λk r hr=>⟨r,?_⟩⟩;refine O k P λe=>?_;subst e;rcases a with a|a;exact hn ⟨id,_,z,by simp,a⟩;omega;by_cases e:i=id;subst e;simp[Gh.at_,x,hg];simp[Gh.at_,e];by_cases e':i=id;subst e';simp only[Gh.at_,if_true]at e⊢;have:=A (e.trans x);exact⟨this.1.symm,this.2.symm⟩;simp[Gh.at_,e'];obtain⟨i,l,u,b,p⟩:=ho;rcases Io t u with⟨o,m⟩|⟨rfl,_⟩;exact .inl ⟨i,l,m,b,by simpa[Gh.at_,o]using p⟩;simp[Gh.at_]at p;subst p;rcases a with a|a;exact .inl ⟨i,_,z,by simp,a⟩;exact .inr a;have R:=Mr hr;refine(O k R λe=>?_).trans hr;subst e;rcases a with a|a;rcases(s.live id g J z).2 with⟨hn,_⟩|⟨Y,Z,T',ad,f',y,E,_⟩;rw[show(cx X h H w).io id=h.io id from rfl,a]at hn;cases hn;rw[show(cx X h H w).io id=h.io id from rfl,a]at y;injection y with e;subst e;rw[show(cx X h H w).w.heap=w.heap from rfl,hr]at E;cases E;omega
 have hl:=U.later X;have c: ∀{i:Nat} {l:EU},i≠id->H[i]? =some l->l≠ .dead->h.io i=some B->False:=by intro i l o u b n;rcases a with a|a;exact o (s.inj i id l _ B u z b (by simp) n a);have:=s.io_at u b n;omega
 refine⟨s.of_ext U (λi l u b=>?_) (λi i' l M k u p F G L K=>?_),U⟩;rcases Io t u with⟨o,m⟩|⟨rfl,rfl⟩;refine .inl ⟨m,by simp[Gh.at_,o],by simp[Gh.at_,o],by simp[Gh.at_,o],λY n=>O Y (s.io_at m b n) λe=>?_⟩;subst e;exact c o m b n;obtain⟨f,Q,N,q⟩:=hh;refine .inr (.inl ⟨g',d,rfl,by simp[cx,Gh.at_],.inr ⟨B,arr,T,fz,f,by simp[cx,Gh.at_],hb,by simp[cx,Gh.at_],Q,N,λj v hj=>?_⟩⟩);obtain⟨p1,p2,p3⟩:=q j v hj;exact⟨p1,p2,p3.later hl⟩;rcases Io t u with⟨V,l⟩|⟨rfl,_⟩<;>rcases Io t p with⟨W,M⟩|⟨rfl,_⟩;exact s.inj _ _ _ _ k l M F G (by simpa[Gh.at_,V]using L) (by simpa[Gh.at_,W]using K);simp[Gh.at_]at K;subst K;exact(c V l F (by simpa[Gh.at_,V]using L)).elim;simp[Gh.at_]at L;subst L;exact(c W M G (by simpa[Gh.at_,W]using K)).elim;rfl
end
def uo(h:w.heap[N]? =some (.cells i a v))(B:Nat):w.frozen? ⟨N,B,none⟩=(decide (v.1<=B)&&decide (B<v.2)):=by unfold World.frozen?;rw[h]
def SV{P:Program}{B off:Nat}{T:TypeId}{h:Nat×Nat}: ∀(g:List Value) (i:Nat) (a:Array Value) (w:World),w.heap[B]? =some (.cells a T h)→off+i+g.length≤a.size→
  (∀j,j<a.size->(decide (h.1<=j)&&decide (j<h.2))=false)->(∀v∈g,v.oneCell'=true)->
  ∃d b,(storeCells ⟨B,off,none⟩ g i).run P w= .ok () d/\d.heap[B]? =some (.cells b T h)/\b.size=a.size/\(∀j,b[j]? =if off+i<=j/\j<off+i+g.length then g[j-(off+i)]? else a[j]?)/\(∀k,k≠B->d.heap[k]? =w.heap[k]?)/\d.os=w.os/\d.tape=w.tape/\d.output=w.output/\d.heap.size=w.heap.size
 |[],i,a,w,hb,_,_,_=>⟨w,a,rfl,hb,rfl,λj=>by rw[if_neg (by simp)],λ_ _=>rfl,rfl,rfl,rfl,rfl⟩
 |v::g,i,a,w,hb,hle,hfz,h1=>by
  simp only[BV]at hle;have o:w.cell? ⟨B,off+i,none⟩=some (a[off+i]'(by omega)):=by rw[OV (w:=w) hb];exact PA (by omega)
  have p:w.frozen? ⟨B,off+i,none⟩=false:=by rw[uo hb];exact hfz _ (by omega)
  have c:(store ⟨B,off+i,none⟩ v).run P w= .ok () (w.setCell ⟨B,off+i,none⟩ v):=by rw[run_store P w _ v .plain (h1 v (by simp)),o];simp[p]
  have l:(w.setCell ⟨B,off+i,none⟩ v).heap[B]? =some (.cells (a.setIfInBounds (off+i) v) T h):=by simp[World.setCell,pd,hb]
  obtain⟨d,b,r,s,t,x,y,z,A,C,D⟩:=SV (P:=P) (off:=off) g (i+1) (a.setIfInBounds (off+i) v) (w.setCell ⟨B,off+i,none⟩ v) l (by simp;omega)
   (by simpa using hfz) (λu q=>h1 u (CC _ q))
  refine⟨d,b,?_,s,by rw[t];simp,λj=>?_,λk n=>?_,z,A,C,by rw[D];simp[World.setCell]⟩;simp only[storeCells,Ng,Sem.run_bind,c,Result.andThen_ok];exact r;rw[x];by_cases m:j=off+i;subst m;rw[if_neg (by omega),if_pos (by simp),Array.getElem?_setIfInBounds_self_of_lt (by omega)];simp;by_cases f:off+(i+1)<=j/\j<off+(i+1)+g.length;rw[if_pos f,if_pos (by simp;omega),show j-(off+i)=(j-(off+(i+1)))+1 from by omega];rfl;rw[if_neg f,if_neg (by simp;omega),nB (λe=>m e.symm)];rw[y k n];simp[World.setCell,pd,Ne.symm n]
section
variable {P:Program} {N:Nat} {o:Oper} {env:Env} {H:As} {K:AV->As->Prop}
def Ip.alloc(t:o.op= .alloc a)(g:Vz P a=some d)(f:K (.ptr H.length 0 0) (H++[.live 0 d])):Ip P N o env H K:=by
 apply Cu (by rw[t];rfl);intro X h z w s Q;obtain⟨i,v,e,c,j⟩:=Zi (cx X h H w) g;have b:(execOp z.eval o).run P w= .ok (.value (.pointer (some ⟨w.heap.size,0,none⟩))) {w with heap:=w.heap.push (.cells v.cells a)}:=by unfold execOp;rw[t];simp[Instr.alloc,zeroValue,typeInfo,e,c,newVar,newRow]
 unfold Oper.wp;rw[b,Oper.upon_value];refine⟨_,_,_,_,rfl,f,?_,s.sim.push v.cells a (0,0) d (Ol j),HT.push _ _ _⟩;exact .ptr (by simp[cx]) (by simp[cx,Gh.at_]) rfl λ_=>⟨w.heap.size,by simp[cx,Gh.at_],rfl⟩
def Ip.box(c:o.op= .box a m)(g:BA env m=e)(f:e.solid=true)(t:K (.ptr H.length 0 0) (H++[.live 0 e.cells])):Ip P N o env H K:=by
 apply Cu (by rw[c];rfl);intro X h x w s Q;have d:=DO s.env m;rw[g]at d;have i:=Ts d f;have b:(execOp x.eval o).run P w= .ok (.value (.pointer (some ⟨w.heap.size,0,none⟩))) {w with heap:=w.heap.push (.cells (x.eval m).cells a)}:=by unfold execOp;rw[c];simp[Instr.box,newVar,newRow]
 unfold Oper.wp;rw[b,Oper.upon_value];refine⟨_,_,_,_,rfl,t,?_,s.sim.push _ a (0,0) e.cells (Ol i),HT.push _ _ _⟩;exact .ptr (by simp[cx]) (by simp[cx,Gh.at_]) rfl λ_=>⟨w.heap.size,by simp[cx,Gh.at_],rfl⟩
def Ip.store{y:Operand}{id g off:Nat}{v:AV}{cs:List AV}{b:Bool}(ho:o.op= .store a m y)(hx:BA env m= .ptr id g off)(hy:BA env y=v)(hs:v.solid=true)
  (he:H[id]? =some (EU.live g cs)) (ht:tI P a=some (b,v.cells.length)) (J:off+v.cells.length<=cs.length) (V:K .any (H.set id (.live g (Tr cs off v.cells)))):Ip P N o env H K:=by
 apply Cu (by rw[ho];rfl);intro X h t w s Q;have Z:=DO s.env m;rw[hx]at Z;have Y:=DO s.env y;rw[hy]at Y;have rz:=Ts Y hs;obtain⟨I,F⟩:=s.sim.live id g cs he;obtain⟨B,i,S⟩: ∃B,h.io id=some B/\t.eval m= .pointer (some ⟨B,off,none⟩):=by
  generalize t.eval m=c at Z;cases Z with
  |ptr al O h1 hc=>obtain⟨B,i,rfl⟩:=hc I;exact⟨B,i,rfl⟩
 rcases F with⟨hn,_⟩|⟨B',D,T,R,f,z,hb,E,ad,G,x⟩;rw[show(cx X h H w).io id=h.io id from rfl,i]at hn;cases hn;rw[show(cx X h H w).io id=h.io id from rfl,i]at z;injection z with e;subst e;generalize U:t.eval y=c at Y rz;obtain⟨M,A,W⟩:c.cells.size=v.cells.length/\(∀(j:Nat) (d:Value),c.cells[j]? =some d->d.oneCell'=true)/\(∀(j:Nat) (u:AV) (d:Value),v.cells[j]? =some u->c.cells[j]? =some d->Bf (cx X h H w) u d):=by cases rz with|agg p q r=>exact⟨p,q,r⟩
 obtain⟨w',n,p1,p2,p3,p4,p5,p6,p7,p8,p9⟩:=SV (P:=P) (off:=off) c.cells.toList 0 D w hb (by simp;omega) G (λd hd=>by obtain⟨j,C⟩:=Eu hd;exact A j d (by simpa using C));have L:(execOp t.eval o).run P w= .ok .skip w':=by unfold execOp;rw[ho];simp only[S,U,Instr.storeAt,Instr.sureAddr,Sem.run_bind,Sem.run_pure,Result.andThen_ok,storeVar,KD ht];rw[if_neg (by simp[M])];simp only[Result.andThen_ok,p1]
 have hh:cT (cx X h H w) (Tr cs off v.cells) n R:=by
  refine⟨λj=>if off<=j/\j<off+v.cells.length then c.cells.getD (j-off) undef else f j,by rw[db J];omega,by rw[p3];exact G,λj u C=>?_⟩;rw[mY J]at C;rw[p4];simp only[Qy,DM,M,PX];split at C;rename_i l;rw[if_pos l,if_pos l];have hl:j-off<c.cells.size:=by omega
  have O:c.cells[j-off]? =some (c.cells[j-off]):=PA hl;have e:c.cells.getD (j-off) undef=c.cells[j-off]:=by simp[hl]
  rw[e];exact⟨O,A _ _ O,W _ u _ C O⟩;rename_i l;rw[if_neg l,if_neg l];exact x j u C
 obtain⟨q1,q2⟩:=s.sim.upd (g':=g) (B:=B) (arr:=n) (T:=T) (fz:=R) (w':=w') he (Ak _) (λ_=>⟨i,by rw[p3];exact E.symm⟩) (.inl i) p2 (λk _ V=>p5 k V) p6 p7 p8 (by rw[p9];exact Ak _) hh;unfold Oper.wp;rw[L,Oper.upon_skip];exact⟨_,_,_,_,rfl,V,.any _,q1,q2⟩
end
section
variable {X:Nat->Prop} {h:Gh} {H:As} {w w':World}
def HT.grow(b:w'.os=w.os)(f:w'.tape=w.tape)(d:w'.output=w.output)(e:w.heap.size<=w'.heap.size)(c: ∀k,k<w.heap.size->w'.heap[k]? =w.heap[k]?):HT h H w h H w':=⟨b,f,d,e,λB a _=>c B a,Ak _,λ_ _=>Ak _,λ_ _ _=>⟨rfl,rfl⟩,λ_ h=>.inl h,λB r a=>⟨r,(c B (Mr a)).trans a⟩⟩
def Iq.grow(s:Iq X h H w)(c:w'.os=w.os)(i:w'.tape=w.tape)(f:w'.output=w.output)(g:w.heap.size<=w'.heap.size)(e: ∀k,k<w.heap.size->w'.heap[k]? =w.heap[k]?):Iq X h H w':=s.of_ext (HT.grow c i f g e) (λ_ _ d b=>.inl ⟨d,rfl,rfl,rfl,λB a=>e B (s.io_at d b a)⟩) s.inj
def HT.virt:HT h H w (h.at_ H.length none 0 0) (H++[.live 0 []]) w where
 os:=rfl
 tape:=rfl
 output:=rfl
 size:=Ak _
 keep B _ _:=rfl
 n:=by simp
 gen id hid:=by simp[Gh.at_,BQ hid]
 same id hid _:=by simp[Gh.at_,BQ hid]
 fresh B ho:=by obtain⟨id,e,b,d,a⟩:=ho;rcases IP b with⟨c,b⟩|⟨rfl,rfl⟩;exact .inl ⟨id,e,b,d,by simpa[Gh.at_,BQ c]using a⟩;simp[Gh.at_]at a
 loops B r hB:=⟨r,hB⟩
theorem Iq.virt(s:Iq X h H w):Iq X (h.at_ H.length none 0 0) (H++[.live 0 []]) w:=by refine s.of_ext HT.virt (λid e f m=>?_) λid n e o B j k a b c d=>?_;rcases IP f with⟨l,f⟩|⟨rfl,rfl⟩;grind[Gh.at_];exact .inr (.inl ⟨0,[],rfl,by simp[cx,Gh.at_],.inl ⟨by simp[cx,Gh.at_],rfl⟩⟩);rcases IP j with⟨l1,g⟩|⟨rfl,_⟩<;>rcases IP k with⟨l2,i⟩|⟨rfl,_⟩;exact s.inj _ _ _ _ B g i a b (by simpa[Gh.at_,BQ l1]using c) (by simpa[Gh.at_,BQ l2]using d);simp[Gh.at_]at d;simp[Gh.at_]at c;rfl
def Iq.bump(s:Iq X h H w){id g:Nat}{cs:List AV}(n:H[id]? =some (EU.live g cs))(hn:h.io id=none):
  Iq X (h.at_ id none (g+1) (h.cap id)) (H.set id (.live (g+1) [])) w/\HT h H w (h.at_ id none (g+1) (h.cap id)) (H.set id (.live (g+1) [])) w:=by
 have a:id<H.length:=by rcases Ap id H.length with b|b;exact b;rw[Cs b]at n;cases n
 have c:h.gen id=g:=(s.live id g cs n).1;have own: ∀B,owned (h.at_ id none (g+1) (h.cap id)) (H.set id (.live (g+1) [])) B->owned h H B:=by rintro B ⟨i,e,j,l,b⟩;rcases Io a j with⟨f,d⟩|⟨rfl,_⟩;exact⟨i,e,d,l,by simpa[Gh.at_,f]using b⟩;simp[Gh.at_]at b
 have u:HT h H w (h.at_ id none (g+1) (h.cap id)) (H.set id (.live (g+1) [])) w:=by refine⟨rfl,rfl,rfl,Ak _,λk A hn=>rfl,by simp,λi f=>?_,λi f e=>?_,λB C=>.inl (own B C),λB r y=>⟨r,y⟩⟩;by_cases e:i=id;subst e;simp[Gh.at_,c];simp[Gh.at_,e];by_cases m:i=id;subst m;simp[Gh.at_,c]at e;simp[Gh.at_,m]
 refine⟨s.of_ext u (λi e j l=>?_) (λi F e m k j b o p q t=>?_),u⟩;rcases Io a j with⟨f,d⟩|⟨rfl,rfl⟩;exact .inl ⟨d,by simp[Gh.at_,f],by simp[Gh.at_,f],by simp[Gh.at_,f],λB z=>rfl⟩;exact .inr (.inl ⟨g+1,[],rfl,by simp[cx,Gh.at_],.inl ⟨by simp[cx,Gh.at_],rfl⟩⟩);rcases Io a j with⟨D,v⟩|⟨rfl,_⟩<;>rcases Io a b with⟨E,x⟩|⟨rfl,_⟩;exact s.inj _ _ _ _ k v x o p (by simpa[Gh.at_,D]using q) (by simpa[Gh.at_,E]using t);simp[Gh.at_]at t;simp[Gh.at_]at q;rfl
end
def Mn(H:As)(sz:Nat):AV->Option (Nat×List AV)
 | .vs sz' rows=>if sz=sz' then some (rows.length,rows.flatMap AV.cells)else none
 | .sl id g sz' off len=>
  match H[id]? with
  |some (.live g' cs)=>if g=g'/\sz=sz'/\off+len*sz<=cs.length then some (len,(cs.drop off).take (len*sz))else none
  |_=>none
 | .nils=>some (0,[])
 |_=>none
theorem Na{P:Program}{X:Nat→Prop}{h:Gh}{H:As}{w:World}{v:AV}{c:Value}{sz m:Nat}{J:List AV}(s:Iq X h H w)(r:Bf (cx X h H w) v c)(N:0<sz)(hr:Mn H sz v=some (m,J)):
  ∃a cap S,c= .slice a m cap/\J.length=m*sz/\fC (cx X h H w) J S/\(∀u∈S,u.oneCell'=true)/\(Builtin.lenOf c).run P w= .ok m w/\(Builtin.firstCells sz m c).run P w= .ok S.toArray w:=by
 cases r with
 |nils=>simp only[Mn,Ai,EV]at hr;obtain⟨rfl,rfl⟩:=hr;exact⟨none,0,[],rfl,by simp,⟨rfl,λ_ _ _ h=>by cases h⟩,(λ_ h=>by cases h),rfl,rfl⟩
 | @vs R b a cap f y Z D ha hv=>
  simp only[Mn]at hr;split at hr;rename_i F;subst F;simp only[Ai,EV]at hr;obtain⟨rfl,rfl⟩:=hr;have q:=jW D;cases b with
  |nil=>refine⟨a,cap,[],rfl,by simp,⟨rfl,λ_ _ _ h=>by cases h⟩,(λ_ h=>by cases h),rfl,?_⟩;cases a<;>simp[Builtin.firstCells,loadCells,loadCellsFrom]
  |cons e0 E=>
   obtain⟨B,k,rfl,hO,hB,L⟩:=ha (by simp);generalize e0::E=b at*;have K: ∀j,j<b.length*sz-> ∃e v,b[j/sz]? =some e/\e.cells[j%sz]? =some v:=by intro j o;have F:j/sz<b.length:=(Nat.div_lt_iff_lt_mul N).2 o;have I:b[j/sz]? =some (b[j/sz]):=Az F;grind[Nat.mod_lt,List.getElem?_eq_getElem]
   refine⟨_,cap,(List.range (b.length*sz)).map λj=>f (j/sz) (j%sz),rfl,q,⟨by simp[q],λj v d o G=>?_⟩,λu O=>?_,rfl,?_⟩;grind[flat_get,Nat.lt_or_ge,List.getElem?_eq_none,List.getElem?_range,Option.some.injEq];grind;have:=run_loadCells (P:=P) w ⟨B,k,none⟩ (b.length*sz) (λj=>f (j/sz) (j%sz)) λj o=>by obtain⟨e,v,I,Q⟩:=K j o;rw[Ng];have V:=(L _ e _ v I Q).1;rw[Nat.div_add_mod' j sz]at V;exact V
   grind[Builtin.firstCells]
  cases hr
 | @sl id g R k len c ap hg F L=>
  simp only[Mn]at hr;split at hr;rename_i g' l I;split at hr;rename_i x;obtain⟨rfl,rfl,ar⟩:=x;simp only[Ai,EV]at hr;obtain⟨rfl,rfl⟩:=hr;obtain⟨A,z⟩:=s.live id g l I;rcases L A with⟨n,rfl,rfl,rfl⟩|⟨B,cap,n,y,M,rfl⟩;exact⟨none,0,[],rfl,by simp,⟨by simp,λ_ _ _ _ h=>by cases h⟩,(λ_ h=>by cases h),rfl,rfl⟩;rcases z with⟨hn,_⟩|⟨U,ad,T,fz,f,p,hb,W,Y,al,i⟩;rw[hn]at n;cases n;have:U=B:=by rw[n]at p;injection p with e;exact e.symm
  subst this;refine⟨_,cap,(List.range (len*sz)).map λj=>f (k+j),rfl,by simp;omega,⟨by simp;omega,λj v d o G=>?_⟩,λu O=>?_,rfl,?_⟩;have C:j<len*sz:=by grind[Nat.lt_or_ge,List.getElem?_eq_none]
  rw[RH,if_pos C,OU]at o;rw[CL,TC C]at G;simp only[Be,Ai]at G;subst G;exact(i _ v o).2.2;simp only[Bl,IT]at O;obtain⟨j,o,rfl⟩:=O;have t:l[k+j]? =some (l[k+j]'(by omega)):=Az (by omega);exact(i _ _ t).2.1;have:=run_loadCells (P:=P) w ⟨U,k,none⟩ (len*sz) (λj=>f (k+j)) λj o=>by have t:l[k+j]? =some (l[k+j]'(by omega)):=Az (by omega);rw[Ng,OV (w:=w) hb];exact(i _ _ t).1
  simpa[Builtin.firstCells]using this;cases hr;cases hr
 |_=>simp only[Mn]at hr;cases hr
theorem sS(a b:Nat)(h:b<a):Builtin.nextslicecap a b<=2*a+2048:=by grind[Builtin.nextslicecap,Builtin.growBy]
def QG(P:Program)(e:TypeId):Bool:=
 match P.info? e with
 |some i=>decide (i.bytes<=1048576)&&(match i.zero with|some z=>decide (z.cells.size=i.size)|none=>false)
 |none=>false
section
variable {P:Program} {N:Nat} {o:Oper} {env:Env} {H:As} {K:AV->As->Prop}
theorem Rm(h:QG P a=true): ∃i z,P.info? a=some i/\i.bytes<=1048576/\i.zero=some z/\z.cells.size=i.size:=by grind[QG]
theorem eF{i:TypeInfo}(h:tI P a=some (r,N))(t:P.info? a=some i):i.size=N:=by unfold tI at h;grind
theorem Ip.buildSlice{t e:TypeId}{len sz:Nat}{f:Array (Nat×Operand)}{W:List AV}(ho:o.op= .buildSlice t len f)(he:eI P t=some (none,e,sz))(a1:0<sz)(a6:QG P e=true)
  (C:f.toList.map (·.1)=List.range len) (a8:f.toList.map (λp=>BA env p.2)=W) (O: ∀v∈W,v.solid=true/\v.cells.length=sz) (L:len<=4096/\sz<=4096) (hk:K (.vs sz W) H):Ip P N o env H K:=by
 apply Cu (by rw[ho];rfl);intro X h a w s Q;obtain⟨a2,b,hi⟩:=PC he;obtain⟨i,z,D,_,hz,a9⟩:=Rm a6;have A:=eF hi D;have V:W.length=len:=by have n:=congrArg List.length C;grind[List.length]
 let g:List Value:=f.toList.map λp=>a.eval p.2;have U:g.length=len:=by grind[List.length]
 have M: ∀(j:Nat) (v:AV) (c:Value),W[j]? =some v->g[j]? =some c->Bf (cx X h H w) (.agg v.cells) (.agg c.cells)/\v.cells.length=sz:=by
  intro j v c G Y;have hm:=O v (BJ G);refine⟨?_,hm.2⟩;subst a8;simp only[g,CL]at G Y;cases Z:f.toList[j]? with
  |none=>rw[Z]at G;cases G
  |some p=>rw[Z]at G Y;simp only[Be,Ai]at G Y;subst G Y;exact Ts (DO s.env p.2) hm.1
 have y: ∀c∈g,c.cells.size=sz:=by
  intro c Y;obtain⟨j,B⟩:=Eu Y;have E:j<W.length:=by grind[Nat.lt_or_ge,List.getElem?_eq_none]
  obtain⟨n,r⟩:=M j _ c (Az E) B;cases n<;>grind
 have R:(f.map λ(q:Nat×Operand)=>(q.1,a.eval q.2)).toList=(g.zipIdx 0).map λx=>(x.2,x.1):=by
  apply Mp;intro j;simp only[Array.toList_map,CL,List.getElem?_zipIdx,D6,g];cases Z:f.toList[j]? with
  |none=>rfl
  |some p=>
   have n:(f.toList.map (·.1))[j]? =some p.1:=by rw[CL,Z];rfl
   rw[C]at n;have E:j<len:=by rcases Ap j len with r|r;exact r;rw[Cs (by simpa using r)]at n;cases n
   rw[TC E]at n;simp only[Ai]at n;simp[n]
 have a5:(g.flatMap λc=>c.cells.toList).length=len*sz:=by
  clear R;have: ∀l:List Value,(∀c∈l,c.cells.size=sz)->(l.flatMap λc=>c.cells.toList).length=l.length*sz:=by
   intro l;induction l with
   |nil=>simp
   |cons c l ih=>intro V;simp only[I0,Ag,DM,V c (by simp),ih (λd I=>V d (CC _ I)),BV,Ge];omega
  rw[this g y,U]
 have al: ∀(j:Nat) (c:Value) (q:Nat) (d:Value),g[j]? =some c->c.cells[q]? =some d->(g.flatMap λc=>c.cells.toList)[j*sz+q]? =some d:=by
  have: ∀(l:List Value),(∀c∈l,c.cells.size=sz)-> ∀(j:Nat) (c:Value) (q:Nat) (d:Value),l[j]? =some c->c.cells[q]? =some d->(l.flatMap λc=>c.cells.toList)[j*sz+q]? =some d:=by
   intro l;induction l with
   |nil=>intro _ j c q d B;simp at B
   |cons c0 l ih=>
    intro V j c q d B I;simp only[I0];have h0:=V c0 (by simp);cases j with
    |zero=>simp at B;subst B;rw[Nat.zero_mul,D6,B6 (by rcases Ap q c0.cells.size with r|r;simpa using r;rw[Array.getElem?_eq_none r]at I;cases I)];simpa using I
    |succ j=>rw[Cr (by rw[DM,h0,Ge];omega),DM,h0];rw[show(j+1)*sz+q-sz=j*sz+q from by rw[Ge];omega];exact ih (λd I=>V d (CC _ I)) j c q d (by simpa using B) I
  exact this g y
 have F: ∃m:Array Value,(execOp a.eval o).run P w= .ok (.value (.slice (some ⟨w.heap.size,0,none⟩) len len)) {w with heap:=w.heap.push (.cells m e)}/\m.toList=g.flatMap λc=>c.cells.toList:=by
  unfold execOp;rw[ho];by_cases h0:len=0;subst h0;have:g=[]:=EJ U;refine⟨#[],?_,by rw[this];rfl⟩;have Z:f= #[]:=by have n:=congrArg List.length C;simp at n;exact n
  simp[Instr.buildSlice,run_underlying a2,KD hi,Z,Instr.fill,newRow,show Array.range 0= #[]from rfl];refine⟨(g.flatMap λc=>c.cells.toList).toArray,?_,rfl⟩;have ar: ¬len*i.size=0:=by rw[A];exact Nat.mul_ne_zero h0 (by omega)
  have a7: ¬len*i.size>2^24:=by rw[A];have:=fM L.1 L.2;omega
  have hf:=Go.Great.fill_whole (s:=sz) a1 g ((Array.range (len*i.size)).map (z.cells[· %z.cells.size]!)) y (by simp[U,A]);have:=run_buildSlice (P:=P) w t e len (f.map λ(q:Nat×Operand)=>(q.1,a.eval q.2)) _ i z a2 D hz a7 ar (by rw[R,A]at*;exact hf);simp only[Sem.run_bind];rw[show(f.map λx=>match x with|(i,x)=>(i,a.eval x))=(f.map λ(q:Nat×Operand)=>(q.1,a.eval q.2))from rfl,this];rfl
 obtain⟨m,F,ad⟩:=F;unfold Oper.wp;rw[F,Oper.upon_value];have a0:=s.sim.grow (w':={w with heap:=w.heap.push (.cells m e)}) rfl rfl rfl (by simp) (λk hk=>by simp[TX,BQ hk]);have J:=HT.grow (h:=h) (H:=H) (w:=w) (w':={w with heap:=w.heap.push (.cells m e)}) rfl rfl rfl (by simp) (λk hk=>by simp[TX,BQ hk]);refine⟨_,_,h,H,rfl,hk,?_,a0,J⟩;subst V;refine .vs (λj q=>((g.getD j undef).cells.getD q undef)) (Ak _) a1 (λj v B=>(O v (BJ B)).2) (λap=>⟨w.heap.size,0,rfl,?_,by simp[cx],λj v q u B hq=>?_⟩) λj v q u B hq=>?_;rintro(hX|ho);have:=(s.sim.out _ hX).1;omega;obtain⟨id,e1,n,ap,r⟩:=ho;have:=s.sim.io_at n ap r;omega;all_goals
  have E:j<g.length:=by rcases Ap j W.length with r|r;omega;rw[Cs r]at B;cases B
  have S:g[j]? =some (g[j]):=Az E;have a4:g.getD j undef=g[j]:=by simp[I1,S]
  obtain⟨r1,r2⟩:=M j v _ B S;rw[a4];cases r1 with
  |agg hs n G=>
   have ax:q<(g[j]).cells.size:=by rcases Ap q v.cells.length with r|r;omega;rw[Cs r]at hq;cases hq
   have T:(g[j]).cells[q]? =some ((g[j]).cells[q]):=PA ax;have a3:(g[j]).cells.getD q undef=(g[j]).cells[q]:=by simp[ax]
   rw[a3];first
    |exact(G q u _ hq T).later (J.later X)
    |(refine⟨?_,n q _ T⟩
      have hb:(w.heap.push (.cells m e))[w.heap.size]? =some (.cells m e (0,0)):=by simp
      rw[D6];show World.cell? {w with heap:=w.heap.push (.cells m e)} _=_;rw[OV (w:={w with heap:=w.heap.push (.cells m e)}) hb,<-PX,ad];exact al j _ q _ S T)
end
end Go.Ab
