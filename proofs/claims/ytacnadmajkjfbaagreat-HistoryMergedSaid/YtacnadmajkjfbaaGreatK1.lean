/- A layer over the model in which values are trees: its laws and a typed interpreter, part 1. Texts of the folder wip, laid in few files with shorter names by a program (wip/tools/pack.py); nothing is assumed. -/
import Derived.Calls
import Derived.Below
import Derived.RangeFuncRecord
import Derived.OrdersIn
import Derived.Lib.FrozenHead
import Derived.Orders
import Derived.Laws.Cells
import Derived.Laws.Entries
import Derived.Laws.StructEq
import Derived.ChangeKeysEq
import Derived.Laws.BytesString
import Derived.Laws.Tables
import Derived.Great.FillDense
import Derived.Great.BuildSlice
set_option linter.unusedVariables false
set_option linter.unusedSimpArgs false
set_option linter.unusedSectionVars false
set_option linter.defProp false
namespace Go
def gO:=@Array.extract_size
def JK:=@Array.getD_eq_getD_getElem?
def VT:=@Array.getElem?_append_left
def gP:=@Array.getElem?_append_right
def H9:=@Array.getElem?_eq_getElem
def lL:=@Array.getElem?_eq_none
def pY:=@Array.getElem?_eq_none_iff
def VU:=@Array.getElem?_eq_some_iff
def pZ:=@Array.getElem?_extract
def VV:=@Array.getElem?_map
def YM:=@Array.getElem?_modify
def LK:=@Array.getElem?_push
def YN:=@Array.getElem?_setIfInBounds_ne
def dr:=@Array.getElem?_setIfInBounds_self_of_lt
def LL:=@Array.getElem?_toList
def DF:=@Array.length_toList
def U0:=@Array.mem_of_getElem?
def dt:=@Array.mem_toList_iff
def iR:=@Array.size_append
def iS:=@Array.size_map
def du:=@Array.size_setIfInBounds
def iT:=@Array.toList_map
def iU:=@BitVec.eq_of_getLsbD_eq
def nI:=@BitVec.eq_of_toNat_eq
def TL:=@BitVec.ofInt_natCast
def iV:=@BitVec.toNat_and
def Oe:=@BitVec.toNat_ofNat
def YO:=@BitVec.xor_assoc
def U1:=@BitVec.xor_self
def YP:=@BitVec.zero_xor
def BM:=@Bool.and_eq_true
def Pe:=@Bool.and_self
def Of:=@Bool.and_true
def F3:=@Bool.false_eq_true
def RP:=@Bool.not_eq_true'
def TM:=@Bool.not_false
def iW:=@Bool.not_not
def D9:=@Bool.not_true
def iX:=@Bool.or_eq_true
def iY:=@Bool.true_eq_false
def U2:=@Decidable.byContradiction
def iZ:=@Int.ediv_ediv_of_nonneg
def Er:=@Int.eq_ofNat_of_zero_le
def YQ:=@Int.fdiv_eq_ediv_of_nonneg
def Ah:=@Int.le_refl
def dv:=@Int.lt_or_le
def dw:=@Int.mul_ediv_add_emod
def YR:=@Int.tmod_lt_of_pos
def YS:=@Int.tmod_nonneg
def DP:=@Int.toNat_natCast
def nJ:=@List.Pairwise.imp_of_mem
def nK:=@List.Perm.eq_of_pairwise
def YT:=@List.all_cons
def DG:=@List.all_eq_true
def ia:=@List.all_nil
def ib:=@List.any_eq_false
def TN:=@List.any_eq_true
def Ax:=@List.append_assoc
def ic:=@List.append_eq_append_iff
def Ju:=@List.append_inj
def DQ:=@List.append_nil
def Dg:=@List.cons_append
def YU:=@List.drop_append
def nL:=@List.drop_append_of_le_length
def LM:=@List.drop_drop
def U3:=@List.drop_eq_getElem_cons
def dx:=@List.drop_eq_nil_of_le
def Jv:=@List.drop_left
def nM:=@List.drop_of_length_le
def YV:=@List.drop_succ_cons
def TO:=@List.drop_zero
def EA:=@List.eq_nil_of_length_eq_zero
def M6:=@List.ext_getElem?
def nN:=@List.extract_eq_take_drop
def ii:=@List.filterMap_append
def ij:=@List.filterMap_cons
def LN:=@List.filter_append
def Jw:=@List.filter_cons
def ik:=@List.filter_cons_of_neg
def il:=@List.filter_cons_of_pos
def im:=@List.filter_nil
def U4:=@List.flatMap_append
def Es:=@List.flatMap_cons
def dy:=@List.flatMap_def
def iq:=@List.flatMap_nil
def TQ:=@List.flatten_cons
def dz:=@List.foldl_append
def TR:=@List.foldl_cons
def Dr:=@List.getD_eq_getElem?_getD
def BW:=@List.getElem?_append_left
def CG:=@List.getElem?_append_right
def eA:=@List.getElem?_cons_succ
def M7:=@List.getElem?_cons_zero
def Hm:=@List.getElem?_drop
def Ay:=@List.getElem?_eq_getElem
def BP:=@List.getElem?_eq_none
def Pf:=@List.getElem?_eq_some_iff
def Bb:=@List.getElem?_map
def RQ:=@List.getElem?_of_mem
def M8:=@List.getElem?_range
def TF:=@List.getElem?_set
def C1:=@List.getElem?_set_ne
def EI:=@List.getElem?_set_self
def IP:=@List.getElem?_take
def fQ:=@List.getElem?_toArray
def fR:=@List.getElem?_zip_eq_some
def Nw:=@List.getElem_mem
def fS:=@List.head?_drop
def fT:=@List.head?_take
def Ad:=@List.length_append
def BC:=@List.length_cons
def Fc:=@List.length_drop
def J4:=@List.length_filter_le
def Cm:=@List.length_map
def BH:=@List.length_nil
def Zw:=@List.length_set
def Cn:=@List.length_take
def HU:=@List.map_append
def Fe:=@List.map_congr_left
def BE:=@List.map_cons
def Zx:=@List.map_id
def HV:=@List.map_map
def G3:=@List.map_nil
def PD:=@List.map_toArray
def Ar:=@List.mem_append
def Q1:=@List.mem_append_left
def Al:=@List.mem_cons
def Bq:=@List.mem_cons_of_mem
def Gi:=@List.mem_cons_self
def Bi:=@List.mem_filter
def Nx:=@List.mem_filterMap
def HW:=@List.mem_flatMap
def PE:=@List.mem_iff_getElem
def G4:=@List.mem_iff_getElem?
def BX:=@List.mem_map
def Ny:=@List.mem_map_of_mem
def BV:=@List.mem_of_getElem?
def TG:=@List.mem_of_mem_drop
def ME:=@List.mem_of_mem_take
def Q2:=@List.mem_or_eq_of_mem_set
def G5:=@List.mem_range
def A5:=@List.mem_singleton
def lI:=@List.mem_zipIdx_iff_getElem?
def CA:=@List.nil_append
def PF:=@List.nodup_append
def FF:=@List.nodup_cons
def Nz:=@List.nodup_iff_pairwise_ne
def PG:=@List.nodup_nil
def Zy:=@List.not_mem_nil
def JE:=@List.pairwise_iff_getElem
def Q3:=@List.pairwise_map
def fU:=@List.perm_ext_iff_of_nodup
def TH:=@List.replicate_succ
def TI:=@List.set_append_right
def Zz:=@List.set_set
def lJ:=@List.singleton_append
def TJ:=@List.size_toArray
def Q4:=@List.sum_cons
def Ff:=@List.take_add_one
def fV:=@List.take_append
def FG:=@List.take_append_drop
def lK:=@List.take_append_of_le_length
def TK:=@List.take_left
def J5:=@List.take_left'
def fW:=@List.take_length
def Dq:=@List.take_of_length_le
def Z0:=@List.take_succ_cons
def Z1:=@List.zip_append
def Q5:=@List.zip_cons_cons
def fX:=@List.zip_nil_left
def PH:=@Nat.add_assoc
def Z2:=@Nat.add_comm
def EJ:=@Nat.add_mul
def fY:=@Nat.add_sub_cancel
def VJ:=@Nat.add_sub_cancel_left
def N0:=@Nat.add_zero
def fZ:=@Nat.and_le_right
def Ds:=@Nat.beq_refl
def Ba:=@Nat.eq_of_beq_eq_true
def Q6:=@Nat.eq_zero_or_pos
def JF:=@Nat.le_of_ble_eq_true
def Aj:=@Nat.le_refl
def D4:=@Nat.le_trans
def DD:=@Nat.lt_of_lt_of_le
def Ag:=@Nat.lt_or_ge
def Q7:=@Nat.lt_trichotomy
def PI:=@Nat.mod_eq_of_lt
def VL:=@Nat.mod_lt
def fa:=@Nat.mul_le_mul
def PJ:=@Nat.mul_le_mul_right
def BS:=@Nat.ne_of_lt
def Z3:=@Nat.pow_add
def VM:=@Nat.pow_le_pow_right
def G6:=@Nat.sub_self
def VN:=@Nat.succ_mul
def DE:=@Nat.zero_add
def Cc:=@Nat.zero_le
def Dt:=@Option.bind_eq_some_iff
def AJ:=@Option.bind_some
def PK:=@Option.getD_some
def VO:=@Option.isSome_iff_exists
def VP:=@Option.map_eq_some_iff
def fb:=@Option.map_none
def BB:=@Option.map_some
def C2:=@Option.some.inj
def AV:=@Option.some.injEq
def J6:=@Option.toList_some
def F9:=@Prod.ext
def fe:=@Prod.ext_iff
def Br:=@Prod.mk.injEq
def VQ:=@Sum.elim_inr
def VS:=@UInt8.toNat_ofNat'
end Go
namespace Go.Ab
inductive AW where
 |bool (b:Bool)
 |int (k:IntKind) (n:Int)
 |str (s:List UInt8)
 |nilp
 |ptr (id g off:Nat)
 |vptr (cs:List AW)
 |nils
 |vs (sz:Nat) (rows:List AW)
 |sl (id g sz off len:Nat)
 |fn (f:Fn) (first caps:List AW)
 |yf (id:Nat)
 |mp (id:Nat)
 |itp (id m:Nat)
 |nilf
 |agg (cs:List AW)
 |tup (vs:List AW)
 |any
 deriving Inhabited
def AW.cells:AW->List AW
 | .agg cs=>cs
 |v=>[v]
structure Cx where
 w:World
 n:Nat
 io:Nat->Option Nat
 gen:Nat->Nat
 cap:Nat->Nat
 O:Nat->Prop
inductive Bh(x:Cx):AW->Value->Prop where
 |bool (b:Bool):Bh x (.bool b) (.bool b)
 |int (k:IntKind) (n:Int):Bh x (.int k n) (.int k n)
 |str {s:List UInt8} (t:ByteArray) (h:t.data.toList=s):Bh x (.str s) (.string t)
 |nilp:Bh x .nilp (.pointer none)
 |ptr {id g off:Nat} {c:Value} (hid:id<x.n) (hg:g≤x.gen id) (h1:c.oneCell'=true)
   (hc:x.gen id=g-> ∃B,x.io id=some B/\c= .pointer (some ⟨B,off,none⟩)):Bh x (.ptr id g off) c
 |vptr {cs:List AW} {B off:Nat} (f:Nat→Value) (hO: ¬x.O B) (hB:B<x.w.heap.size)
   (hc: ∀(j:Nat) (v:AW),cs[j]? =some v->x.w.cell? ⟨B,off+j,none⟩=some (f j)/\(f j).oneCell'=true)
   (hv: ∀(j:Nat) (v:AW),cs[j]? =some v->Bh x v (f j)):Bh x (.vptr cs) (.pointer (some ⟨B,off,none⟩))
 |nils:Bh x .nils (.slice none 0 0)
 |vs {sz:Nat} {rows:List AW} {a:Option Addr} {cap:Nat} (f:Nat→Nat→Value) (hcap:rows.length≤cap) (hsz:0<sz)
   (hrow: ∀(j:Nat) (e:AW),rows[j]? =some e->e.cells.length=sz)
   (ha:rows≠ []-> ∃B off,a=some ⟨B,off,none⟩/\ ¬x.O B/\B<x.w.heap.size/\
    ∀(j:Nat) (e:AW) (i:Nat) (v:AW),rows[j]? =some e->e.cells[i]? =some v->x.w.cell? ⟨B,off+(j*sz+i),none⟩=some (f j i)/\(f j i).oneCell'=true)
   (hv: ∀(j:Nat) (e:AW) (i:Nat) (v:AW),rows[j]? =some e->e.cells[i]? =some v->Bh x v (f j i)):Bh x (.vs sz rows) (.slice a rows.length cap)
 |sl {id g sz off len:Nat} {c:Value} (hid:id<x.n) (hg:g≤x.gen id) (h1: ∃a cap,c= .slice a len cap)
   (hc:x.gen id=g->(x.io id=none/\len=0/\off=0/\c= .slice none 0 0)\/
    ∃B cap,x.io id=some B/\len<=cap/\off+cap*sz<=x.cap id/\c= .slice (some ⟨B,off,none⟩) len cap):Bh x (.sl id g sz off len) c
 |fn {f:Fn} {first caps:List AW} {first' caps':Array Value} (h1:first'.size=first.length) (h2:caps'.size=caps.length)
   (hv1: ∀(j:Nat) (v:AW) (c:Value),first[j]? =some v->first'[j]? =some c->Bh x v c) (hv2: ∀(j:Nat) (v:AW) (c:Value),caps[j]? =some v->caps'[j]? =some c->Bh x v c):
   Bh x (.fn f first caps) (.func f first' caps')
 |yf {id:Nat} {c:Value} (hid:id<x.n) (h1:c.oneCell'=true) (hc:x.gen id=0-> ∃B,x.io id=some B/\c= .func (.yield B) #[] #[]):Bh x (.yf id) c
 |mp {id:Nat} {c:Value} (hid:id<x.n) (h1:c.oneCell'=true) (hc:x.gen id=0-> ∃B,x.io id=some B/\c= .map (some B)):Bh x (.mp id) c
 |itp {id m:Nat} {c:Value} (hid:id<x.n) (hm:m<x.n) (h1:c.oneCell'=true) (hc:x.gen id=0-> ∃B,x.io id=some B/\c= .pointer (some ⟨B,0,none⟩)/\(x.gen m=0->x.io m=some (x.cap id))):Bh x (.itp id m) c
 |nilf:Bh x .nilf .nilFunc
 |agg {cs:List AW} {cs':Array Value} (h:cs'.size=cs.length) (h1: ∀(j:Nat) (c:Value),cs'[j]? =some c→c.oneCell'=true)
   (hv: ∀(j:Nat) (v:AW) (c:Value),cs[j]? =some v->cs'[j]? =some c->Bh x v c):Bh x (.agg cs) (.agg cs')
 |tup {vs:List AW} {vs':Array Value} (h:vs'.size=vs.length)
   (hv: ∀(j:Nat) (v:AW) (c:Value),vs[j]? =some v->vs'[j]? =some c->Bh x v c):Bh x (.tup vs) (.tuple vs')
 |any (c:Value):Bh x .any c
structure Cx.Later(x y:Cx):Prop where
 size:x.w.heap.size<=y.w.heap.size
 keep: ∀B,B<x.w.heap.size-> ¬x.O B-> ∀off,y.w.cell? ⟨B,off,none⟩=x.w.cell? ⟨B,off,none⟩
 own: ∀B,B<x.w.heap.size->y.O B->x.O B
 n:x.n<=y.n
 gen: ∀id,id<x.n->x.gen id<=y.gen id
 same: ∀id,id<x.n->y.gen id=x.gen id->y.io id=x.io id/\y.cap id=x.cap id
def fG{w b:World}{B:Nat}(h:b.heap[B]? =w.heap[B]?)(a:Nat):b.cell? ⟨B,a,none⟩=w.cell? ⟨B,a,none⟩:=by unfold World.cell?;rw[h]
def Bh.later{x y:Cx}(h:x.Later y){v:AW}{c:Value}(r:Bh x v c):Bh y v c:=by
 induction r with
 |bool b=>exact .bool b
 |int k n=>exact .int k n
 |str t P=>exact .str t P
 |nilp=>exact .nilp
 |ptr g D l s=>refine .ptr (DD g h.n) (D4 D (h.gen _ g)) l λe=>?_;have l:=h.gen _ g;have q:=h.same _ g (by omega);obtain⟨B,m,u⟩:=s (by omega);exact⟨B,q.1.trans m,u⟩
 |vptr f z m s Q w=>refine .vptr f (λo=>z (h.own _ m o)) (DD m h.size) (λj v E=>?_) w;rw[h.keep _ m z];exact s j v E
 |nils=>exact .nils
 |vs f A H C M Q w=>refine .vs f A H C (λG=>?_) w;obtain⟨B,K,e,z,m,s⟩:=M G;refine⟨B,K,e,(λo=>z (h.own _ m o)),DD m h.size,λj e i v E N=>?_⟩;rw[h.keep _ m z];exact s j e i v E N
 |sl g D l s=>
  refine .sl (DD g h.n) (D4 D (h.gen _ g)) l λe=>?_;have l:=h.gen _ g;have q:=h.same _ g (by omega);rcases s (by omega)with⟨a,b⟩|⟨B,cap,a,b,d,p⟩
  ·exact .inl ⟨q.1.trans a,b⟩
  ·exact .inr ⟨B,cap,q.1.trans a,b,by rw[q.2];exact d,p⟩
 |fn l q _ _ I J=>exact .fn l q I J
 |yf g l s=>refine .yf (DD g h.n) l λe=>?_;have l:=h.gen _ g;have q:=h.same _ g (by omega);obtain⟨B,m,u⟩:=s (by omega);exact⟨B,q.1.trans m,u⟩
 |mp g l s=>refine .mp (DD g h.n) l λe=>?_;have l:=h.gen _ g;have q:=h.same _ g (by omega);obtain⟨B,m,u⟩:=s (by omega);exact⟨B,q.1.trans m,u⟩
 |itp g F l s=>refine .itp (DD g h.n) (DD F h.n) l λe=>?_;have l:=h.gen _ g;have q:=h.same _ g (by omega);obtain⟨B,m,u,O⟩:=s (by omega);refine⟨B,q.1.trans m,u,λe=>?_⟩;have R:=h.gen _ F;have L:=h.same _ F (by omega);rw[L.1,q.2];exact O (by omega)
 |nilf=>exact .nilf
 |agg h l _ w=>exact .agg h l w
 |tup h _ w=>exact .tup h w
 |any c=>exact .any c
abbrev Env:=List (Nat×AW)
structure fB where
 n:Nat
 env:Env
 params:Array Tmp
 assign:Code
 body:Code
 state:LoopState
 pending:Option Code
inductive EM where
 |dead
 |live (g:Nat) (cells:List AW)
 |lp (L:fB)
 |bld (T e row:Nat) (l:Option (List UInt8))
 |brow (o:Nat)
 |mp (k:IntKind) (es:List (Int×AW))
 |it (n:Nat) (seen:List Nat)
 deriving Inhabited
def EM.isB:EM->Bool
 | .bld .. =>true
 | .brow _=>true
 | .mp _ _=>true
 | .it _ _=>true
 |_=>false
abbrev Aq:=List EM
structure Gh where
 io:Nat->Option Nat
 gen:Nat->Nat
 cap:Nat->Nat
def owned(h:Gh)(H:Aq)(B:Nat):Prop:= ∃id e,H[id]? =some e/\e≠EM.dead/\h.io id=some B
def cx(X:Nat->Prop)(h:Gh)(H:Aq)(w:World):Cx:=⟨w,H.length,h.io,h.gen,h.cap,λB=>X B\/owned h H B⟩
def tC(x:Cx)(id g:Nat)(cs:List AW):Prop:=
 x.gen id=g/\((x.io id=none/\cs=[])\/ ∃(B:Nat) (arr:Array Value) (T:TypeId) (fz:Nat×Nat) (f:Nat->Value),x.io id=some B/\x.w.heap[B]? =some (.cells arr T fz)/\arr.size=x.cap id/\
  cs.length<=arr.size/\(∀i,i<arr.size->(decide (fz.1<=i)&&decide (i<fz.2))=false)/\
  ∀(j:Nat) (v:AW),cs[j]? =some v->arr[j]? =some (f j)/\(f j).oneCell'=true/\Bh x v (f j))
def oK(x:Cx)(id:Nat)(L:fB):Prop:=
 x.gen id=0/\ ∃(B:Nat) (r:Loop),x.io id=some B/\x.w.heap[B]? =some (.loop r)/\r.state=L.state/\r.pending=L.pending/\r.params=L.params/\r.assign=L.assign/\r.body=L.body/\r.tmps.size=L.n/\
  ∀t v,(t,v)∈L.env->t<L.n/\Bh x v (r.tmps.getD t undef)
def xl(h:Gh)(H:Aq)(w:World)(id:Nat):EM->Prop
 | .bld T e row l=> ∃(B:Nat) (p v:Value),h.io id=some B∧w.heap[B]? =some (.cells #[p,v] T (0,0))∧(p= .pointer none∨p= .pointer (some ⟨B,0,none⟩))∧h.gen id=0∧(l=none→p= .pointer none∧v= .slice none 0 0)∧
   (H[row]? =some (.brow id)->w.ownsRowF 0 e 1 v (l.getD []).length (Lib.byteCells (l.getD []))/\v.ownBlock=h.io row)
 | .brow _=> ∀B,h.io id=some B-> ∃arr T fz,w.heap[B]? =some (.cells arr T fz)
 | .mp k es=> ∃(B:Nat) (arr:Array MapEntry),h.io id=some B∧h.gen id=0∧w.heap[B]? =some (.map arr arr.size)∧arr.size=es.length∧
   ∀(j:Nat) (p:Int×AW),es[j]? =some p-> ∃e:MapEntry,arr[j]? =some e/\e.born=j/\e.key= .int k p.1/\ ∀x,Bh x p.2 e.val
 | .it n seen=> ∃B,h.io id=some B/\h.gen id=0/\w.heap[B]? =some (.mapIter (some (h.cap id)) n seen.toArray n)
 |_=>True
structure Ik(X:Nat->Prop)(h:Gh)(H:Aq)(w:World):Prop where
 out: ∀B,X B->B<w.heap.size/\ ¬owned h H B
 live: ∀(id g:Nat) (cs:List AW),H[id]? =some (EM.live g cs)->tC (cx X h H w) id g cs
 lp: ∀(id:Nat) (L:fB),H[id]? =some (EM.lp L)->oK (cx X h H w) id L
 inj: ∀(id id':Nat) (e e':EM) (B:Nat),H[id]? =some e->H[id']? =some e'->e≠ .dead->e'≠ .dead->h.io id=some B->h.io id'=some B->id=id'
 bld: ∀(id:Nat) (e:EM),H[id]? =some e->e.isB=true->xl h H w id e
def Ik.bldKeep{X:Nat→Prop}{h t:Gh}{H x:Aq}{w M:World}(s:Ik X h H w)
  (key: ∀(a:Nat) (e:EM),x[a]? =some e->e.isB=true->H[a]? =some e/\t.io a=h.io a/\t.gen a=h.gen a/\t.cap a=h.cap a/\ ∀B (o:Obj),h.io a=some B->w.heap[B]? =some o->(∀z,o≠ .deferred z)->M.heap[B]? =w.heap[B]?):
  ∀(a:Nat) (e:EM),x[a]? =some e->e.isB=true->xl t x M a e:=by
 intro a e P J;obtain⟨D,f,d,r,u⟩:=key a e P J;have b:=s.bld a e D J;cases e with
 |bld T U G l=>
  obtain⟨B,p,v,c,m,j,C,O,N⟩:=b;refine⟨B,p,v,f.trans c,(u B _ c m (λz=>by simp)).trans m,j,d.trans C,O,λhr=>?_⟩;obtain⟨E,F,_,_,S⟩:=key G (.brow a) hr rfl;obtain⟨q1,q2⟩:=N E;refine⟨⟨q1.1,?_⟩,q2.trans F.symm⟩;rcases q1.2 with q|⟨g,cap,y,A,rfl,Q,K,R⟩
  ·exact .inl q
  ·refine .inr ⟨g,cap,y,A,rfl,Q,(S g _ ?_ K (λz=>by simp)).trans K,R⟩;simpa[Value.ownBlock]using q2.symm
 |brow o=>intro B I;obtain⟨i,T,A,c⟩:=b B (f▸I);exact⟨i,T,A,(u B _ (f▸I) c (λz=>by simp)).trans c⟩
 |mp k V=>obtain⟨B,i,c,m,j,C⟩:=b;exact⟨B,i,f.trans c,d.trans m,(u B _ c j (λz=>by simp)).trans j,C⟩
 |it n L=>obtain⟨B,c,m,j⟩:=b;exact⟨B,f.trans c,d.trans m,by rw[r];exact(u B _ c j (λz=>by simp)).trans j⟩
 |_=>trivial
def M4(x:Cx)(env:Env)(a:Act):Prop:= ∀t v,(t,v)∈env->t<a.tmps.size/\Bh x v (a.tmps.getD t undef)
structure St(X:Nat->Prop)(h:Gh)(N:Nat)(env:Env)(H:Aq)(a:Act)(w:World):Prop where
 sim:Ik X h H w
 env:M4 (cx X h H w) env a
 size:a.tmps.size=N
structure HS(h:Gh)(H:Aq)(w:World)(h':Gh)(H':Aq)(w':World):Prop where
 os:w'.os=w.os
 tape:w'.tape=w.tape
 output:w'.output=w.output
 size:w.heap.size<=w'.heap.size
 keep: ∀B,B<w.heap.size-> ¬owned h H B->w'.heap[B]? =w.heap[B]?
 n:H.length<=H'.length
 gen: ∀id,id<H.length->h.gen id<=h'.gen id
 same: ∀id,id<H.length->h'.gen id=h.gen id->h'.io id=h.io id/\h'.cap id=h.cap id
 fresh: ∀B,owned h' H' B->owned h H B\/w.heap.size<=B
 loops: ∀(B:Nat) (r:Loop),w.heap[B]? =some (.loop r)-> ∃r':Loop,w'.heap[B]? =some (.loop r')
def HS.refl(h:Gh)(H:Aq)(w:World):HS h H w h H w:=⟨rfl,rfl,rfl,Aj _,λ_ _ _=>rfl,Aj _,λ_ _=>Aj _,λ_ _ _=>⟨rfl,rfl⟩,λ_ h=>.inl h,λ_ r h=>⟨r,h⟩⟩
def HS.trans{c j k:Gh}{f g i:Aq}{l m o:World}(a:HS c f l j g m)(b:HS j g m k i o):HS c f l k i o where
 os:=b.os.trans a.os
 tape:=b.tape.trans a.tape
 output:=b.output.trans a.output
 size:=D4 a.size b.size
 keep B hB hn:=(b.keep B (DD hB a.size) λd=>by
  rcases a.fresh B d with h|h
  ·exact hn h
  ·omega).trans (a.keep B hB hn)
 n:=D4 a.n b.n
 gen id hid:=D4 (a.gen id hid) (b.gen id (DD hid a.n))
 same id hid e:=by have q:=a.gen id hid;have s:=b.gen id (DD hid a.n);have u:=a.same id hid (by omega);have v:=b.same id (DD hid a.n) (by omega);exact⟨v.1.trans u.1,v.2.trans u.2⟩
 fresh B d:=by
  rcases b.fresh B d with h|h
  ·exact a.fresh B h
  ·exact .inr (D4 a.size h)
 loops B r h:=by obtain⟨p,c⟩:=a.loops B r h;exact b.loops B p c
def HS.later{h c:Gh}{H b:Aq}{w d:World}(e:HS h H w c b d)(X:Nat->Prop):(cx X h H w).Later (cx X c b d)where
 size:=e.size
 keep B hB hO off:=fG (e.keep B hB λa=>hO (.inr a)) off
 own B hB a:=by
  rcases a with a|a
  ·exact .inl a
  ·rcases e.fresh B a with h|h
   ·exact .inr h
   ·simp only[cx]at hB;omega
 n:=e.n
 gen:=e.gen
 same:=e.same
def M4.later{x y:Cx}(l:x.Later y){env:Env}{a:Act}(h:M4 x env a):M4 y env a:=λt v m=>⟨(h t v m).1,(h t v m).2.later l⟩
def Eo(P:Program)(F:FuncId)(args:List AW)(H:Aq)(Q:AW->Aq->Prop):Prop:=
 ∀(X:Nat->Prop) (h:Gh) (w:World) (cargs:Array Value),Ik X h H w->cargs.size=args.length->
  (∀(j:Nat) (v:AW) (c:Value),args[j]? =some v->cargs[j]? =some c->Bh (cx X h H w) v c)->
  Calls P F cargs w λe w'=> ∃c v h' H',e= .returned c/\Q v H'/\Ik X h' H' w'/\Bh (cx X h' H' w') v c/\HS h H w h' H' w'
def FR(r:Option Nat):Fence:={Fence.wide with round:=r}
def XB(a:Act)(w:World)(a':Act)(w':World):Prop:=
 ∃ds,a'.defers=ds++a.defers/\ds.Nodup/\ ∀d∈ds,∃D,d={target:=.collected D,args:= #[]}/\w.heap.size<=D/\w'.heap[D]? =some (.deferred (some []))
def gN(r:Option Nat)(w:World):Prop:= ∀l,r=some l-> ∃x:Loop,w.heap[l]? =some (.loop x)
def XB.same{a b:Act}{w c:World}(h:b.defers=a.defers):XB a w b c:=⟨[],by simp[h],.nil,λ_ h=>by cases h⟩
def Ik.deferred{X:Nat->Prop}{h:Gh}{H:Aq}{w:World}(s:Ik X h H w){D:Nat}{x:Option (List Deferred)}(j:w.heap[D]? =some (.deferred x)): ¬owned h H D:=by
 rintro⟨c,e,m,u,b⟩;cases e with
 |dead=>exact u rfl
 |live g z=>
  rcases(s.live c g z m).2 with⟨hn,_⟩|⟨B,q,T,A,f,a,t,_⟩
  ·rw[show(cx X h H w).io c=h.io c from rfl,b]at hn;cases hn
  ·rw[show(cx X h H w).io c=h.io c from rfl,b]at a;injection a with e;subst e;rw[show(cx X h H w).w.heap=w.heap from rfl,j]at t;cases t
 |lp L=>obtain⟨_,B,r,a,t,_⟩:=s.lp c L m;rw[show(cx X h H w).io c=h.io c from rfl,b]at a;injection a with e;subst e;rw[show(cx X h H w).w.heap=w.heap from rfl,j]at t;cases t
 |bld T E C l=>obtain⟨B,p,v,i,d,_⟩:=s.bld c _ m rfl;rw[b]at i;injection i with e;subst e;rw[j]at d;cases d
 |brow o=>obtain⟨q,T,A,d⟩:=s.bld c _ m rfl D b;rw[j]at d;cases d
 |mp k F=>obtain⟨B,q,i,_,d,_⟩:=s.bld c _ m rfl;rw[b]at i;injection i with e;subst e;rw[j]at d;cases d
 |it n y=>obtain⟨B,i,_,d⟩:=s.bld c _ m rfl;rw[b]at i;injection i with e;subst e;rw[j]at d;cases d
def bU{w:World}{D:Nat}{o:Obj}(h:w.heap[D]? =some o):D<w.heap.size:=(VU.1 h).1
def HS.defs{X:Nat->Prop}{h d:Gh}{H c:Aq}{w b:World}(x:HS h H w d c b)(s:Ik X h H w){D:Nat}{y:Option (List Deferred)}(a:w.heap[D]? =some (.deferred y)):b.heap[D]? =some (.deferred y):=(x.keep D (bU a) (s.deferred a)).trans a
def XB.trans{X:Nat->Prop}{h l c:Gh}{H i r:Aq}{a a1 a2:Act}{w g o:World}(t:XB a w a1 g)(s:Ik X l i g)(C:HS h H w l i g)(x:HS l i g c r o)(u:XB a1 g a2 o):XB a w a2 o:=by
 obtain⟨j,v,A,p⟩:=t;obtain⟨k,y,B,q⟩:=u;refine⟨k++j,by rw[y,v,Ax],PF.2 ⟨B,A,λd n F m z=>?_⟩,λd f=>?_⟩
 ·subst z;obtain⟨D,rfl,c,_⟩:=q d n;obtain⟨E,b,_,e⟩:=p _ m;simp only[Deferred.mk.injEq,Target.collected.injEq,and_true]at b;subst b;have:=bU e;omega
 rcases Ar.1 f with f|f
 ·obtain⟨D,b,c,e⟩:=q d f;exact⟨D,b,D4 C.size c,e⟩
 ·obtain⟨D,b,c,e⟩:=p d f;exact⟨D,b,c,x.defs s e⟩
def gN.later{r:Option Nat}{h c:Gh}{H b:Aq}{w a:World}(k:gN r w)(x:HS h H w c b a):gN r a:=λl e=>by obtain⟨y,d⟩:=k l e;exact x.loops l y d
def MA(P:Program)(N:Nat)(c:Code)(env:Env)(H:Aq)(Q:Exit->Env->Aq->Prop):Prop:=
 ∀(r:Option Nat) (X:Nat->Prop) (h:Gh) (a:Act) (w:World),St X h N env H a w->gN r w->
  c.wpIn (FR r) 0 P (λe a' w'=> ∃h' env' H',Q e env' H'/\St X h' N env' H' a' w'/\HS h H w h' H' w'/\XB a w a' w') a w
def Eo.mono{P:Program}{F:FuncId}{args:List AW}{H:Aq}{Q d:AW->Aq->Prop}(h:Eo P F args H Q)(i: ∀v b,Q v b->d v b):Eo P F args H d:=λX g w a s j hr=>(h X g w a s j hr).mono λ_ _ ⟨c,v,f,b,e,q,r⟩=>⟨c,v,f,b,e,i _ _ q,r⟩
def MA.mono{P:Program}{N:Nat}{c:Code}{env:Env}{H:Aq}{Q f:Exit->Env->Aq->Prop}(h:MA P N c env H Q)(j: ∀e b d,Q e b d->f e b d):MA P N c env H f:=λr X g a w s k=>wpIn_mono (h r X g a w s k) λ_ _ _ ⟨i,b,d,q,r⟩=>⟨i,b,d,j _ _ _ q,r⟩
def oI(K:Env->Aq->Prop)(Q:Exit->Env->Aq->Prop):Exit->Env->Aq->Prop
 | .normal,env,H=>K env H
 |e,env,H=>Q e env H
def iv(id:Nat)(Q:Exit->Env->Aq->Prop):Exit->Env->Aq->Prop
 | .exit id',env,H=>if id'=id then Q .normal env H else Q (.exit id') env H
 |e,env,H=>Q e env H
section rules
variable {P:Program} {N:Nat} {env:Env} {H:Aq} {Q:Exit->Env->Aq->Prop}
def MA.skip(h:Q .normal env H):MA P N .skip env H Q:=λ_ _ _ _ _ s _=>wpIn_skip ⟨_,_,_,h,s,HS.refl _ _ _,.same rfl⟩
def MA.ret(h:Q .ret env H):MA P N .ret env H Q:=λ_ _ _ _ _ s _=>wpIn_ret ⟨_,_,_,h,s,HS.refl _ _ _,.same rfl⟩
def MA.exit{a:Nat}(h:Q (.exit a) env H):MA P N (.exit a) env H Q:=λ_ _ _ _ _ s _=>wpIn_exit ⟨_,_,_,h,s,HS.refl _ _ _,.same rfl⟩
def MA.seq{x y:Code}(h:MA P N x env H (oI (λb d=>MA P N y b d Q) Q)):MA P N (.seq x y) env H Q:=by
 intro r X g a w s k;refine wpIn_seq (wpIn_mono (h r X g a w s k) ?_);rintro e n u ⟨j,b,d,q,f,c,i⟩;cases e with
 |normal=>apply wpIn_mono (q r X j n u f (k.later c));rintro e a2 v ⟨p,env2,m,q2,t,l,o⟩;exact⟨p,env2,m,q2,t,c.trans l,i.trans f.sim c l o⟩
 |_=>exact⟨j,b,d,q,f,c,i⟩
def MA.block{j:Nat}{c:Code}(h:MA P N c env H (iv j Q)):MA P N (.block j c) env H Q:=by
 intro r X g a w s k;refine wpIn_block (wpIn_mono (h r X g a w s k) ?_);rintro e m n ⟨f,b,d,q,r⟩;cases e with
 |exit l=>
  simp only[iv]at q;simp only[Exit.inBlock];split
  ·rename_i i;rw[if_pos i]at q;exact⟨f,b,d,q,r⟩
  ·rename_i i;rw[if_neg i]at q;exact⟨f,b,d,q,r⟩
 |_=>exact⟨f,b,d,q,r⟩
def F6(N n0:Nat)(env:Env)(H:Aq)(env2:Env)(H2:Aq):Prop:=
 n0<=H2.length/\ ∀(X:Nat->Prop) (h:Gh) (a:Act) (w:World),St X h N env H a w->
  ∃h2,St X h2 N env2 H2 a w/\(∀id,id<n0->h2.gen id=h.gen id/\h2.io id=h.io id/\h2.cap id=h.cap id)/\ ∀B,owned h2 H2 B->owned h H B
def F6.ext{j:Nat}{i:Aq}{k h f:Gh}{g:Aq}{m w:World}(hn:g.length=j)(p:j≤i.length)
  (l: ∀d,d<j->f.gen d=h.gen d/\f.io d=h.io d/\f.cap d=h.cap d) (o: ∀B,owned f i B->owned h H B) (x:HS k g m h H w):HS k g m f i w where
 os:=x.os
 tape:=x.tape
 output:=x.output
 size:=x.size
 keep:=x.keep
 n:=by omega
 gen d hid:=by rw[(l d (by omega)).1];exact x.gen d hid
 same d hid e:=by obtain⟨a,b,c⟩:=l d (by omega);rw[a]at e;rw[b,c];exact x.same d hid e
 fresh B hB:=x.fresh B (o B hB)
 loops:=x.loops
def F6.refl(N:Nat)(env:Env)(H:Aq):F6 N H.length env H env H:=⟨Aj _,λ_ h _ _ s=>⟨h,s,λ_ _=>⟨rfl,rfl,rfl⟩,λ_ h=>h⟩⟩
def MA.weak{c:Code}{env2:Env}{d:Aq}(f:F6 N H.length env H env2 d)(h:MA P N c env2 d Q):MA P N c env H Q:=by intro r X g a w s k;obtain⟨m,t,n,o⟩:=f.2 X g a w s;apply wpIn_mono (h r X m a w t k);rintro e v x ⟨l,b,i,q,p,u,j⟩;exact⟨l,b,i,q,p,(F6.ext rfl f.1 n o (HS.refl g H w)).trans u,j⟩
end rules
def Env.get:Env->Nat->AW
 |[],_=>.any
 |(k,v)::r,t=>if k=t then v else Env.get r t
def Env.put(env:Env)(t:Nat)(v:AW):Env:=(t,v)::env.filter λp=>decide (p.1≠t)
def Env.putO(env:Env):Option Nat->AW->Env
 |some t,v=>env.put t v
 |none,_=>env
def NF{env:Env}{t:Nat}:Env.get env t= .any\/(t,Env.get env t)∈env:=by
 induction env with
 |nil=>exact .inl rfl
 |cons p r a=>
  obtain⟨k,v⟩:=p;by_cases h:k=t
  ·subst h;exact .inr (by simp[Env.get])
  ·simp only[Env.get,if_neg h];rcases a with h|h
   ·exact .inl h
   ·exact .inr (Bq _ h)
def jz:Value->AW
 | .bool b=>.bool b
 | .int k n=>.int k n
 | .string s=>.str s.data.toList
 | .pointer none=>.nilp
 | .slice none 0 0=>.nils
 | .nilFunc=>.nilf
 |_=>.any
def ub:Value->AW
 | .agg cs=>if cs.toList.all (·.oneCell')then .agg (cs.toList.map jz)else .any
 |v=>jz v
def jE(x:Cx)(v:Value):Bh x (jz v) v:=by
 unfold jz;split
 ·exact .bool _
 ·exact .int _ _
 ·exact .str _ rfl
 ·exact .nilp
 ·exact .nils
 ·exact .nilf
 ·exact .any _
def px(x:Cx)(v:Value):Bh x (ub v) v:=by
 unfold ub;split
 ·rename_i d;split
  ·rename_i h;refine .agg (by simp) (λj c a=>?_) λj v c a b=>?_
   ·rw[DG]at h;exact h c (by rw[dt];exact U0 a)
   ·rw[Bb]at a;rw[LL,b]at a;simp only[BB,AV]at a;subst a;exact jE x c
  ·exact .any _
 ·exact jE x _
def A8(env:Env):Operand->AW
 | .tmp t=>env.get t
 | .const v=>ub v
 | .global _=>.any
 | .func f=>.fn (.func f) [] []
def DR{x:Cx}{env:Env}{a:Act}(h:M4 x env a)(o:Operand):Bh x (A8 env o) (a.eval o):=by
 cases o with
 |tmp t=>
  rcases NF (env:=env) (t:=t)with e|m
  ·simp only[A8,e];exact .any _
  ·exact(h _ _ m).2
 |const v=>exact px x v
 |global g=>exact .any _
 |func f=>exact .fn rfl rfl (λ_ _ _ h=>by simp at h) (λ_ _ _ h=>by simp at h)
def M4.put{x:Cx}{env:Env}{a:Act}(h:M4 x env a){d:Nat}{v:AW}{c:Value}(f:d<a.tmps.size)(l:Bh x v c):M4 x (env.put d v) (a.put (some d) c):=by
 intro t u m;simp only[Act.put,du];unfold Env.put at m;rcases Al.1 m with e|m
 ·injection e with g i;subst g i;refine⟨f,?_⟩;simpa[JK,f]using l
 ·rw[Bi]at m;obtain⟨m,b⟩:=m;have b:t≠d:=by simpa using b
  obtain⟨j,k⟩:=h t u m;refine⟨j,?_⟩;have:(a.tmps.setIfInBounds d c).getD t undef=a.tmps.getD t undef:=by rw[JK,JK,YN (λe=>b e.symm)]
  rw[this];exact k
def M4.putO{x:Cx}{env:Env}{a:Act}(h:M4 x env a){d:Option Nat}{v:AW}{c:Value}(b: ∀t,d=some t->t<a.tmps.size)(e:Bh x v c):M4 x (env.putO d v) (a.put d c):=by
 cases d with
 |none=>exact h
 |some d=>exact h.put (b d rfl) e
def Zq(a:Act)(d:Option Nat)(c:Value):(a.put d c).tmps.size=a.tmps.size:=by cases d<;>simp[Act.put]
def Ii(P:Program)(N:Nat)(o:Oper)(env:Env)(H:Aq)(K:AW->Aq->Prop):Prop:=
 ∀(r:Option Nat) (X:Nat->Prop) (h:Gh) (a:Act) (w:World),St X h N env H a w-> ∀Q:Exit->Act->World->Prop,
  Oper.wpIn (FR r) 0 P o a w (λa' w'=> ∃c v h' H',a'=a.put o.dst c/\K v H'/\Bh (cx X h' H' w') v c/\Ik X h' H' w'/\HS h H w h' H' w') Q
def Ii.mono{P:Program}{N:Nat}{o:Oper}{env:Env}{H:Aq}{K d:AW->Aq->Prop}(h:Ii P N o env H K)(i: ∀v b,K v b->d v b):Ii P N o env H d:=λr X g a w s Q=>Oper.wpIn_mono (λ_ _ ⟨c,v,f,b,e,k,r⟩=>⟨c,v,f,b,e,i _ _ k,r⟩) (h r X g a w s Q)
def Op.plain:Op->Bool
 | .defer _=>false
 |_=>true
def Cu{P:Program}{N:Nat}{o:Oper}{env:Env}{H:Aq}{K:AW→Aq→Prop}(n:Op.plain o.op=true)(h: ∀(X:Nat→Prop) (h:Gh) (a:Act) (w:World),St X h N env H a w→ ∀Q:Exit→Act→World→Prop,
  Oper.wp P o a w (λp b=> ∃c v i e,p=a.put o.dst c/\K v e/\Bh (cx X i e b) v c/\Ik X i e b/\HS h H w i e b) Q):Ii P N o env H K:=by
 intro r X g a w s Q;have d:=h X g a w s Q;refine⟨λ_ _=>trivial,?_⟩;rw[Oper.semAt_eq _ _ _ (λc j=>by rw[j]at n;cases n)];unfold Oper.wp at d;generalize (execOp a.eval o).run P w=res at d;have j: ∀{f:FuncId} {args:Array Value} {b:World} {R:Ending->World->Prop},Calls P f args b R->CallsIn (FR r) (0-1) P f args b R:=by
  intro f args b R t;have m:CallsIn Fence.wide (0-1) P f args b R:=callsIn_wide.2 t;cases r with
  |none=>exact m
  |some l=>exact m
 cases res with
 |ok v b=>
  cases v with
  |enter f args=>exact⟨(λh=>by cases h),j d⟩
  |row row args=>refine⟨(λh=>by cases h),λc q _=>?_⟩;obtain⟨v,k,u,y⟩:=d c q;exact⟨v,k,u,stepsIn_wide.2 y⟩
  |round l f tmps assign body=>exact d.elim
  |_=>exact d
 |halt x b=>cases x<;>exact d
def Tw(ops:Array Oper)(env:Env)(j:Nat):AW:=
 match (ops[j]?).bind (·.dst)with
 |some d=>env.get d
 |none=>.any
def VG(ops:Array Oper)(g:Option (Nat×Bool))(env:Env)(A B:Prop):Prop:=
 match g with
 |none=>A
 |some (j,want)=>
  match Tw ops env j with
  | .bool b=>(b=want->A)/\(b=(!want)->B)
  | .tup []=>B
  |_=>False
def On(n:Nat)(ops:List Oper):Bool:=ops.all λo=>match o.dst with|some d=>decide (d<n)|none=>true
def qI{i:Array Oper}{env:Env}{a:Act}{x:Cx}(u:M4 x env a){o:Oper}{A B:Prop}(h:VG i o.guard env A B):
  (Region.wanted o (yielded i a.tmps)=true/\A)\/(Region.wanted o (yielded i a.tmps)=false/\B):=by
 unfold VG at h;unfold Region.wanted;cases v:o.guard with
 |none=>rw[v]at h;exact .inl ⟨rfl,h⟩
 |some p=>
  obtain⟨j,k⟩:=p;rw[v]at h;simp only at h⊢;cases g:Tw i env j with
  |bool b=>
   rw[g]at h;simp only at h;have r:yielded i a.tmps j=some b:=by
    unfold Tw at g;unfold yielded;cases q:(i[j]?).bind (·.dst)with
    |none=>rw[q]at g;simp at g
    |some d=>
     rw[q]at g;simp only at g;simp only[AJ];rcases NF (env:=env) (t:=d)with e|m
     ·rw[e]at g;cases g
     ·rw[g]at m;obtain⟨l,hr⟩:=u _ _ m;have:a.tmps[d]? =some (.bool b):=by
       have f:a.tmps.getD d undef= .bool b:=by generalize a.tmps.getD d undef=c at hr;cases hr;rfl
       rw[JK]at f;rw[H9 l]at f⊢;simpa using f
      rw[this]
   rw[r];by_cases s:b=k
   ·subst s;exact .inl ⟨by simp,h.1 rfl⟩
   ·refine .inr ⟨by simp[s],h.2 ?_⟩;cases b<;>cases k<;>simp_all
  |tup w=>
   cases w with
   |cons _ _=>rw[g]at h;exact h.elim
   |nil=>
    rw[g]at h;simp only at h;refine .inr ⟨?_,h⟩;have r:yielded i a.tmps j=none:=by
     unfold Tw at g;unfold yielded;cases q:(i[j]?).bind (·.dst)with
     |none=>rfl
     |some d=>
      rw[q]at g;simp only at g;simp only[AJ];rcases NF (env:=env) (t:=d)with e|m
      ·rw[e]at g;cases g
      ·rw[g]at m;obtain⟨l,hr⟩:=u _ _ m;have f: ∃n,a.tmps.getD d undef= .tuple n:=by generalize a.tmps.getD d undef=c at hr;cases hr;exact⟨_,rfl⟩
       obtain⟨n,f⟩:=f;have:a.tmps[d]? =some (.tuple n):=by rw[JK]at f;rw[H9 l]at f⊢;simpa using f
       rw[this]
    rw[r];rfl
  |_=>rw[g]at h;exact h.elim
section
variable {P:Program} {N:Nat} {env:Env} {H:Aq} {Q:Exit->Env->Aq->Prop}
def MA.cond{c:Operand}{x y:Code}{b:Bool}(d:A8 env c= .bool b)(h:b=true->MA P N x env H Q)(f:b=false->MA P N y env H Q):MA P N (.cond c x y) env H Q:=by
 intro r X g a w s k;have hr:=DR s.env c;rw[d]at hr;have e:a.eval c= .bool b:=by generalize a.eval c=v at hr;cases hr;rfl
 apply wpIn_cond e;cases b
 ·exact f rfl r X g a w s k
 ·exact h rfl r X g a w s k
end
mutual
def AW.idsAll(p:Nat->Bool):AW->Bool
 | .ptr id _ _=>p id
 | .sl id _ _ _ _=>p id
 | .yf id=>p id
 | .mp id=>p id
 | .itp id m=>p id&&p m
 | .vptr cs=>AW.idsAllL p cs
 | .vs _ rows=>AW.idsAllL p rows
 | .fn _ a b=>AW.idsAllL p a&&AW.idsAllL p b
 | .agg cs=>AW.idsAllL p cs
 | .tup cs=>AW.idsAllL p cs
 | .bool _| .int _ _| .str _| .nilp| .nils| .nilf| .any=>true
def AW.idsAllL(p:Nat->Bool):List AW->Bool
 |[]=>true
 |v::r=>AW.idsAll p v&&AW.idsAllL p r
end
mutual
def AW.ren(ρ:Nat->Nat):AW->AW
 | .ptr id g off=>.ptr (ρ id) g off
 | .sl id g sz off len=>.sl (ρ id) g sz off len
 | .yf id=>.yf (ρ id)
 | .mp id=>.mp (ρ id)
 | .itp id m=>.itp (ρ id) (ρ m)
 | .vptr cs=>.vptr (AW.renL ρ cs)
 | .vs sz rows=>.vs sz (AW.renL ρ rows)
 | .fn f a b=>.fn f (AW.renL ρ a) (AW.renL ρ b)
 | .agg cs=>.agg (AW.renL ρ cs)
 | .tup cs=>.tup (AW.renL ρ cs)
 | .bool b=>.bool b
 | .int k n=>.int k n
 | .str s=>.str s
 | .nilp=>.nilp
 | .nils=>.nils
 | .nilf=>.nilf
 | .any=>.any
def AW.renL(ρ:Nat->Nat):List AW->List AW
 |[]=>[]
 |v::r=>AW.ren ρ v::AW.renL ρ r
end
def Nm(a:Nat->Nat)(l:List AW):AW.renL a l=l.map (AW.ren a):=by
 induction l with
 |nil=>rfl
 |cons v r b=>simp[AW.renL,b]
def De(p:Nat->Bool)(l:List AW):AW.idsAllL p l=true↔ ∀v∈l,v.idsAll p=true:=by
 induction l with
 |nil=>simp[AW.idsAllL]
 |cons v r a=>simp[AW.idsAllL,a]
def L8{p:Nat->Bool}{l:List AW}(h:AW.idsAllL p l=true){j:Nat}{v:AW}(a:l[j]? =some v):v.idsAll p=true:=(De p l).1 h v (BV a)
def oB(a:Nat->Nat)(v:AW):(v.ren a).cells=v.cells.map (AW.ren a):=by cases v<;>simp[AW.ren,AW.cells,Nm]
def SY{p:Nat->Bool}{v:AW}(h:v.idsAll p=true): ∀u∈v.cells,u.idsAll p=true:=by
 cases v<;>simp only[AW.cells,A5]<;>first
  |(intro u a;subst a;exact h)
  |(simp only[AW.idsAll]at h;exact(De _ _).1 h)
def Bh.ren{x y:Cx}{p:Nat→Bool}{ρ:Nat→Nat}(G: ∀C,p C=true→C<x.n→ρ C<y.n∧y.gen (ρ C)=x.gen C∧y.io (ρ C)=x.io C∧y.cap (ρ C)=x.cap C)
  (V:y.w=x.w) (hO: ∀B,y.O B->x.O B) {v:AW} {c:Value} (r:Bh x v c):v.idsAll p=true->Bh y (v.ren ρ) c:=by
 induction r with
 |bool b=>exact λ_=>.bool b
 |int k n=>exact λ_=>.int k n
 |str t K=>exact λ_=>.str t K
 |nilp=>exact λ_=>.nilp
 | @ptr C g L c A Y F z=>intro s;obtain⟨a,b,d,e⟩:=G C s A;refine .ptr a (by rw[b];exact Y) F λE=>?_;rw[b]at E;rw[d];exact z E
 | @vptr T B L f N X z hv P=>
  intro s;simp only[AW.idsAll]at s;simp only[AW.ren,Nm];refine .vptr f (λo=>N (hO B o)) (by rw[V];exact X) (λj v l=>?_) λj v l=>?_
  ·rw[Bb]at l;cases q:T[j]? with
   |none=>rw[q]at l;cases l
   |some u=>rw[V];exact z j u q
  ·rw[Bb]at l;cases q:T[j]? with
   |none=>rw[q]at l;cases l
   |some u=>rw[q]at l;simp only[BB,AV]at l;subst l;exact P j u q (L8 s q)
 |nils=>exact λ_=>.nils
 | @vs sz D a cap f R ad S ha hv P=>
  intro s;simp only[AW.idsAll]at s;simp only[AW.ren,Nm];have I: ∀{j:Nat} {e:AW},(D.map (AW.ren ρ))[j]? =some e-> ∃u,D[j]? =some u/\e=u.ren ρ:=by
   intro j e l;rw[Bb]at l;cases q:D[j]? with
   |none=>rw[q]at l;cases l
   |some u=>rw[q]at l;simp only[BB,AV]at l;exact⟨u,rfl,l.symm⟩
  have H: ∀{u:AW} {i:Nat} {v:AW},(u.ren ρ).cells[i]? =some v-> ∃t,u.cells[i]? =some t/\v=t.ren ρ:=by
   intro u i v J;rw[oB,Bb]at J;cases K:u.cells[i]? with
   |none=>rw[K]at J;cases J
   |some t=>rw[K]at J;simp only[BB,AV]at J;exact⟨t,rfl,J.symm⟩
  have M:(D.map (AW.ren ρ)).length=D.length:=by simp
  rw[<-M];refine .vs f (by rw[M];exact R) ad (λj e l=>?_) (λZ=>?_) λj e i v l J=>?_
  ·obtain⟨u,q,rfl⟩:=I l;rw[oB,Cm];exact S j u q
  ·obtain⟨B,L,e,N,X,z⟩:=ha (by simpa using Z);refine⟨B,L,e,λo=>N (hO B o),by rw[V];exact X,λj e i v l J=>?_⟩;obtain⟨u,q,rfl⟩:=I l;obtain⟨t,K,rfl⟩:=H J;rw[V];exact z j u i t q K
  ·obtain⟨u,q,rfl⟩:=I l;obtain⟨t,K,rfl⟩:=H J;exact P j u i t q K (SY (L8 s q) _ (BV K))
 | @sl C g sz L len c A Y F z=>intro s;obtain⟨a,b,d,e⟩:=G C s A;refine .sl a (by rw[b];exact Y) F λE=>?_;rw[b]at E;rw[d,e];exact z E
 | @fn f first Q U W F h2 as ax al ap=>
  intro s;simp only[AW.idsAll,BM]at s;simp only[AW.ren,Nm];refine .fn (by simpa using F) (by simpa using h2) (λj v c l z=>?_) λj v c l z=>?_
  ·rw[Bb]at l;cases q:first[j]? with
   |none=>rw[q]at l;cases l
   |some u=>rw[q]at l;simp only[BB,AV]at l;subst l;exact al j u c q z (L8 s.1 q)
  ·rw[Bb]at l;cases q:Q[j]? with
   |none=>rw[q]at l;cases l
   |some u=>rw[q]at l;simp only[BB,AV]at l;subst l;exact ap j u c q z (L8 s.2 q)
 | @yf C c A F z=>intro s;obtain⟨a,b,d,e⟩:=G C s A;refine .yf a F λE=>?_;rw[b]at E;rw[d];exact z E
 | @mp C c A F z=>intro s;obtain⟨a,b,d,e⟩:=G C s A;refine .mp a F λE=>?_;rw[b]at E;rw[d];exact z E
 | @itp C m c A hm F z=>intro s;simp only[AW.idsAll,BM]at s;obtain⟨a,b,d,e⟩:=G C s.1 A;obtain⟨a2,b2,d2,e2⟩:=G m s.2 hm;refine .itp a a2 F λE=>?_;rw[b]at E;rw[d,b2,d2,e];exact z E
 |nilf=>exact λ_=>.nilf
 | @agg T ar h F hv P=>
  intro s;simp only[AW.idsAll]at s;simp only[AW.ren,Nm];refine .agg (by simpa using h) F λj v c l z=>?_;rw[Bb]at l;cases q:T[j]? with
  |none=>rw[q]at l;cases l
  |some u=>rw[q]at l;simp only[BB,AV]at l;subst l;exact P j u c q z (L8 s q)
 | @tup vs a0 h hv P=>
  intro s;simp only[AW.idsAll]at s;simp only[AW.ren,Nm];refine .tup (by simpa using h) λj v c l z=>?_;rw[Bb]at l;cases q:vs[j]? with
  |none=>rw[q]at l;cases l
  |some u=>rw[q]at l;simp only[BB,AV]at l;subst l;exact P j u c q z (L8 s q)
 |any c=>exact λ_=>.any c
mutual
theorem se{p:Nat->Bool}{e:Nat->Nat}(c: ∀d,p d=true->e d=d): ∀v:AW,v.idsAll p=true->v.ren e=v
 | .ptr d g off,h=>by simp only[AW.ren,c d h]
 | .sl d g sz off len,h=>by simp only[AW.ren,c d h]
 | .yf d,h=>by simp only[AW.ren,c d h]
 | .mp d,h=>by simp only[AW.ren,c d h]
 | .itp d m,h=>by simp only[AW.idsAll,BM]at h;simp only[AW.ren,c d h.1,c m h.2]
 | .vptr cs,h=>by simp only[AW.ren,Uy c cs h]
 | .vs sz rows,h=>by simp only[AW.ren,Uy c rows h]
 | .fn f a b,h=>by simp only[AW.idsAll,BM]at h;simp only[AW.ren,Uy c a h.1,Uy c b h.2]
 | .agg cs,h=>by simp only[AW.ren,Uy c cs h]
 | .tup cs,h=>by simp only[AW.ren,Uy c cs h]
 | .bool _,_=>rfl
 | .int _ _,_=>rfl
 | .str _,_=>rfl
 | .nilp,_=>rfl
 | .nils,_=>rfl
 | .nilf,_=>rfl
 | .any,_=>rfl
theorem Uy{p:Nat->Bool}{c:Nat->Nat}(a: ∀b,p b=true->c b=b): ∀l:List AW,AW.idsAllL p l=true->AW.renL c l=l
 |[],_=>rfl
 |v::r,h=>by simp only[AW.idsAllL,BM]at h;simp only[AW.renL,se a v h.1,Uy a r h.2]
end
def tI(P:Program)(t:TypeId):Option (Bool×Nat):=
 match P.info? t,P.underlying t with
 |some i,some d=>some ((match d with| .struct _| .array _ _=>true|_=>false),i.size)
 |_,_=>none
def VD{P:Program}{t:TypeId}{b:Bool}{n:Nat}(h:tI P t=some (b,n))(w:World):(isAgg t).run P w= .ok b w:=by
 unfold tI at h;split at h
 ·rename_i i d c a;simp only[AV,Br]at h;unfold isAgg;simp only[Sem.run_bind,run_underlying a,Result.andThen_ok];rw[<-h.1];split<;>simp_all
 ·cases h
def KJ{P:Program}{t:TypeId}{b:Bool}{n:Nat}(h:tI P t=some (b,n))(w:World):(sizeOf t).run P w= .ok n w:=by
 unfold tI at h;split at h
 ·rename_i i d a c;simp only[AV,Br]at h;simp[sizeOf,typeInfo,a,h.2]
 ·cases h
def Ov(H:Aq):AW->Nat->Option (List AW)
 | .ptr id g off,n=>
  match H[id]? with
  |some (.live g' cs)=>if g=g'/\off+n<=cs.length then some ((cs.drop off).take n)else none
  |_=>none
 | .vptr cs,n=>if n<=cs.length then some (cs.take n)else none
 |_,_=>none
def eS(x:Cx)(vs:List AW)(cs:List Value):Prop:=cs.length=vs.length/\ ∀(j:Nat) (v:AW) (c:Value),vs[j]? =some v->cs[j]? =some c->Bh x v c
def Nv(B a j:Nat):(⟨B,a,none⟩:Addr).add j=⟨B,a+j,none⟩:=by
 unfold Addr.add;split
 ·rename_i h;subst h;rfl
 ·rfl
def Og{w:World}{B:Nat}{a:Array Value}{T:TypeId}{c:Nat×Nat}(h:w.heap[B]? =some (.cells a T c))(b:Nat):w.cell? ⟨B,b,none⟩=a[b]? :=by unfold World.cell?;rw[h];rfl
def mY{X:Nat→Prop}{h:Gh}{H:Aq}{w:World}{v:AW}{c:Value}{n:Nat}{J:List AW}(s:Ik X h H w)(r:Bh (cx X h H w) v c)(hr:Ov H v n=some J):
  ∃(B a:Nat) (p:List Value),c= .pointer (some ⟨B,a,none⟩)/\p.length=n/\(∀j u,p[j]? =some u->w.cell? ((⟨B,a,none⟩:Addr).add j)=some u/\u.oneCell'=true)/\eS (cx X h H w) J p:=by
 cases r with
 | @ptr I g a c P hg W A=>
  simp only[Ov]at hr;split at hr
  ·rename_i V p N;split at hr
   ·rename_i t;obtain⟨rfl,G⟩:=t;simp only[AV]at hr;subst hr;obtain⟨z,y⟩:=s.live I g p N;obtain⟨B,x,rfl⟩:=A z;rcases y with⟨hn,_⟩|⟨E,K,T,U,f,q,M,F,D,O,m⟩
    ·rw[hn]at x;cases x
    ·have:E=B:=by rw[show(cx X h H w).io I=some B from x]at q;injection q with e;exact e.symm
     subst this;refine⟨E,a,(List.range n).map (λj=>f (a+j)),rfl,by simp,?_,?_,?_⟩
     ·intro j u i;have b:j<n:=by
       rcases Ag j n with l|k
       ·exact l
       ·rw[BP (by simpa using k)]at i;cases i
      have R:u=f (a+j):=by rw[Bb,M8 b]at i;simpa using i.symm
      subst R;have C:p[a+j]? =some (p[a+j]'(by omega)):=Ay (by omega);obtain⟨L,Q,_⟩:=m _ _ C;rw[Nv,Og (w:=w) M];exact⟨L,Q⟩
     ·rw[Cm,List.length_range,Cn,Fc];omega
     ·intro j u d i o;have b:j<n:=by
       rcases Ag j n with l|k
       ·exact l
       ·rw[BP (by simpa using k)]at o;cases o
      rw[IP,if_pos b,Hm]at i;rw[Bb,M8 b]at o;simp only[BB,AV]at o;subst o;exact(m _ _ i).2.2
   ·cases hr
  ·cases hr
 | @vptr p B a f Z Y A S=>
  simp only[Ov]at hr;split at hr
  ·rename_i D;simp only[AV]at hr;subst hr;refine⟨B,a,(List.range n).map f,rfl,by simp,?_,?_,?_⟩
   ·intro j u i;have b:j<n:=by
     rcases Ag j n with l|k
     ·exact l
     ·rw[BP (by simpa using k)]at i;cases i
    rw[Bb,M8 b]at i;simp only[BB,AV]at i;subst i;rw[Nv];exact A j _ (Ay (by omega))
   ·rw[Cm,List.length_range,Cn];omega
   ·intro j u d i o;have b:j<n:=by
     rcases Ag j n with l|k
     ·exact l
     ·rw[BP (by simpa using k)]at o;cases o
    rw[IP,if_pos b]at i;rw[Bb,M8 b]at o;simp only[BB,AV]at o;subst o;exact S j u i
  ·cases hr
 |_=>simp only[Ov]at hr;cases hr
def bv(P:Program)(t:TypeId)(H:Aq)(v:AW):Option AW:=
 match tI P t with
 |some (true,n)=>(Ov H v n).map AW.agg
 |some (false,_)=>(Ov H v 1).bind List.head?
 |none=>none
def qW{P:Program}{t:TypeId}{X:Nat→Prop}{h:Gh}{H:Aq}{w:World}{v u:AW}{c:Value}(s:Ik X h H w)(r:Bh (cx X h H w) v c)(d:bv P t H v=some u):
  ∃B b m,c= .pointer (some ⟨B,b,none⟩)/\(loadVar t ⟨B,b,none⟩).run P w= .ok m w/\Bh (cx X h H w) u m:=by
 unfold bv at d;split at d
 ·rename_i n k;cases hr:Ov H v n with
  |none=>rw[hr]at d;cases d
  |some p=>
   rw[hr]at d;simp only[BB,AV]at d;subst d;obtain⟨B,b,g,rfl,e,i,a⟩:=mY s r hr;refine⟨B,b,.agg g.toArray,rfl,?_,?_⟩
   ·unfold loadVar;simp only[Sem.run_bind,VD k,Result.andThen_ok,if_true,KJ k];subst e;rw[run_loadCells_list w ⟨B,b,none⟩ g λj v f=>(i j v f).1];rfl
   ·refine .agg (by simpa using a.1) (λj c f=>?_) λj v c f l=>?_
    ·exact(i j c (by simpa using f)).2
    ·exact a.2 j v c f (by simpa using l)
 ·rename_i n k;cases hr:Ov H v 1 with
  |none=>rw[hr]at d;cases d
  |some p=>
   rw[hr]at d;simp only[AJ]at d;obtain⟨B,b,g,rfl,e,i,a⟩:=mY s r hr;match g,e with
   |[c0],_=>
    match p,a.1 with
    |[u0],_=>simp only[List.head?_cons,AV]at d;subst d;refine⟨B,b,c0,rfl,?_,a.2 0 _ _ rfl rfl⟩;unfold loadVar;have o:=(i 0 c0 rfl).1;simp only[Addr.add,if_true]at o;simp[Sem.run_bind,VD k,o]
 ·cases d
def di(P:Program)(env:Env)(H:Aq):ResultVar->Option AW
 | .tmp t=>some (env.get t)
 | .cell a t=>bv P t H (env.get a)
def Qw(P:Program)(env:Env)(H:Aq):List ResultVar->Option (List AW)
 |[]=>some []
 |r::rs=>
  match di P env H r,Qw P env H rs with
  |some v,some vs=>some (v::vs)
  |_,_=>none
def bw(P:Program)(fn:Func)(env:Env)(H:Aq):Option AW:=
 match Qw P env H fn.results.toList with
 |some [v]=>some v
 |some vs=>some (.tup vs)
 |none=>none
def dJ{x:Cx}{env:Env}{a:Act}(h:M4 x env a)(t:Nat):Bh x (env.get t) (a.tmps.getD t undef):=DR h (.tmp t)
def ma(tmps:Array Value):ResultVar->Sem Value
 | .tmp t=>pure (tmps.getD t undef)
 | .cell a t=>do loadVar t (<-asAddr (tmps.getD a undef))
def sh(b:Func)(tmps:Array Value):results b tmps=(do
  let a<-b.results.mapM (ma tmps);pure (if h:a.size=1 then a[0]else .tuple a)):=by
 unfold results;congr 1
def kR{P:Program}{N:Nat}{X:Nat→Prop}{h:Gh}{env:Env}{H:Aq}{a:Act}{w:World}(s:St X h N env H a w): ∀(i:List ResultVar) (k:List AW),Qw P env H i=some k→
  ∃f,Sem.run P (i.mapM (ma a.tmps)) w= .ok f w/\eS (cx X h H w) k f
 |[],k,hv=>by simp only[Qw,AV]at hv;subst hv;exact⟨[],rfl,rfl,λ_ _ _ h=>by cases h⟩
 |r::i,k,hv=>by
  simp only[Qw]at hv;split at hv
  ·rename_i v o g q;simp only[AV]at hv;subst hv;obtain⟨f,l,b⟩:=kR s i o q;have e: ∃c,Sem.run P (ma a.tmps r) w= .ok c w/\Bh (cx X h H w) v c:=by
    cases r with
    |tmp t=>simp only[di,AV]at g;subst g;exact⟨_,rfl,dJ s.env t⟩
    |cell x t=>simp only[di]at g;obtain⟨B,C,p,z,A,hr⟩:=qW s.sim (dJ s.env x) g;refine⟨p,?_,hr⟩;simp only[ma,z];simp[asAddr,A]
   obtain⟨c,y,hr⟩:=e;refine⟨c::f,?_,by simpa using b.1,?_⟩
   ·rw[List.mapM_cons];simp only[Sem.run_bind,y,Result.andThen_ok,l,Sem.run_pure]
   ·intro j u d n m;cases j with
    |zero=>simp at n m;subst n m;exact hr
    |succ j=>exact b.2 j u d (by simpa using n) (by simpa using m)
  ·cases hv
def vD{P:Program}{N:Nat}{X:Nat→Prop}{h:Gh}{env:Env}{H:Aq}{a:Act}{w:World}{g:Func}{v:AW}(s:St X h N env H a w)(d:bw P g env H=some v):
  ∃c,(results g a.tmps).run P w= .ok c w/\Bh (cx X h H w) v c:=by
 unfold bw at d;cases e:Qw P env H g.results.toList with
 |none=>rw[e]at d;cases d
 |some m=>
  rw[e]at d;obtain⟨f,i,b⟩:=kR s _ m e;have o:Sem.run P (g.results.mapM (ma a.tmps)) w= .ok f.toArray w:=by rw[Array.mapM_eq_mapM_toList];simp only[Sem.run_map,i,Result.andThen_ok]
  rw[sh];simp only[Sem.run_bind,o];simp only[Result.andThen_ok,Sem.run_pure,Result.ok.injEq,and_true,exists_eq_left'];match m,b with
  |[],b=>simp only[AV]at d;subst d;have:f=[]:=EA (by simpa using b.1);subst this;simp only[TJ,BH,Nat.zero_ne_one,dite_false];exact .tup rfl λj v c k _=>by cases k
  |[v0],b=>
   simp only[AV]at d;subst d;match f,b.1 with
   |[c0],_=>simp only[TJ,List.length_singleton,dite_true,List.getElem_toArray,List.getElem_cons_zero];exact b.2 0 _ _ rfl rfl
  |v0::v1::r,b=>
   simp only[AV]at d;subst d;have l:f.toArray.size≠1:=by rw[TJ,b.1];simp
   rw[dif_neg l];exact .tup (by simpa using b.1) λj v c k n=>b.2 j v c k (by simpa using n)
def Nt(n0:Nat)(v:AW)(H:Aq)(v2:AW)(H2:Aq):Prop:=
 n0<=H2.length/\ ∀(X:Nat->Prop) (h:Gh) (w:World) (c:Value),Ik X h H w->Bh (cx X h H w) v c->
  ∃h2,Ik X h2 H2 w/\Bh (cx X h2 H2 w) v2 c/\(∀id,id<n0->h2.gen id=h.gen id/\h2.io id=h.io id/\h2.cap id=h.cap id)/\ ∀B,owned h2 H2 B->owned h H B
def Nt.refl{a:Nat}(v:AW)(H:Aq)(hn:a<=H.length):Nt a v H v H:=⟨hn,λ_ h _ _ s r=>⟨h,s,r,λ_ _=>⟨rfl,rfl,rfl⟩,λ_ h=>h⟩⟩
def ABj(P:Program)(fn:Func)(n0:Nat)(Q:AW->Aq->Prop):Exit->Env->Aq->Prop
 | .normal,env,H| .ret,env,H=> ∃v v2 H2,bw P fn env H=some v/\Nt n0 v H v2 H2/\Q v2 H2
 |_,_,_=>False
def env0:Nat->List AW->Env
 |_,[]=>[]
 |i,v::r=>(i,v)::env0 (i+1) r
def qA{t:Nat}{v:AW}: ∀{i:Nat} {l:List AW},(t,v)∈env0 i l->i<=t/\l[t-i]? =some v
 |i,[],h=>by cases h
 |i,u::r,h=>by
  simp only[env0,Al,Br]at h;rcases h with⟨rfl,rfl⟩|h
  ·simp
  ·obtain⟨a,b⟩:=qA h;refine⟨by omega,?_⟩;rw[show t-i=(t-(i+1))+1 from by omega];simpa using b
def ed{w:World}{D:Nat}{x y:Option (List Deferred)}(c:w.heap[D]? =some (.deferred x))(B a:Nat):(w.putObj D (.deferred y)).cell? ⟨B,a,none⟩=w.cell? ⟨B,a,none⟩:=by
 unfold World.cell?;by_cases b:B=D
 ·subst b;simp only[World.putObj_heap_same (bU c),c]
 ·simp only[World.putObj_heap_other b]
def Ik.shut{X:Nat→Prop}{h:Gh}{H:Aq}{w:World}(s:Ik X h H w){D:Nat}{x y:Option (List Deferred)}(K:w.heap[D]? =some (.deferred x)):
  (cx X h H w).Later (cx X h H (w.putObj D (.deferred y)))/\Ik X h H (w.putObj D (.deferred y)):=by
 have E:(cx X h H w).Later (cx X h H (w.putObj D (.deferred y))):=⟨by simp[cx],λB _ _ I=>ed K B I,λ_ _ h=>h,Aj _,λ_ _=>Aj _,λ_ _ _=>⟨rfl,rfl⟩⟩
 have d: ∀{B:Nat} {o:Obj},w.heap[B]? =some o->(∀z,o≠ .deferred z)->(w.putObj D (.deferred y)).heap[B]? =some o:=by
  intro B o a G;by_cases i:B=D
  ·subst i;rw[K]at a;injection a with e;exact(G x e.symm).elim
  ·rw[World.putObj_heap_other i,a]
 refine⟨E,λB a=>⟨by simpa using(s.out B a).1,(s.out B a).2⟩,λp g M l=>?_,λp L l=>?_,s.inj,s.bldKeep λp e l _=>⟨l,rfl,rfl,rfl,λB o _ a G=>(d a G).trans a.symm⟩⟩
 ·obtain⟨C,n⟩:=s.live p g M l;refine⟨C,?_⟩;rcases n with⟨hn,rfl⟩|⟨B,q,T,N,f,c,u,k,F,A,b⟩
  ·exact .inl ⟨hn,rfl⟩
  ·refine .inr ⟨B,q,T,N,f,c,d u (λz=>by simp),k,F,A,λj v V=>?_⟩;obtain⟨W,Y,Z⟩:=b j v V;exact⟨W,Y,Z.later E⟩
 ·obtain⟨C,B,r,c,u,O,P,Q,R,S,U,J⟩:=s.lp p L l;exact⟨C,B,r,c,d u (λz=>by simp),O,P,Q,R,S,U,λt v m=>⟨(J t v m).1,(J t v m).2.later E⟩⟩
def HS.shut{h b:Gh}{H d:Aq}{w c:World}(x:HS h H w b d c){D:Nat}{y z:Option (List Deferred)}(f:w.heap.size<=D)(g:c.heap[D]? =some (.deferred z)):HS h H w b d (c.putObj D (.deferred y))where
 os:=x.os
 tape:=x.tape
 output:=x.output
 size:=by simpa using x.size
 keep B hB hn:=by rw[World.putObj_heap_other (by omega)];exact x.keep B hB hn
 n:=x.n
 gen:=x.gen
 same:=x.same
 fresh:=x.fresh
 loops B r hB:=by
  obtain⟨e,b⟩:=x.loops B r hB;refine⟨e,?_⟩;by_cases a:B=D
  ·subst a;have:=bU hB;omega
  ·rw[World.putObj_heap_other a,b]
def iA{P:Program}{A:Func}{N:Nat}{X:Nat→Prop}{g h:Gh}{H b p:Aq}{z:World}{v t:AW}{f:Env}{a:Act}{Q:AW→Aq→Prop}(o:bw P A f b=some v)(j:Nt H.length v b t p)(B:Q t p):
  ∀(i:List Deferred) (w:World),i.Nodup->(∀d∈i,∃D,d={target:=.collected D,args:= #[]}/\z.heap.size<=D/\w.heap[D]? =some (.deferred (some [])))->
   St X h N f b a w->HS g H z h b w->
   LeavesInM Fence.wide 0 P A a.tmps (λe u=> ∃c v h b,e= .returned c/\Q v b/\Ik X h b u/\Bh (cx X h b u) v c/\HS g H z h b u) i .returning w
 |[],w,_,_,s,x=>by obtain⟨c,m,l⟩:=vD s o;obtain⟨J,n,r,I,K⟩:=j.2 X h w c s.sim l;exact⟨c,m,c,t,J,p,rfl,B,n,r,F6.ext rfl j.1 I K x⟩
 |d::i,w,hnd,hds,s,x=>by obtain⟨D,rfl,G,q⟩:=hds d (by simp);simp only[FF]at hnd;refine⟨by simp,.inl ⟨D,_,rfl,run_takeDeferred q,?_⟩⟩;have C:=s.sim.shut (y:=none) q;refine iA o j B i _ hnd.2 (λF k=>?_) ⟨C.2,s.env.later C.1,s.size⟩ (x.shut G q);obtain⟨E,rfl,o,j⟩:=hds F (Bq _ k);refine⟨E,rfl,o,?_⟩;rw[World.putObj_heap_other,j];rintro rfl;exact hnd.1 k
def JN{P:Program}{F:FuncId}{b:Func}{c:Code}{args:List AW}{H:Aq}{Q:AW→Aq→Prop}(J:P.funcs[F]? =some b)(G:b.body=some c)(hn:args.length≤b.ntmps)
  (L:MA P b.ntmps c (env0 0 args) H (ABj P b H.length Q)):Eo P F args H Q:=by
 intro X g w a s O hr;have I:M4 (cx X g H w) (env0 0 args) {tmps:=a++Array.replicate (b.ntmps-a.size) undef,defers:=[]}:=by
  intro t v m;obtain⟨_,y⟩:=qA m;rw[Nat.sub_zero]at y;have K:t<args.length:=by
   rcases Ag t args.length with h|h
   ·exact h
   ·rw[BP h]at y;cases y
  refine⟨by simp;omega,?_⟩;have C:a[t]? =some (a[t]'(by omega)):=H9 (by omega);have:(a++Array.replicate (b.ntmps-a.size) undef).getD t undef=a[t]'(by omega):=by rw[JK,VT (by omega),C];rfl
  rw[this];exact hr t v _ y C
 refine(callsIn_wide (n:=0)).1 (callsIn_of_wp_marks J G trivial (wpIn_mono (L none X g {tmps:=a++Array.replicate (b.ntmps-a.size) undef,defers:=[]} w ⟨s,I,by simp;omega⟩ (λl e=>by cases e)) ?_));rintro e B j ⟨x,k,d,q,M,N,D,E,A,z⟩;have o: ∀v i f,bw P b k d=some v->Nt H.length v d i f->Q i f->LeavesInM Fence.wide 0 P b B.tmps (λe j=> ∃c v x d,e= .returned c/\Q v d/\Ik X x d j/\Bh (cx X x d j) v c/\HS g H w x d j) B.defers .returning j:=by intro v i f p r u;rw[E,DQ];exact iA p r u D j A z M N
 cases e with
 |normal=>obtain⟨v,i,f,p,r,u⟩:=q;exact o v i f p r u
 |ret=>obtain⟨v,i,f,p,r,u⟩:=q;exact o v i f p r u
 |_=>exact q.elim
def Zu(P:Program)(F:FuncId):Bool:=
 match P.funcs[F]? with
 |some fn=>fn.body.isSome&& !(fn.name== "runtime.NumGoroutine")
 |none=>false
def bf{P:Program}{F:FuncId}(h:Zu P F=true)(args:Array Value)(w:World):(callFunc F args).run P w= .ok (.enter F args) w:=by
 unfold Zu at h;split at h
 ·rename_i a d;simp only[BM,RP]at h;unfold callFunc;simp only[Sem.run_bind,run_program,Result.andThen_ok,d,h.2];cases c:a.body with
  |none=>rw[c]at h;simp at h
  |some b=>simp
 ·cases h
def EM.ren(ρ:Nat->Nat):EM->EM
 | .dead=>.dead
 | .live g cs=>.live g (AW.renL ρ cs)
 | .lp L=>.lp {L with env:=L.env.map λp=>(p.1,p.2.ren ρ)}
 | .bld T e row l=>.bld T e (ρ row) l
 | .brow o=>.brow (ρ o)
 | .mp k es=>.mp k es
 | .it n s=>.it n s
def EM.idsAll(p:Nat->Bool):EM->Bool
 | .dead=>true
 | .live _ cs=>AW.idsAllL p cs
 | .lp L=>L.env.all λq=>q.2.idsAll p
 | .bld _ _ row _=>p row
 | .brow o=>p o
 | .mp _ _=>true
 | .it _ _=>true
def Wm(H:Aq)(bs:List Nat):Aq:=bs.map λb=>(H.getD b .dead).ren (bs.idxOf ·)
def M9(H:Aq)(bs:List Nat)(j:Nat):Nat:=if j<bs.length then bs.getD j 0 else H.length+(j-bs.length)
def YG(ρ:Nat->Nat):Aq->List Nat->Aq->Aq
 |H,b::bs,e::es=>YG ρ (H.set b (e.ren ρ)) bs es
 |H,_,_=>H
def RG(H:Aq)(bs:List Nat)(Hc:Aq):Aq:=YG (M9 H bs) H bs Hc++(Hc.drop bs.length).map (EM.ren (M9 H bs))
def Qq(c:Nat->Nat): ∀(bs:List Nat) (H a:Aq),(YG c H bs a).length=H.length
 |[],H,a=>by cases a<;>rfl
 |b::bs,H,[]=>rfl
 |b::bs,H,e::es=>by simp only[YG];rw[Qq c bs];simp
def bg(d:Nat->Nat){c:Nat}: ∀(bs:List Nat) (H a:Aq),c∉bs->(YG d H bs a)[c]? =H[c]?
 |[],H,a,_=>by cases a<;>rfl
 |b::bs,H,[],_=>rfl
 |b::bs,H,e::es,h=>by simp only[Al,not_or]at h;simp only[YG];rw[bg d bs _ _ h.2,C1 (λe=>h.1 e.symm)]
def oF(a:Nat->Nat): ∀(bs:List Nat) (H c:Aq) (j b:Nat),bs.Nodup->bs[j]? =some b->b<H.length->bs.length<=c.length->(YG a H bs c)[b]? =(c[j]?).map (EM.ren a)
 |[],_,_,_,_,_,hj,_,_=>by simp at hj
 |b0::bs,H,[],_,_,_,_,_,hl=>by simp at hl
 |b0::bs,H,e::es,j,b,hnd,hj,hb,hl=>by
  simp only[FF]at hnd;simp only[YG];cases j with
  |zero=>simp at hj;subst hj;rw[bg a bs _ _ hnd.1];simp[hb]
  |succ j=>simp at hj;rw[oF a bs _ es j b hnd.2 hj (by simpa using hb) (by simpa using hl)];simp
def Zk{bs:List Nat}{a:Nat}(h:a∈bs):bs.idxOf a<bs.length:=List.idxOf_lt_length_of_mem h
def TZ{bs:List Nat}{a:Nat}(h:a∈bs):bs[bs.idxOf a]? =some a:=by have:=Zk h;rw[Ay this];simp
def U6{bs:List Nat}(l:bs.Nodup){j b:Nat}(h:bs[j]? =some b):bs.idxOf b=j:=by
 have o:=BV h;have m:=TZ o;have a: ∀(i k:Nat),i<k->bs[i]? =some b->bs[k]? =some b->False:=by intro i k e d f;obtain⟨p,d⟩:=Pf.1 d;obtain⟨q,f⟩:=Pf.1 f;exact(JE.1 l i k p q e) (d.trans f.symm)
 rcases Q7 (bs.idxOf b) j with g|n|c
 ·exact(a _ _ g m h).elim
 ·exact n
 ·exact(a _ _ c h m).elim
section
variable {X:Nat->Prop} {h:Gh} {H:Aq} {w:World} {bs:List Nat}
mutual
theorem kF: ∀v:AW,v.idsAll (λ_=>true)=true
 | .itp _ _=>rfl
 | .ptr _ _ _=>rfl
 | .sl _ _ _ _ _=>rfl
 | .yf _=>rfl
 | .mp _=>rfl
 | .vptr c=>OP c
 | .vs _ d=>OP d
 | .fn _ a b=>by simp only[AW.idsAll,OP a,OP b,Pe]
 | .agg c=>OP c
 | .tup c=>OP c
 | .bool _| .int _ _| .str _| .nilp| .nils| .nilf| .any=>rfl
theorem OP: ∀l:List AW,AW.idsAllL (λ_=>true) l=true
 |[]=>rfl
 |v::r=>by simp only[AW.idsAllL,kF v,OP r,Pe]
end
def Xs(X:Nat->Prop)(h:Gh)(H:Aq)(bs:List Nat)(B:Nat):Prop:=X B\/ ∃id e,id∉bs/\H[id]? =some e/\e≠EM.dead/\h.io id=some B
def Tg(h:Gh)(bs:List Nat):Gh:=⟨λj=>(bs[j]?).bind h.io,λj=>((bs[j]?).map h.gen).getD 0,λj=>((bs[j]?).map h.cap).getD 0⟩
def qt{a:Nat->Nat}{e:EM}:e.ren a= .dead↔e= .dead:=by cases e<;>simp[EM.ren]
def bj{j:Nat}{e:EM}(a:(Wm H bs)[j]? =some e)(d:e≠ .dead): ∃b c,bs[j]? =some b/\H[b]? =some c/\c≠ .dead/\e=c.ren (bs.idxOf ·):=by
 unfold Wm at a;rw[Bb]at a;cases g:bs[j]? with
 |none=>rw[g]at a;cases a
 |some b=>
  rw[g]at a;simp only[BB,AV]at a;cases f:H[b]? with
  |none=>rw[Dr,f]at a;subst a;simp[EM.ren]at d
  |some c=>rw[Dr,f]at a;refine⟨b,c,rfl,f,?_,a.symm⟩;rintro rfl;subst a;simp[EM.ren]at d
def xZ{j:Nat}{g:Nat}{d:List AW}(i:(Wm H bs)[j]? =some (EM.live g d)): ∃b a,bs[j]? =some b/\H[b]? =some (EM.live g a)/\d=AW.renL (bs.idxOf ·) a:=by
 obtain⟨b,e,h,f,_,c⟩:=bj i (by simp);cases e with
 |live k a=>simp only[EM.ren,EM.live.injEq]at c;obtain⟨rfl,rfl⟩:=c;exact⟨b,a,h,f,rfl⟩
 |_=>simp[EM.ren]at c
def Zp{B:Nat}(l:owned (Tg h bs) (Wm H bs) B): ∃b e,b∈bs/\H[b]? =some e/\e≠EM.dead/\h.io b=some B:=by obtain⟨j,e,k,c,a⟩:=l;obtain⟨b,f,d,i,g,_⟩:=bj k c;refine⟨b,f,BV d,i,g,?_⟩;simpa[Tg,d]using a
def pN(x:Nat)(c:decide (x∈bs)=true)(_:x<(cx X h H w).n):
  bs.idxOf x<(cx (Xs X h H bs) (Tg h bs) (Wm H bs) w).n/\(cx (Xs X h H bs) (Tg h bs) (Wm H bs) w).gen (bs.idxOf x)=(cx X h H w).gen x/\(cx (Xs X h H bs) (Tg h bs) (Wm H bs) w).io (bs.idxOf x)=(cx X h H w).io x/\(cx (Xs X h H bs) (Tg h bs) (Wm H bs) w).cap (bs.idxOf x)=(cx X h H w).cap x:=by
 have a:x∈bs:=by simpa using c
 have b:=TZ a;refine⟨by simpa[cx,Wm]using Zk a,?_,?_,?_⟩<;>simp[cx,Tg,b]
def xa(B:Nat)(a:(cx (Xs X h H bs) (Tg h bs) (Wm H bs) w).O B):(cx X h H w).O B:=by
 rcases a with(a|⟨g,e,_,d,c,f⟩)|a
 ·exact .inl a
 ·exact .inr ⟨g,e,d,c,f⟩
 ·obtain⟨b,e,_,d,c,f⟩:=Zp a;exact .inr ⟨b,e,d,c,f⟩
def LR{w:World}{B:Nat}{o:Obj}(h:w.heap[B]? =some o):B<w.heap.size:=by
 rcases Ag B w.heap.size with b|a
 ·exact b
 ·rw[lL a]at h;cases h
def Ik.io_at(s:Ik X h H w){c:Nat}{e:EM}{B:Nat}(j:H[c]? =some e)(u:e≠ .dead)(b:h.io c=some B):B<w.heap.size:=by
 cases e with
 |dead=>exact(u rfl).elim
 |live g y=>
  obtain⟨_,hn|⟨q,m,T,z,f,a,t,_⟩⟩:=s.live c g y j
  ·rw[show(cx X h H w).io c=h.io c from rfl,b]at hn;cases hn.1
  ·rw[show(cx X h H w).io c=h.io c from rfl,b]at a;injection a with e;subst e;exact LR t
 |lp L=>obtain⟨_,q,r,a,t,_⟩:=s.lp c L j;rw[show(cx X h H w).io c=h.io c from rfl,b]at a;injection a with e;subst e;exact LR t
 |bld T C A l=>obtain⟨q,p,v,d,i,_⟩:=s.bld c _ j rfl;rw[b]at d;injection d with e;subst e;exact LR i
 |brow o=>obtain⟨m,T,z,i⟩:=s.bld c _ j rfl B b;exact LR i
 |mp k D=>obtain⟨q,m,d,_,i,_⟩:=s.bld c _ j rfl;rw[b]at d;injection d with e;subst e;exact LR i
 |it n x=>obtain⟨q,d,_,i⟩:=s.bld c _ j rfl;rw[b]at d;injection d with e;subst e;exact LR i
def ZC{a:Nat->Nat}{e:EM}:(e.ren a).isB=e.isB:=by cases e<;>rfl
def xl.ren{h h':Gh}{H H':Aq}{w w':World}{r id':Nat}{e:EM}{ρ:Nat→Nat}(b:xl h H w r e)(f:h'.io id'=h.io r)(d:h'.gen id'=h.gen r)(s:h'.cap id'=h.cap r)(t: ∀B (o:Obj),h.io r=some B→w.heap[B]? =some o→w'.heap[B]? =w.heap[B]?)
  (hr: ∀T x a l,e= .bld T x a l->H'[ρ a]? =some (.brow id')->H[a]? =some (.brow r)/\h'.io (ρ a)=h.io a/\ ∀B (o:Obj),h.io a=some B->w.heap[B]? =some o->w'.heap[B]? =w.heap[B]?):xl h' H' w' id' (e.ren ρ):=by
 cases e with
 |bld T x a l=>
  obtain⟨B,p,v,c,m,j,z,J,I⟩:=b;refine⟨B,p,v,f.trans c,(t B _ c m).trans m,j,d.trans z,J,λC=>?_⟩;obtain⟨A,D,M⟩:=hr T x a l rfl C;obtain⟨q1,q2⟩:=I A;refine⟨⟨q1.1,?_⟩,q2.trans D.symm⟩;rcases q1.2 with q|⟨g,cap,u,y,rfl,K,F,L⟩
  ·exact .inl q
  ·refine .inr ⟨g,cap,u,y,rfl,K,(M g _ ?_ F).trans F,L⟩;simpa[Value.ownBlock]using q2.symm
 |brow o=>intro B E;obtain⟨i,T,y,c⟩:=b B (f▸E);exact⟨i,T,y,(t B _ (f▸E) c).trans c⟩
 |mp k N=>obtain⟨B,i,c,m,j,z⟩:=b;exact⟨B,i,f.trans c,d.trans m,(t B _ c j).trans j,z⟩
 |it n G=>obtain⟨B,c,m,j⟩:=b;exact⟨B,f.trans c,d.trans m,by rw[s];exact(t B _ c j).trans j⟩
 |_=>trivial
def Ik.sub(s:Ik X h H w)(V:bs.Nodup)(Y: ∀b∈bs,((H.getD b .dead).idsAll λn=>decide (n∈bs))=true):Ik (Xs X h H bs) (Tg h bs) (Wm H bs) w where
 out B C:=by
  have W: ¬(∃b e,b∈bs/\H[b]? =some e/\e≠EM.dead/\h.io b=some B)-> ¬owned (Tg h bs) (Wm H bs) B:=λhn ho=>hn (Zp ho);rcases C with C|⟨n,e,a2,c,E,x⟩
  ·exact⟨(s.out B C).1,W λ⟨b,e,_,c,E,x⟩=>(s.out B C).2 ⟨b,e,c,E,x⟩⟩
  ·refine⟨s.io_at c E x,W λ⟨b,e',Z,F,N,O⟩=>?_⟩;exact a2 (s.inj n b e e' B c F E N x O▸Z)
 live j g cs hj:=by
  obtain⟨b,M,a,D,rfl⟩:=xZ hj;obtain⟨J,U⟩:=s.live b g M D;refine⟨by simpa[cx,Tg,a]using J,?_⟩;rcases U with⟨hn,rfl⟩|⟨B,ad,T,fz,f,I,k,S,a3,a1,y⟩
  ·exact .inl ⟨by simpa[cx,Tg,a]using hn,rfl⟩
  ·refine .inr ⟨B,ad,T,fz,f,by simpa[cx,Tg,a]using I,k,by simpa[cx,Tg,a]using S,by rw[Nm,Cm];exact a3,a1,?_⟩;intro i v K;rw[Nm,Bb]at K;cases hu:M[i]? with
   |none=>rw[hu]at K;cases K
   |some u=>rw[hu]at K;simp only[BB,AV]at K;subst K;obtain⟨c,x,F⟩:=y i u hu;refine⟨c,x,Bh.ren (p:=λn=>decide (n∈bs)) (λn=>pN n) rfl xa F ?_⟩;have:=Y b (BV a);rw[Dr,D]at this;exact L8 (by simpa[EM.idsAll]using this) hu
 lp j L hj:=by
  obtain⟨b,e0,a,D,E,z⟩:=bj hj (by simp);cases e0 with
  |dead=>exact(E rfl).elim
  |live g cs=>simp[EM.ren]at z
  |bld=>simp[EM.ren]at z
  |brow=>simp[EM.ren]at z
  |mp=>simp[EM.ren]at z
  |it=>simp[EM.ren]at z
  |lp L0=>simp only[EM.ren,EM.lp.injEq]at z;subst z;obtain⟨J,B,r,I,k,c,x,F,O,h5,h6,h7⟩:=s.lp b L0 D;refine⟨by simpa[cx,Tg,a]using J,B,r,by simpa[cx,Tg,a]using I,k,c,x,F,O,h5,h6,λt v m=>?_⟩;obtain⟨q,hq,e⟩:=BX.1 m;simp only[Br]at e;obtain⟨rfl,rfl⟩:=e;refine⟨(h7 q.1 q.2 hq).1,Bh.ren (p:=λn=>decide (n∈bs)) (λn=>pN n) rfl xa (h7 q.1 q.2 hq).2 ?_⟩;have:=Y b (BV a);rw[Dr,D]at this;simp only[PK,EM.idsAll]at this;exact DG.1 this q hq
 inj i i' e e' B c x hn1 hn2 F O:=by obtain⟨b,c0,Q,ar,ax,_⟩:=bj c hn1;obtain⟨b',al,R,as,a0,_⟩:=bj x hn2;have e:=s.inj b b' c0 al B ar as ax a0 (by simpa[Tg,Q]using F) (by simpa[Tg,R]using O);subst e;rw[<-U6 V Q,<-U6 V R]
 bld j e hj C:=by
  obtain⟨b,e0,a,D,E,rfl⟩:=bj hj (by rintro rfl;cases C);rw[ZC]at C;refine(s.bld b e0 D C).ren (by simp[Tg,a]) (by simp[Tg,a]) (by simp[Tg,a]) (λ_ _ _ _=>rfl) λT e1 A l z hr=>?_;subst z;obtain⟨b',ap,d,P,N,G⟩:=bj hr (by simp);have Z:A∈bs:=by have:=Y b (BV a);rw[Dr,D]at this;simpa[EM.idsAll]using this
  have J:bs[bs.idxOf A]? =some A:=by rw[Ay (Zk Z)];simp
  rw[J]at d;injection d with d;subst d;refine⟨?_,by simp[Tg,J],λ_ _ _ _=>rfl⟩;cases ap with
  |brow o=>
   simp only[EM.ren,EM.brow.injEq]at G;have a4:o∈bs:=by have:=Y A Z;rw[Dr,P]at this;simpa[EM.idsAll]using this
   have c:=TZ a4;rw[<-G,a]at c;injection c with c;rw[c];exact P
  |_=>simp[EM.ren]at G
def LQ(h:Gh)(H:Aq)(bs:List Nat)(hc:Gh):Gh:=
 let pick {α:Type} (f fc:Nat->α) (id:Nat):α:=if id∈bs then fc (bs.idxOf id)else if id<H.length then f id else fc (bs.length+(id-H.length))
 ⟨pick h.io hc.io,pick h.gen hc.gen,pick h.cap hc.cap⟩
def fM{a:Aq}:(RG H bs a).length=H.length+(a.length-bs.length):=by simp[RG,Qq]
def RH{d:Aq}(i:bs.Nodup)(l:bs.length≤d.length){c:Nat}{e:EM}(a:(RG H bs d)[c]? =some e):
  (c∉bs/\c<H.length/\H[c]? =some e)\/ ∃j g,c=M9 H bs j/\d[j]? =some g/\e=g.ren (M9 H bs):=by
 unfold RG at a;rcases Ag c H.length with b|b
 ·rw[BW (by rw[Qq];exact b)]at a;by_cases h:c∈bs
  ·have k:=TZ h;rw[oF _ bs H d _ c i k b l]at a;cases f:d[bs.idxOf c]? with
   |none=>rw[f]at a;cases a
   |some g=>rw[f]at a;simp only[BB,AV]at a;refine .inr ⟨bs.idxOf c,g,?_,f,a.symm⟩;unfold M9;rw[if_pos (Zk h),Dr,k];rfl
  ·rw[bg _ bs H d h]at a;exact .inl ⟨h,b,a⟩
 ·rw[CG (by rw[Qq];exact b),Qq,Bb,Hm]at a;cases f:d[bs.length+(c-H.length)]? with
  |none=>rw[f]at a;cases a
  |some g=>rw[f]at a;simp only[BB,AV]at a;refine .inr ⟨_,g,?_,f,a.symm⟩;unfold M9;rw[if_neg (by omega)];omega
def VW{hc:Gh}{g:Aq}(f:bs.Nodup)(d: ∀b∈bs,b<H.length)(j:Nat)(k:j<g.length):
  M9 H bs j<(RG H bs g).length/\(LQ h H bs hc).gen (M9 H bs j)=hc.gen j/\(LQ h H bs hc).io (M9 H bs j)=hc.io j/\(LQ h H bs hc).cap (M9 H bs j)=hc.cap j:=by
 rw[fM];unfold M9;split
 ·rename_i a;have i:bs[j]? =some (bs[j]'a):=Ay a;have c:bs[j]'a∈bs:=Nw a;have e:=U6 f i;rw[Dr,i];have:=d _ c;simp only[PK,LQ,c,if_true,e,and_self,and_true];omega
 ·have c:H.length+(j-bs.length)∉bs:=λc=>by have:=d _ c;omega
  have e:bs.length+(H.length+(j-bs.length)-H.length)=j:=by omega
  simp only[LQ,c,if_false,show¬(H.length+(j-bs.length)<H.length)from by omega,e,and_self,and_true];omega
def gF{k:Gh}{c:Aq}(d:bs.Nodup)(p: ∀b∈bs,b<H.length)(v:bs.length≤c.length){B:Nat}(w:owned (LQ h H bs k) (RG H bs c) B):
  (∃i e,i∉bs/\H[i]? =some e/\e≠EM.dead/\h.io i=some B)\/owned k c B:=by
 obtain⟨i,e,u,f,a⟩:=w;rcases RH d v u with⟨q,m,t⟩|⟨j,r,rfl,n,g⟩
 ·refine .inl ⟨i,e,q,t,f,?_⟩;simpa[LQ,q,m]using a
 ·have o:j<c.length:=by
   rcases Ag j c.length with l|l
   ·exact l
   ·rw[BP l]at n;cases n
  rw[(VW (h:=h) (hc:=k) d p j o).2.2.1]at a;exact .inr ⟨j,r,n,λs=>f (g.trans (qt.2 s)),a⟩
def HS.back{p:Gh}{k:Aq}{q:World}(o:bs.Nodup)(m: ∀b∈bs,b<H.length)(x:HS (Tg h bs) (Wm H bs) w p k q):HS h H w (LQ h H bs p) (RG H bs k) q:=by
 have s:bs.length<=k.length:=by have:=x.n;simpa[Wm]using this
 refine⟨x.os,x.tape,x.output,x.size,λB r hn=>x.keep B r λc=>?_,?_,?_,?_,?_,x.loops⟩
 ·obtain⟨b,e,_,i,g,j⟩:=Zp c;exact hn ⟨b,e,i,g,j⟩
 ·rw[fM];omega
 ·intro f d;by_cases a:f∈bs
  ·have l:=TZ a;have:=x.gen (bs.idxOf f) (by simpa[Wm]using Zk a);simpa[LQ,a,Tg,l]using this
  ·simp[LQ,a,d]
 ·intro f d;by_cases a:f∈bs
  ·have l:=TZ a;have:=x.same (bs.idxOf f) (by simpa[Wm]using Zk a);simpa[LQ,a,Tg,l]using this
  ·simp[LQ,a,d]
 ·intro B c;rcases gF o m s c with⟨f,e,_,i,g,j⟩|c
  ·exact .inl ⟨f,e,i,g,j⟩
  ·rcases x.fresh B c with c|c
   ·obtain⟨b,e,_,i,g,j⟩:=Zp c;exact .inl ⟨b,e,i,g,j⟩
   ·exact .inr c
def Bh.back{d:Gh}{e:Aq}{i:World}(g:bs.Nodup)(f: ∀b∈bs,b<H.length)(l:bs.length≤e.length){v:AW}{c:Value}
  (r:Bh (cx (Xs X h H bs) d e i) v c):Bh (cx X (LQ h H bs d) (RG H bs e) i) (v.ren (M9 H bs)) c:=by
 refine Bh.ren (x:=cx (Xs X h H bs) d e i) (y:=cx X (LQ h H bs d) (RG H bs e) i) (ρ:=M9 H bs) (p:=λ_=>true) (λj _ k=>VW (h:=h) (hc:=d) g f j k) rfl (λB a=>?_) r (kF v);rcases a with a|a
 ·exact .inl (.inl a)
 ·rcases gF g f l a with a|a
  ·exact .inl (.inr a)
  ·exact .inr a
def lP(f:bs.Nodup)(d: ∀b∈bs,b<H.length){i j:Nat}(e:M9 H bs i=M9 H bs j):i=j:=by
 unfold M9 at e;split at e<;>split at e
 ·rename_i a c;rw[Dr,Ay a,Dr,Ay c]at e;simp only[PK]at e;rw[<-U6 f (Ay a),<-U6 f (Ay c),e]
 ·rename_i a c;rw[Dr,Ay a]at e;have:=d _ (Nw a);simp only[PK]at e;omega
 ·rename_i a c;rw[Dr (i:=j),Ay c]at e;have:=d _ (Nw c);simp only[PK]at e;omega
 ·omega
def Ik.back{E:Gh}{W:Aq}{w':World}(s:Ik X h H w)(d:bs.Nodup)(y: ∀b∈bs,b<H.length)(x:HS (Tg h bs) (Wm H bs) w E W w')
  (sc:Ik (Xs X h H bs) E W w'):Ik X (LQ h H bs E) (RG H bs W) w':=by
 have Y:bs.length<=W.length:=by have:=x.n;simpa[Wm]using this
 have xb:=HS.back (h:=h) d y x;have N: ∀{A:Nat} {e:EM} {B:Nat} {o:Obj},A∉bs->H[A]? =some e->e≠ .dead->h.io A=some B->w.heap[B]? =some o->w'.heap[B]? =some o:=by intro A e B o C P a0 c k;refine(x.keep B (LR k) λho=>?_).trans k;obtain⟨b,e',a6,R,h0,h4⟩:=Zp ho;exact C (s.inj A b e e' B P R a0 h0 c h4▸a6)
 have lt: ∀{j:Nat} {F:EM},W[j]? =some F->j<W.length:=by
  intro j F I;rcases Ag j W.length with G|G
  ·exact G
  ·rw[BP G]at I;cases I
 refine⟨λB Z=>⟨DD (s.out B Z).1 x.size,λho=>?_⟩,λA g cs he=>?_,λA L he=>?_,λA a7 e e' B Q G as ax R h4=>?_,λA e he Z=>?_⟩
 ·rcases gF d y Y ho with⟨A,e,_,Q,h0,G⟩|ho
  ·exact(s.out B Z).2 ⟨A,e,Q,h0,G⟩
  ·exact(sc.out B (.inl Z)).2 ho
 ·rcases RH d Y he with⟨C,p,P⟩|⟨j,F,rfl,I,a⟩
  ·obtain⟨hg,U⟩:=s.live A g cs P;refine⟨by simpa[cx,LQ,C,p]using hg,?_⟩;rcases U with⟨hn,rfl⟩|⟨B,ad,T,fz,f,c,k,S,ar,ap,D⟩
   ·exact .inl ⟨by simpa[cx,LQ,C,p]using hn,rfl⟩
   ·refine .inr ⟨B,ad,T,fz,f,by simpa[cx,LQ,C,p]using c,N C P (by simp) c k,by simpa[cx,LQ,C,p]using S,ar,ap,λi v hi=>?_⟩;obtain⟨Q,G,R⟩:=D i v hi;exact⟨Q,G,R.later (xb.later X)⟩
  ·cases F with
   |dead=>simp[EM.ren]at a
   |lp L=>simp[EM.ren]at a
   |bld=>simp[EM.ren]at a
   |brow=>simp[EM.ren]at a
   |mp=>simp[EM.ren]at a
   |it=>simp[EM.ren]at a
   |live g0 al=>
    simp only[EM.ren,EM.live.injEq]at a;obtain⟨rfl,rfl⟩:=a;obtain⟨_,r1,r2,r3⟩:=VW (h:=h) (hc:=E) d y j (lt I);obtain⟨hg,U⟩:=sc.live j g al I;refine⟨r1.trans hg,?_⟩;rcases U with⟨hn,rfl⟩|⟨B,ad,T,fz,f,c,k,S,ar,ap,D⟩
    ·exact .inl ⟨r2.trans hn,rfl⟩
    ·refine .inr ⟨B,ad,T,fz,f,r2.trans c,k,S.trans r3.symm,by rw[Nm,Cm];exact ar,ap,λi v hi=>?_⟩;rw[Nm,Bb]at hi;cases hu:al[i]? with
     |none=>rw[hu]at hi;cases hi
     |some u=>rw[hu]at hi;simp only[BB,AV]at hi;subst hi;obtain⟨Q,G,R⟩:=D i u hu;exact⟨Q,G,Bh.back d y Y R⟩
 ·rcases RH d Y he with⟨C,p,P⟩|⟨j,F,rfl,I,a⟩
  ·obtain⟨hg,B,r,c,k,Q,G,R,h4,h5,h6,h7⟩:=s.lp A L P;exact⟨by simpa[cx,LQ,C,p]using hg,B,r,by simpa[cx,LQ,C,p]using c,N C P (by simp) c k,Q,G,R,h4,h5,h6,λt v m=>⟨(h7 t v m).1,(h7 t v m).2.later (xb.later X)⟩⟩
  ·cases F with
   |dead=>simp[EM.ren]at a
   |live g0 al=>simp[EM.ren]at a
   |bld=>simp[EM.ren]at a
   |brow=>simp[EM.ren]at a
   |mp=>simp[EM.ren]at a
   |it=>simp[EM.ren]at a
   |lp L0=>simp only[EM.ren,EM.lp.injEq]at a;subst a;obtain⟨_,r1,r2,r3⟩:=VW (h:=h) (hc:=E) d y j (lt I);obtain⟨hg,B,r,c,k,Q,G,R,h4,h5,h6,h7⟩:=sc.lp j L0 I;refine⟨r1.trans hg,B,r,r2.trans c,k,Q,G,R,h4,h5,h6,λt v m=>?_⟩;obtain⟨q,hq,e⟩:=BX.1 m;simp only[Br]at e;obtain⟨rfl,rfl⟩:=e;exact⟨(h7 q.1 q.2 hq).1,Bh.back d y Y (h7 q.1 q.2 hq).2⟩
 ·have key: ∀{A:Nat} {e:EM},(RG H bs W)[A]? =some e→e≠ .dead→(LQ h H bs E).io A=some B→
    (A∉bs/\H[A]? =some e/\h.io A=some B)\/ ∃j F,A=M9 H bs j/\W[j]? =some F/\F≠ .dead/\E.io j=some B:=by
   intro A e he a0 c;rcases RH d Y he with⟨C,p,P⟩|⟨j,F,rfl,I,a⟩
   ·exact .inl ⟨C,P,by simpa[LQ,C,p]using c⟩
   ·exact .inr ⟨j,F,rfl,I,λh0=>a0 (a.trans (qt.2 h0)),by rw[<-(VW (h:=h) (hc:=E) d y j (lt I)).2.2.1];exact c⟩
  rcases key Q as R with⟨m1,a1,b1⟩|⟨j1,g1,e1,a1,d1,b1⟩<;>rcases key G ax h4 with⟨m2,a2,b2⟩|⟨j2,g2,e2,a2,d2,b2⟩
  ·exact s.inj _ _ _ _ B a1 a2 as ax b1 b2
  ·exact((sc.out B (.inr ⟨_,_,m1,a1,as,b1⟩)).2 ⟨j2,g2,a2,d2,b2⟩).elim
  ·exact((sc.out B (.inr ⟨_,_,m2,a2,ax,b2⟩)).2 ⟨j1,g1,a1,d1,b1⟩).elim
  ·rw[e1,e2,sc.inj _ _ _ _ B a1 a2 d1 d2 b1 b2]
 ·rcases RH d Y he with⟨C,p,P⟩|⟨j,F,rfl,I,rfl⟩
  ·have b:=s.bld A e P Z;have a:e.ren (λx=>x)=e:=by cases e<;>simp_all[EM.ren,EM.isB]
   have:=b.ren (h':=LQ h H bs E) (H':=RG H bs W) (w':=w') (id':=A) (ρ:=λx=>x) (by simp[LQ,C,p]) (by simp[LQ,C,p]) (by simp[LQ,C,p]) (λB o c hb=>(N C P (by rintro rfl;cases Z) c hb).trans hb.symm) λT e1 a3 l a4 hr=>?_
   ·rwa [a]at this
   ·rcases RH d Y hr with⟨J,M,O⟩|⟨j,F,rfl,I,z⟩
    ·exact⟨O,by simp[LQ,J,M],λB o c hb=>(N J O (by simp) c hb).trans hb.symm⟩
    ·exfalso;cases F with
     |brow o=>
      simp only[EM.ren,EM.brow.injEq]at z;unfold M9 at z;split at z
      ·rename_i ho;exact C (by rw[z,Dr,Ay ho];simp)
      ·omega
     |_=>simp[EM.ren]at z
  ·rw[ZC]at Z;obtain⟨_,r1,r2,r3⟩:=VW (h:=h) (hc:=E) d y j (lt I);refine(sc.bld j F I Z).ren r2 r1 r3 (λ_ _ _ _=>rfl) λT e1 a3 l a4 hr=>?_;rcases RH d Y hr with⟨J,M,O⟩|⟨j2,e2,a5,O,K⟩
   ·exfalso;unfold M9 at J M;split at J
    ·rename_i V;rw[Dr,Ay V]at J;exact J (by simp)
    ·rename_i V;rw[if_neg V]at M;omega
   ·have:=lP d y a5;subst this;have a8:=(VW (h:=h) (hc:=E) d y a3 (lt O)).2.2.1;refine⟨?_,a8,λ_ _ _ _=>rfl⟩;cases e2 with
    |brow o=>simp only[EM.ren,EM.brow.injEq]at K;rw[O,lP d y K]
    |_=>simp[EM.ren]at K
end
def gZ(env:Env)(c:Call)(first caps:List AW):List AW:=first++c.args.toList.map (A8 env)++caps
def fI(P:Program)(s f:Nat):Option (Nat×TypeId×Nat):=
 match P.underlying s with
 |some (.struct fs)=>
  match fs[f]? with
  |some fd=>
   match tI P fd.type with
   |some (_,n)=>some (fd.offset,fd.type,n)
   |none=>none
  |none=>none
 |_=>none
def eI(P:Program)(t:TypeId):Option (Option Nat×TypeId×Nat):=
 match P.underlying t with
 |some (.array len e)=>(tI P e).map λi=>(some len,e,i.2)
 |some (.slice e)=>(tI P e).map λi=>(none,e,i.2)
 |_=>none
inductive Kd where
 |bool|int (k:IntKind)|str|bytes|other
 deriving DecidableEq
def kd(P:Program)(t:TypeId):Kd:=
 match P.underlying t with
 |some .bool=>.bool
 |some (.int k)=>.int k
 |some .string=>.str
 |some (.slice e)=>match P.underlying e with|some (.int .u8)=>.bytes|_=>.other
 |_=>.other
def RI(H:Aq)(id g:Nat):Bool:=
 match H[id]? with
 |some (.live g' _)=>g'==g
 |_=>false
def Ik.cur{X:Nat->Prop}{h:Gh}{H:Aq}{w:World}(s:Ik X h H w){b g:Nat}(a:RI H b g=true):h.gen b=g:=by
 unfold RI at a;split at a
 ·rename_i d c e;have:=(s.live b d c e).1;simp at a;exact this.trans a
 ·cases a
def shift(H:Aq)(k:Nat):AW->Option AW
 | .ptr id g off=>if RI H id g then some (.ptr id g (off+k))else none
 | .vptr cs=>if k<=cs.length then some (.vptr (cs.drop k))else none
 |_=>none
def oH{X:Nat→Prop}{h:Gh}{H:Aq}{w:World}(s:Ik X h H w){k:Nat}{v u:AW}{c:Value}(r:Bh (cx X h H w) v c)(b:shift H k v=some u):
  ∃B a,c= .pointer (some ⟨B,a,none⟩)/\Bh (cx X h H w) u (.pointer (some ((⟨B,a,none⟩:Addr).add k))):=by
 cases r with
 | @ptr y g a c l p x i=>
  simp only[shift]at b;split at b
  ·rename_i d;simp only[AV]at b;subst b;obtain⟨B,m,rfl⟩:=i (s.cur d);refine⟨B,a,rfl,.ptr l p rfl λ_=>⟨B,m,by rw[Nv]⟩⟩
  ·cases b
 | @vptr t B a f o n i q=>
  simp only[shift]at b;split at b
  ·simp only[AV]at b;subst b;refine⟨B,a,rfl,?_⟩;rw[Nv];refine .vptr (λj=>f (k+j)) o n (λj v e=>?_) λj v e=>?_
   ·rw[Hm]at e;rw[PH];exact i _ v e
   ·rw[Hm]at e;exact q _ v e
  ·cases b
 |_=>simp only[shift]at b;cases b
def TW(P:Program)(H:Aq)(s f:Nat)(v:AW):Option AW:=
 match fI P s f with
 |some (off,_,n)=>if n=0 then none else shift H off v
 |none=>none
def mw{P:Program}{X:Nat→Prop}{h:Gh}{H:Aq}{w:World}(sim:Ik X h H w){s f:Nat}{v u:AW}{c:Value}(r:Bh (cx X h H w) v c)(d:TW P H s f v=some u):
  ∃i,(Instr.fieldAt s c f).run P w= .ok i w/\Bh (cx X h H w) u i:=by
 unfold TW at d;split at d
 ·rename_i k t n a;split at d
  ·cases d
  ·rename_i hn;obtain⟨B,o,rfl,hr⟩:=oH sim r d;unfold fI at a;split at a
   ·rename_i p g;split at a
    ·rename_i l e;split at a
     ·rename_i b m j;simp only[AV,Br]at a;obtain⟨rfl,rfl,rfl⟩:=a;refine⟨_,?_,hr⟩;simp[Instr.fieldAt,run_underlying g,e,Instr.sureAddr,fieldPlace,KJ j,hn]
     ·cases a
    ·cases a
   ·cases a
 ·cases d
def Tb(P:Program)(H:Aq)(t:TypeId)(v:AW)(i:AW):Option AW:=
 match eI P t,i with
 |some (some len,_,sz),.int _ i=>if 0<=i/\i<len then shift H (i.toNat*sz) v else none
 |some (none,_,sz),.int _ i=>
  match v with
  | .vs sz' rows=>if 0<=i/\sz=sz' then(rows[i.toNat]?).map λe=>.vptr e.cells else none
  | .sl id g sz' off len=>if 0<=i/\i<len/\sz=sz'/\RI H id g=true then some (.ptr id g (off+i.toNat*sz))else none
  |_=>none
 |_,_=>none
def nA{P:Program}{X:Nat→Prop}{h:Gh}{H:Aq}{w:World}(sim:Ik X h H w){t:TypeId}{v i u:AW}{c Q:Value}(r:Bh (cx X h H w) v c)(T:Bh (cx X h H w) i Q)
  (l:Tb P H t v i=some u): ∃O,(Instr.indexAt t c Q).run P w= .ok O w/\Bh (cx X h H w) u O:=by
 unfold Tb at l;split at l
 ·rename_i len e sz k n b;cases T;split at l
  ·rename_i A;obtain⟨B,o,rfl,hr⟩:=oH sim r l;unfold eI at b;split at b
   ·rename_i F y d;cases m:tI P y with
    |none=>rw[m]at b;cases b
    |some p=>rw[m]at b;simp only[BB,AV,Br]at b;obtain⟨rfl,rfl,rfl⟩:=b;refine⟨_,?_,hr⟩;simp[Instr.indexAt,asIntOf,run_underlying d,Instr.sureAddr,A,KJ m]
   ·rename_i y d;cases m:tI P y with
    |none=>rw[m]at b;cases b
    |some p=>rw[m]at b;simp at b
   ·cases b
  ·cases l
 ·rename_i e sz k n b;cases T;have d: ∃i,P.underlying t=some (.slice e)/\tI P e=some i/\i.2=sz:=by
   unfold eI at b;split at b
   ·rename_i F y d;cases m:tI P y with
    |none=>rw[m]at b;cases b
    |some p=>rw[m]at b;simp at b
   ·rename_i y d;cases m:tI P y with
    |none=>rw[m]at b;cases b
    |some p=>rw[m]at b;simp only[BB,AV,Br]at b;obtain⟨_,rfl,rfl⟩:=b;exact⟨p,d,m,rfl⟩
   ·cases b
  obtain⟨p,d,m,rfl⟩:=d;cases r with
  | @vs N q a cap f C Y S W Z=>
   simp only at l;split at l
   ·rename_i A;obtain⟨G,rfl⟩:=A;cases x:q[n.toNat]? with
    |none=>rw[x]at l;cases l
    |some R=>
     rw[x]at l;simp only[BB,AV]at l;subst l;have s:n.toNat<q.length:=by
      rcases Ag n.toNat q.length with I|I
      ·exact I
      ·rw[BP I]at x;cases x
     obtain⟨B,z,rfl,V,U,J⟩:=W (by intro e;rw[e]at s;simp at s);refine⟨.pointer (some ⟨B,z+n.toNat*p.2,none⟩),?_,.vptr (λj=>f n.toNat j) V U (λj v M=>?_) λj v M=>Z _ R _ v x M⟩
     ·have E:n<q.length:=by omega
      simp[Instr.indexAt,asIntOf,run_underlying d,G,E,KJ m,Nv]
     ·have:=J _ R j v x M;rw[PH];exact this
   ·cases l
  | @sl id g N z len c K x h1 J=>
   simp only at l;split at l
   ·rename_i A;obtain⟨G,s,rfl,D⟩:=A;simp only[AV]at l;subst l;rcases J (sim.cur D)with⟨_,hl,_,_⟩|⟨B,cap,L,C,_,rfl⟩
    ·omega
    ·refine⟨.pointer (some ⟨B,z+n.toNat*p.2,none⟩),?_,.ptr K x rfl λ_=>⟨B,L,rfl⟩⟩;simp[Instr.indexAt,asIntOf,run_underlying d,G,s,KJ m,Nv]
   ·cases l
  |_=>cases l
 ·cases l
def kQ(P:Program)(t:TypeId)(cs:List AW)(off:Nat):Option AW:=
 match tI P t with
 |some (true,n)=>if off+n<=cs.length then some (.agg ((cs.drop off).take n))else none
 |some (false,_)=>cs[off]?
 |none=>none
def qj{P:Program}{x:Cx}{w:World}{t:TypeId}{g:List AW}{b:Array Value}{a:Nat}{u:AW}(q:b.size=g.length)(l: ∀(j:Nat) (c:Value),b[j]? =some c→c.oneCell'=true)
  (k: ∀(j:Nat) (v:AW) (c:Value),g[j]? =some v->b[j]? =some c->Bh x v c) (d:kQ P t g a=some u): ∃c,(part t b a).run P w= .ok c w/\Bh x u c:=by
 unfold kQ at d;split at d
 ·rename_i n h;split at d
  ·rename_i o;simp only[AV]at d;subst d;refine⟨.agg (b.extract a (a+n)),by simp[part,VD h,KJ h],.agg (by simp;omega) (λj c f=>?_) λj v c f e=>?_⟩
   ·rw[pZ]at f;split at f
    ·exact l _ c f
    ·cases f
   ·rw[pZ]at e;split at e
    ·rename_i m;rw[IP,if_pos (by omega),Hm]at f;exact k _ v c f e
    ·cases e
  ·cases d
 ·rename_i n h;have p:a<g.length:=by
   rcases Ag a g.length with i|i
   ·exact i
   ·rw[BP i]at d;cases d
  have e:b[a]? =some (b[a]'(by omega)):=H9 (by omega);exact⟨_,by simp[part,VD h,e],k a u _ d e⟩
 ·cases d
def lc(P:Program)(s f:Nat)(v:AW):Option AW:=
 match fI P s f,v with
 |some (off,t,_),.agg cs=>kQ P t cs off
 |_,_=>none
def ug{P:Program}{x:Cx}{w:World}{s f:Nat}{v u:AW}{c:Value}(r:Bh x v c)(d:lc P s f v=some u): ∃b,(Instr.field s c f).run P w= .ok b w/\Bh x u b:=by
 unfold lc at d;split at d
 ·rename_i o t n i a;cases r with
  | @agg i j g k m=>
   obtain⟨b,l,hr⟩:=qj (P:=P) (w:=w) g k m d;unfold fI at a;split at a
   ·rename_i q h;split at a
    ·rename_i p e;split at a
     ·simp only[AV,Br]at a;obtain⟨rfl,rfl,rfl⟩:=a;exact⟨b,by simp[Instr.field,run_underlying h,e,asAgg,l],hr⟩
     ·cases a
    ·cases a
   ·cases a
 ·cases d
def db(P:Program)(t:TypeId)(v i:AW):Option AW:=
 match v,i with
 | .agg cs,.int _ i=>
  match eI P t with
  |some (some len,e,sz)=>if 0<=i/\i<len then kQ P e cs (i.toNat*sz)else none
  |_=>none
 | .str s,.int _ i=>if kd P t= .str/\0<=i then(s[i.toNat]?).map λb=>.int .u8 b.toNat else none
 |_,_=>none
def mG{P:Program}{t:TypeId}(h:kd P t= .str):P.underlying t=some .string:=by unfold kd at h;split at h<;>first|assumption|(split at h<;>cases h)|cases h
def AAa{P:Program}{t:TypeId}{k:IntKind}(h:kd P t= .int k):P.underlying t=some (.int k):=by unfold kd at h;split at h<;>first|(injection h with h;subst h;assumption)|(split at h<;>cases h)|cases h
def un{P:Program}{x:Cx}{w:World}{t:TypeId}{v i u:AW}{c A:Value}(r:Bh x v c)(C:Bh x i A)(a:db P t v i=some u): ∃h,(Instr.index t c A).run P w= .ok h w/\Bh x u h:=by
 unfold db at a;split at a
 ·rename_i D k n;cases C;split at a
  ·rename_i len e sz d;split at a
   ·rename_i j;cases r with
    | @agg D E z F J=>
     obtain⟨h,G,hr⟩:=qj (P:=P) (w:=w) z F J a;unfold eI at d;split at d
     ·rename_i B m g;cases f:tI P m with
      |none=>rw[f]at d;cases d
      |some p=>rw[f]at d;simp only[BB,AV,Br]at d;obtain⟨rfl,rfl,rfl⟩:=d;exact⟨h,by simp[Instr.index,asIntOf,run_underlying g,j,KJ f,G],hr⟩
     ·rename_i m g;cases f:tI P m with
      |none=>rw[f]at d;cases d
      |some p=>rw[f]at d;simp at d
     ·cases d
   ·cases a
  ·cases a
 ·rename_i s k n;cases C;cases r with
  | @str s l I=>
   split at a
   ·rename_i j;subst I;cases q:l.data.toList[n.toNat]? with
    |none=>rw[q]at a;cases a
    |some b=>
     rw[q]at a;simp only[BB,AV]at a;subst a;have o:l[n.toNat]? =some b:=by
      obtain⟨H,d⟩:=Pf.1 q;have y:n.toNat<l.size:=by simpa using H
      rw[getElem?_pos l n.toNat y];exact congrArg some d
     exact⟨.int .u8 b.toNat,by simp[Instr.index,asIntOf,run_underlying (mG j.1),j.2,o],.int _ _⟩
   ·cases a
 ·cases a
def vO(P:Program)(g:TypeId->Option (List Kd)):List Field->Nat->Option (List Kd)
 |[],_=>some []
 |f::r,off=>
  if f.offset=off/\(f.name== "_")=false then
   match g f.type with
   |some ks=>if ks.length=P.cellsOf f.type then(vO P g r (off+ks.length)).map (ks++ ·)else none
   |none=>none
  else none
def oV(P:Program):Nat->TypeId->Option (List Kd)
 |0,_=>none
 |d+1,t=>
  match P.underlying t with
  |some .bool=>some [.bool]
  |some (.int k)=>some [.int k]
  |some .string=>some [.str]
  |some (.array n e)=>
   match oV P d e with
   |some ks=>if ks.length=P.cellsOf e/\(P.info? e).isSome then some (List.replicate n ks).flatten else none
   |none=>none
  |some (.struct fs)=>if P.stoodInHeld t then none else vO P (oV P d) fs.toList 0
  |_=>none
def sC:Kd->AW->Bool
 | .bool,.bool _=>true
 | .int k,.int k' _=>decide (k=k')
 | .str,.str _=>true
 |_,_=>false
def typed:List Kd->List AW->Bool
 |[],[]=>true
 |k::ks,v::vs=>sC k v&&typed ks vs
 |_,_=>false
def sEq:AW->AW->Bool
 | .bool a,.bool b=>a==b
 | .int _ a,.int _ b=>a==b
 | .str a,.str b=>a==b
 |_,_=>false
def mv:List AW->List AW->Bool
 |[],[]=>true
 |a::as,b::bs=>sEq a b&&mv as bs
 |_,_=>false
def Uz{k1 b:List Kd}: ∀{a:List AW},typed (k1++b) a=true->typed k1 (a.take k1.length)=true/\typed b (a.drop k1.length)=true:=by
 induction k1 with
 |nil=>intro a h;exact⟨by simp[typed],by simpa using h⟩
 |cons k f e=>
  intro a h;cases a with
  |nil=>simp[typed]at h
  |cons v a=>simp only[Dg,typed,BM]at h;obtain⟨c,d⟩:=e h.2;exact⟨by simp[typed,h.1,c],by simpa using d⟩
def Gc: ∀{a:List Kd} {b:List AW},typed a b=true->b.length=a.length
 |[],[],_=>rfl
 |_::_,_::_,h=>by simp only[typed,BM]at h;simp[Gc h.2]
 |[],_::_,h=>by simp[typed]at h
 |_::_,[],h=>by simp[typed]at h
def jI: ∀(n:Nat) (c bs:List AW),c.length=bs.length->mv c bs=(mv (c.take n) (bs.take n)&&mv (c.drop n) (bs.drop n))
 |0,c,bs,_=>by simp[mv]
 |n+1,[],[],_=>by simp[mv]
 |n+1,a::c,b::bs,h=>by simp only[BC,Nat.add_right_cancel_iff]at h;simp only[mv,Z0,YV,jI n c bs h,Bool.and_assoc]
 |n+1,[],_::_,h=>by simp at h
 |n+1,_::_,[],h=>by simp at h
def Over(P:Program)(x:Cx)(t:TypeId)(as:List AW)(a:Value):Prop:=
 ∃(b:Bool) (n:Nat) (cs:List Value),tI P t=some (b,n)/\as.length=n/\eS x as cs/\(if b then a= .agg cs.toArray else cs=[a])
def EqF(P:Program)(d:Nat)(t:TypeId)(ks:List Kd):Prop:=
 ∀(w:World) (x:Cx) (a b:Value) (as bs:List AW),Over P x t as a->Over P x t bs b->typed ks as=true->typed ks bs=true->(Op.equalIn d t a b).run P w= .ok (mv as bs) w
def eM{P:Program}{x:Cx}{t:TypeId}{h:List AW}{d:List Value}{off n:Nat}{w:World}{b:Bool}(hr:eS x h d)(f:tI P t=some (b,n))(m:b=false→n=1)(o:off+n≤h.length):
  ∃a,(part t d.toArray off).run P w= .ok a w/\Over P x t ((h.drop off).take n) a:=by
 have e:eS x ((h.drop off).take n) ((d.drop off).take n):=by
  refine⟨by simp[hr.1],λj v c g i=>?_⟩;rw[IP]at g i;split at g
  ·rename_i k;rw[if_pos k]at i;rw[Hm]at g i;exact hr.2 _ v c g i
  ·cases g
 cases b with
 |true=>refine⟨.agg (d.toArray.extract off (off+n)),by simp[part,VD f,KJ f],true,n,(d.drop off).take n,f,by simp;omega,e,?_⟩;simp only[if_true,Value.agg.injEq];apply Array.toList_inj.1;simp only[Array.toList_extract,nN,VJ]
 |false=>
  obtain rfl:=m rfl;have l:off<d.length:=by rw[hr.1];omega
  refine⟨d[off],by simp[part,VD f,l],false,1,(d.drop off).take 1,f,by simp;omega,e,?_⟩;rw[if_neg (by simp),U3 l];rfl
def gK{P:Program}{d:Nat}{t:TypeId}{e:List Kd}(h:oV P d t=some e): ∃b,tI P t=some (b,P.cellsOf t)/\(b=false->e.length=1):=by
 cases d with
 |zero=>simp[oV]at h
 |succ d=>
  unfold oV at h;unfold tI Program.cellsOf;cases f:P.info? t with
  |none=>
   have a:P.underlying t=none:=by simp[Program.underlying,f]
   rw[a]at h;cases h
  |some i=>
   cases a:P.underlying t with
   |none=>rw[a]at h;cases h
   |some c=>rw[a]at h;refine⟨_,rfl,?_⟩;cases c<;>simp_all<;>(subst h;rfl)
def qu{P:Program}{d:Nat}{g:TypeId→Option (List Kd)}(C: ∀t i,g t=some i→EqF P d t i∧ ∃b,tI P t=some (b,P.cellsOf t)∧(b=false→i.length=1)){x:Cx}{w:World}{l bs:List AW}{H I:List Value}
  (A:eS x l H) (B:eS x bs I) (j:l.length=bs.length): ∀(m:List Field) (h:Nat) (i:List Kd),vO P g m h=some i->h<=l.length->typed i (l.drop h)=true->typed i (bs.drop h)=true->(Op.eqFields d H.toArray I.toArray m).run P w= .ok (mv (l.drop h) (bs.drop h)) w
 |[],h,i,hk,_,ta,tb=>by simp only[vO,AV]at hk;subst hk;have J:=Gc ta;have K:=Gc tb;rw[EA J,EA K];simp[Op.eqFields,mv]
 |f::m,h,i,hk,ho,ta,tb=>by
  simp only[vO]at hk;split at hk
  ·rename_i L;obtain⟨rfl,k⟩:=L;split at hk
   ·rename_i k1 u;split at hk
    ·rename_i o;cases hr:vO P g m (f.offset+k1.length)with
     |none=>rw[hr]at hk;cases hk
     |some N=>
      rw[hr]at hk;simp only[BB,AV]at hk;subst hk;obtain⟨q,y⟩:=Uz ta;obtain⟨r,z⟩:=Uz tb;obtain⟨s,b,D,n⟩:=C _ _ u;have E:=Gc q;have O:=Gc r;have v:f.name≠ "_" :=by simpa using k
      obtain⟨a,Q,F⟩:=eM (P:=P) (w:=w) (off:=f.offset) A D (λe=>o▸n e) (by rw[<-o];simp at E;omega);obtain⟨c,R,G⟩:=eM (P:=P) (w:=w) (off:=f.offset) B D (λe=>o▸n e) (by rw[<-o];simp at O;omega);rw[<-o]at F G;have p:=s w x a c _ _ F G q r;have M:=qu C (w:=w) A B j m (f.offset+k1.length) N hr (by simp at E;omega) (by simpa[LM]using y) (by simpa[LM]using z);rw[jI k1.length _ _ (by simp[j])];simp only[Op.eqFields,if_pos v,Sem.run_bind,Q,R,p,Result.andThen_ok];cases mv ((l.drop f.offset).take k1.length) ((bs.drop f.offset).take k1.length)
      ·simp
      ·simp only[D9,F3,if_false,Bool.true_and,M,LM]
    ·cases hk
   ·cases hk
  ·cases hk
def oC{P:Program}{d:Nat}{e:TypeId}{f:List Kd}(o:EqF P d e f){b:Bool}(s:tI P e=some (b,f.length))(j:b=false→f.length=1){x:Cx}{w:World}{h bs:List AW}{z A:List Value}
  (u:eS x h z) (v:eS x bs A) (g:h.length=bs.length): ∀(n i:Nat),i*f.length<=h.length->typed (List.replicate n f).flatten (h.drop (i*f.length))=true->typed (List.replicate n f).flatten (bs.drop (i*f.length))=true->(Op.eqItems d e f.length z.toArray A.toArray (List.range' i n)).run P w= .ok (mv (h.drop (i*f.length)) (bs.drop (i*f.length))) w
 |0,i,_,ta,tb=>by have B:=Gc ta;have C:=Gc tb;rw[EA (l:=h.drop _) (by simpa using B),EA (l:=bs.drop _) (by simpa using C)];simp[Op.eqItems,mv]
 |n+1,i,ho,ta,tb=>by
  rw[TH,TQ]at ta tb;obtain⟨q,k⟩:=Uz ta;obtain⟨r,m⟩:=Uz tb;have y:=Gc q;have E:=Gc r;obtain⟨a,H,F⟩:=eM (P:=P) (w:=w) (off:=i*f.length) u s j (by simp at y;omega);obtain⟨c,I,G⟩:=eM (P:=P) (w:=w) (off:=i*f.length) v s j (by simp at E;omega);have p:=o w x a c _ _ F G q r;rw[LM]at k m;have t:i*f.length+f.length=(i+1)*f.length:=by rw[EJ];omega
  rw[t]at k m;have D:=oC o s j (w:=w) u v g n (i+1) (by simp at y;omega) k m;rw[jI f.length _ _ (by simp[g]),LM,LM,t];rw[List.range'_succ];simp only[Op.eqItems,Sem.run_bind,H,I,p,Result.andThen_ok];cases mv ((h.drop (i*f.length)).take f.length) ((bs.drop (i*f.length)).take f.length)
  ·simp
  ·simp[D]
def oW{P:Program}(d:Nat): ∀(m:Nat) (t:TypeId) (y:List Kd),oV P m t=some y->EqF P (d+m) t y
 |0,_,_,h=>by simp[oV]at h
 |m+1,t,y,h=>by
  obtain⟨bt,T,_⟩:=gK h;intro w x a b F bs X Y o p;obtain⟨O,n1,xs,c,U,ra,j⟩:=X;obtain⟨Z,n2,ys,r,V,E,l⟩:=Y;rw[c]at r;simp only[AV,Br]at r;obtain⟨rfl,rfl⟩:=r;have I:=Gc o;have J:=Gc p;have g: ∀q,P.underlying t=some q->O=(match q with| .struct _| .array _ _=>true|_=>false):=by
   intro q S;unfold tI at c;rw[S]at c;split at c
   ·rename_i G;injection G with e;subst e;simp only[AV,Br]at c;exact c.1.symm
   ·cases c
  unfold oV at h;split at h
  ·rename_i f;simp only[AV]at h;subst h;have:=g _ f;simp only at this;subst this;simp only[F3,if_false]at j l;subst j l;match F,I,bs,J with
   |[u],_,[v],_=>have C:=ra.2 0 u a rfl rfl;have D:=E.2 0 v b rfl rfl;simp only[typed,Of]at o p;cases u<;>simp[sC]at o;cases v<;>simp[sC]at p;cases C;cases D;rw[show d+(m+1)=(d+m)+1 from rfl,run_equalIn_bool' w (d+m) t _ _ f];simp[mv,sEq]
  ·rename_i k f;simp only[AV]at h;subst h;have:=g _ f;simp only at this;subst this;simp only[F3,if_false]at j l;subst j l;match F,I,bs,J with
   |[u],_,[v],_=>have C:=ra.2 0 u a rfl rfl;have D:=E.2 0 v b rfl rfl;simp only[typed,Of]at o p;cases u<;>simp[sC]at o;cases v<;>simp[sC]at p;cases C;cases D;subst o p;rw[show d+(m+1)=(d+m)+1 from rfl,run_equalIn_int w (d+m) t _ _ _ _ f];simp[mv,sEq]
  ·rename_i f;simp only[AV]at h;subst h;have:=g _ f;simp only at this;subst this;simp only[F3,if_false]at j l;subst j l;match F,I,bs,J with
   |[u],_,[v],_=>
    have C:=ra.2 0 u a rfl rfl;have D:=E.2 0 v b rfl rfl;simp only[typed,Of]at o p;cases u<;>simp[sC]at o;cases v<;>simp[sC]at p;cases C with
    |str s1 Q=>
     cases D with
     |str s2 R=>subst Q R;rw[show d+(m+1)=(d+m)+1 from rfl,run_equalIn_string w (d+m) t _ _ f];simp[mv,sEq,ByteArray.toList_eq]
  ·rename_i n e f;split at h
   ·rename_i k1 A;split at h
    ·rename_i H;simp only[AV]at h;subst h;have:=g _ f;simp only at this;subst this;simp only[if_true]at j l;subst j l;obtain⟨N,s⟩:=VO.1 H.2;obtain⟨b,L,B⟩:=gK A;rw[<-H.1]at L;have i:=oC (oW d m e k1 A) L B (w:=w) ra E (by omega) n 0 (by simp) (by simpa using o) (by simpa using p);rw[show d+(m+1)=(d+m)+1 from rfl,run_equalIn_array w (d+m) _ _ f s,<-H.1,List.range_eq_range'];simpa using i
    ·cases h
   ·cases h
  ·rename_i K f;split at h
   ·cases h
   ·rename_i W;have:=g _ f;simp only at this;subst this;simp only[if_true]at j l;subst j l;have z:P.fieldsOf t=K:=by simp[Program.fieldsOf,f]
    have i:=qu (d:=d+m) (λt y M=>⟨oW d m t y M,gK M⟩) (w:=w) ra E (by omega) K.toList 0 y h (by simp) (by simpa using o) (by simpa using p);rw[show d+(m+1)=(d+m)+1 from rfl,run_equalIn_struct w (d+m) t _ _ (by rw[z];exact f) (by simpa using W),z];simpa using i
  ·cases h
def fi(op:BinOp)(k:IntKind)(a b:Int):Option AW:=
 match op with
 | .add=>some (.int k (k.wrap (a+b)))
 | .sub=>some (.int k (k.wrap (a-b)))
 | .mul=>some (.int k (k.wrap (a*b)))
 | .quo=>if b=0 then none else some (.int k (k.wrap (a.tdiv b)))
 | .rem=>if b=0 then none else some (.int k (a.tmod b))
 | .and=>some (.int k (k.wrap (BitVec.ofInt k.bits a&&&BitVec.ofInt k.bits b).toNat))
 | .or=>some (.int k (k.wrap (BitVec.ofInt k.bits a|||BitVec.ofInt k.bits b).toNat))
 | .xor=>some (.int k (k.wrap (BitVec.ofInt k.bits a^^^BitVec.ofInt k.bits b).toNat))
 | .andNot=>some (.int k (k.wrap (BitVec.ofInt k.bits a&&& ~~~BitVec.ofInt k.bits b).toNat))
 | .eql=>some (.bool (a==b))
 | .neq=>some (.bool (a !=b))
 | .lss=>some (.bool (decide (a<b)))
 | .leq=>some (.bool (decide (a<=b)))
 | .gtr=>some (.bool (decide (a>b)))
 | .geq=>some (.bool (decide (a>=b)))
 | .shl| .shr=>none
def rR{P:Program}{d:BinOp}{k:IntKind}{a b:Int}{t:TypeId}{u:AW}{x:Cx}(w:World)(h:fi d k a b=some u): ∃c,(binOp d t (.int k a) (.int k b)).run P w= .ok c w/\Bh x u c:=by
 cases d<;>simp only[fi]at h<;>(try split at h)<;>first
  |cases h;done
  |(simp only[AV]at h;subst h;first
    |exact⟨_,by simp[binOp,Op.intArith,Op.intDiv,Op.intBits,Op.intCmp, *],.int _ _⟩
    |exact⟨_,by simp[binOp,Op.intCmp, *],.bool _⟩)
def dl(op:BinOp)(k:IntKind)(a b:Int):Option AW:=
 if b<0 then none else
 match op with
 | .shl=>some (.int k (k.wrap (a*2^min b.toNat k.bits)))
 | .shr=>some (.int k (a.fdiv (2^min b.toNat k.bits)))
 |_=>none
def wA(P:Program)(t:TypeId):Option (List Kd):=
 if P.eqGuardType P.depth t then none else
 match oV P 12 t with
 |some ks=>if tI P t=some (true,ks.length)then some ks else none
 |none=>none
def oP(op:BinOp)(a b:List UInt8):Option AW:=
 match op with
 | .add=>if a.length+b.length<=9223372036854775807 then some (.str (a++b))else none
 | .eql=>some (.bool (a==b))
 | .neq=>some (.bool (a !=b))
 | .lss=>some (.bool (Op.bytesLess a b))
 | .leq=>some (.bool (Op.bytesLess a b||a==b))
 | .gtr=>some (.bool (!(Op.bytesLess a b||a==b)))
 | .geq=>some (.bool (!Op.bytesLess a b))
 |_=>none
def pg(P:Program)(op:BinOp)(t:TypeId)(x y:AW):Option AW:=
 match x,y with
 | .int k a,.int k' b=>
  match op with
  | .shl| .shr=>dl op k a b
  |_=>if k=k' then fi op k a b else none
 | .bool a,.bool b=>
  match op with
  | .eql=>if kd P t= .bool then some (.bool (a==b))else none
  | .neq=>if kd P t= .bool then some (.bool (!(a==b)))else none
  |_=>none
 | .str a,.str b=>oP op a b
 | .agg as,.agg bs=>
  match wA P t with
  |some ks=>
   if typed ks as=true/\typed ks bs=true then
    match op with
    | .eql=>some (.bool (mv as bs))
    | .neq=>some (.bool (!mv as bs))
    |_=>none
   else none
  |none=>none
 |_,_=>none
def tq{P:Program}{t:TypeId}(h:kd P t= .bool):P.underlying t=some .bool:=by unfold kd at h;split at h<;>first|assumption|(split at h<;>cases h)|cases h
def rA(t:ByteArray):t.toList=t.data.toList:=ByteArray.toList_eq t
def yH{P:Program}{e:BinOp}{t:TypeId}{x y:Operand}{a b u:AW}{f g:Value}{X:Cx}(w:World)(ra:Bh X a f)(B:Bh X b g)(h:pg P e t a b=some u):
  ∃c,(do eqGuard e t x y f g;binOp e t f g:Sem Value).run P w= .ok c w/\Bh X u c:=by
 unfold pg at h;split at h
 ·rename_i k n T U;cases ra;cases B;have m:(eqGuard e t x y (.int k n) (.int T U)).run P w= .ok () w:=by unfold eqGuard;cases e<;>simp
  simp only[Sem.run_bind,m,Result.andThen_ok];split at h
  ·unfold dl at h;split at h
   ·cases h
   ·rename_i D;simp only[AV]at h;subst h;exact⟨_,by simp[binOp,Op.shift,D],.int _ _⟩
  ·unfold dl at h;split at h
   ·cases h
   ·rename_i D;simp only[AV]at h;subst h;exact⟨_,by simp[binOp,Op.shift,D],.int _ _⟩
  ·split at h
   ·rename_i o;subst o;exact rR w h
   ·cases h
 ·rename_i p q;cases ra;cases B;have m:(eqGuard e t x y (.bool p) (.bool q)).run P w= .ok () w:=by unfold eqGuard;cases e<;>simp
  simp only[Sem.run_bind,m,Result.andThen_ok];split at h
  ·split at h
   ·rename_i o;simp only[AV]at h;subst h;exact⟨_,run_eql_bool w t p q (tq o),.bool _⟩
   ·cases h
  ·split at h
   ·rename_i o;simp only[AV]at h;subst h;refine⟨_,?_,.bool _⟩;simp only[binOp];simp[run_equal_bool w t p q (tq o)]
   ·cases h
  ·cases h
 ·rename_i s1 s2;cases ra with
  |str z L=>
   cases B with
   |str A O=>
    have m:(eqGuard e t x y (.string z) (.string A)).run P w= .ok () w:=by unfold eqGuard;cases e<;>simp
    simp only[Sem.run_bind,m,Result.andThen_ok];subst L O;unfold oP at h;split at h
    ·split at h
     ·rename_i S;simp only[AV]at h;subst h;have r: ¬(((z.size+A.size:Nat):Int)>IntKind.i64.max):=by
       have Z:z.data.toList.length=z.size:=by simp
       have e2:A.data.toList.length=A.size:=by simp
       have K:IntKind.i64.max=9223372036854775807:=by decide
       rw[K];omega
      exact⟨.string (z++A),by simp only[binOp];simp only[Op.stringOp,if_neg r];rfl,.str _ (by simp)⟩
     ·cases h
    all_goals first
     |cases h;done
     |(simp only[AV]at h
       subst h;exact⟨_,by simp only[binOp];simp[Op.stringOp,rA,bne],.bool _⟩)
 ·rename_i C bs;cases ra with
  | @agg C f V M Y=>
   cases B with
   | @agg bs g W N vb=>
    split at h
    ·rename_i ks d;unfold wA at d;split at d
     ·cases d
     ·rename_i H;split at d
      ·rename_i J F;split at d
       ·rename_i s;simp only[AV]at d;subst d;split at h
        ·rename_i i;have G:=oW (P:=P) 9988 12 t J F;have Q:=Gc i.1;have R:=Gc i.2;have l:(Op.equalIn 10000 t (.agg f) (.agg g)).run P w= .ok (mv C bs) w:=
          G w X (.agg f) (.agg g) C bs ⟨true,_,f.toList,s,by omega,⟨by simpa using V,λj v c I E=>Y j v c I (by simpa using E)⟩,by simp⟩
           ⟨true,_,g.toList,s,by omega,⟨by simpa using W,λj v c I E=>vb j v c I (by simpa using E)⟩,by simp⟩ i.1 i.2
         have m:(eqGuard e t x y (.agg f) (.agg g)).run P w= .ok () w:=run_eqGuard_agg w e t x y f g (by simpa using H);simp only[Sem.run_bind,m,Result.andThen_ok];split at h
         ·simp only[AV]at h;subst h;exact⟨_,by rw[run_eql_struct,l];rfl,.bool _⟩
         ·simp only[AV]at h;subst h;exact⟨_,by rw[run_neq_struct,l];rfl,.bool _⟩
         ·cases h
        ·cases h
       ·cases d
      ·cases d
    ·cases h
 ·cases h
def unV(op:UnOp)(v:AW):Option AW:=
 match op,v with
 | .neg,.int k n=>some (.int k (k.wrap (0-n)))
 | .xor,.int k n=>some (.int k (k.wrap (BitVec.ofInt k.bits (if k.signed then-1 else k.max)^^^BitVec.ofInt k.bits n).toNat))
 | .not,.bool b=>some (.bool !b)
 |_,_=>none
def AA5{P:Program}{b:UnOp}{v u:AW}{c:Value}{x:Cx}(w:World)(r:Bh x v c)(h:unV b v=some u): ∃a,(Op.unary b c).run P w= .ok a w/\Bh x u a:=by
 unfold unV at h;split at h
 ·cases r;simp only[AV]at h;subst h;exact⟨_,by simp[Op.unary,Op.intArith],.int _ _⟩
 ·cases r;simp only[AV]at h;subst h;exact⟨_,by simp only[Op.unary,Op.intBits];rfl,.int _ _⟩
 ·cases r;simp only[AV]at h;subst h;exact⟨_,by simp[Op.unary],.bool _⟩
 ·cases h
def rowsOf(H:Aq):AW->Option (List AW)
 | .vs sz rows=>if sz=1 then some (rows.flatMap AW.cells)else none
 | .sl id g sz off len=>
  match H[id]? with
  |some (.live g' cs)=>if g=g'/\sz=1/\off+len<=cs.length then some ((cs.drop off).take len)else none
  |_=>none
 | .nils=>some []
 |_=>none
def zY:List AW->Option (List UInt8)
 |[]=>some []
 | .int .u8 n::r=>(zY r).map (UInt8.ofNat n.toNat:: ·)
 |_=>none
def UW(P:Program)(H:Aq)(src dst:TypeId)(v:AW):Option AW:=
 match kd P dst,v with
 | .int k,.int _ n=>if(P.underlying src).isSome then some (.int k (k.wrap n))else none
 | .str,.str s=>if(P.underlying src).isSome then some (.str s)else none
 | .str,v=>
  if kd P src= .bytes then
   match rowsOf H v with
   |some cs=>(zY cs).map AW.str
   |none=>none
  else none
 |_,_=>none
def jk{sz:Nat}: ∀{rows:List AW},(∀(j:Nat) (e:AW),rows[j]? =some e->e.cells.length=sz)->(rows.flatMap AW.cells).length=rows.length*sz
 |[],_=>by simp
 |e::r,h=>by have b:=h 0 e rfl;have d:=jk (rows:=r) λj a c=>h (j+1) a (by simpa using c);simp only[Es,Ad,d,b,BC,EJ];omega
def flat_get{sz:Nat}(d:0<sz): ∀{rows:List AW},(∀(j:Nat) (e:AW),rows[j]? =some e→e.cells.length=sz)→ ∀(i:Nat) (v:AW),(rows.flatMap AW.cells)[i]? =some v→
  ∃e,rows[i/sz]? =some e/\e.cells[i%sz]? =some v
 |[],_,i,v,h=>by simp at h
 |e::r,h,i,v,hi=>by
  have k:=h 0 e rfl;simp only[Es]at hi;rcases Ag i sz with b|a
  ·rw[BW (by omega)]at hi;exact⟨e,by rw[Nat.div_eq_of_lt b];rfl,by rw[PI b];exact hi⟩
  ·rw[CG (by omega),k]at hi;obtain⟨c,l,m⟩:=flat_get d (rows:=r) (λj c n=>h (j+1) c (by simpa using n)) (i-sz) v hi;have f:i/sz=(i-sz)/sz+1:=by rw[<-Nat.add_div_right _ d,Nat.sub_add_cancel a]
   have g:i%sz=(i-sz)%sz:=by rw[<-Nat.add_mod_right (i-sz),Nat.sub_add_cancel a]
   exact⟨c,by rw[f];simpa using l,by rw[g];exact m⟩
def sj{P:Program}{X:Nat→Prop}{h:Gh}{H:Aq}{w:World}{v:AW}{c:Value}{K:List AW}(s:Ik X h H w)(r:Bh (cx X h H w) v c)(hr:rowsOf H v=some K):
  ∃a n cap V,c= .slice a n cap/\n=K.length/\eS (cx X h H w) K V/\((a=none/\n=0)\/ ∃C,a=some C/\(loadCells C n).run P w= .ok V.toArray w):=by
 cases r with
 |nils=>simp only[rowsOf,AV]at hr;subst hr;exact⟨none,0,0,[],rfl,rfl,⟨rfl,λ_ _ _ h=>by cases h⟩,.inl ⟨rfl,rfl⟩⟩
 | @vs sz b a cap f D as m Z hv=>
  simp only[rowsOf]at hr;split at hr
  ·rename_i R;subst R;simp only[AV]at hr;subst hr;have l:=jk m;rw[Nat.mul_one]at l;cases b with
   |nil=>
    cases a with
    |none=>exact⟨none,0,cap,[],rfl,rfl,⟨rfl,λ_ _ _ h=>by cases h⟩,.inl ⟨rfl,rfl⟩⟩
    |some C=>exact⟨some C,0,cap,[],rfl,rfl,⟨rfl,λ_ _ _ h=>by cases h⟩,.inr ⟨C,rfl,by simp[loadCells,loadCellsFrom]⟩⟩
   |cons Y I=>
    obtain⟨B,i,rfl,hO,hB,L⟩:=Z (by simp);generalize Y::I=b at*;refine⟨_,b.length,cap,(List.range b.length).map λj=>f j 0,rfl,l.symm,⟨by simp[l],λj v d A o=>?_⟩,.inr ⟨_,rfl,?_⟩⟩
    ·obtain⟨e,p,E⟩:=flat_get (by omega) m j v A;rw[Nat.div_one]at p;rw[Nat.mod_one]at E;have t:j<b.length:=by
      rcases Ag j b.length with y|y
      ·exact y
      ·rw[BP y]at p;cases p
     rw[Bb,M8 t]at o;simp only[BB,AV]at o;subst o;exact hv j e 0 v p E
    ·have:=run_loadCells (P:=P) w ⟨B,i,none⟩ b.length (λj=>f j 0) λj A=>by have J:b[j]? =some (b[j]):=Ay A;have hl:=m j _ J;have M:(b[j]).cells[0]? =some ((b[j]).cells[0]'(by omega)):=Ay (by omega);rw[Nv];have:=(L j _ 0 _ J M).1;simpa[cx]using this
     exact this
  ·cases hr
 | @sl id g sz i len c ap hg R L=>
  simp only[rowsOf]at hr;split at hr
  ·rename_i g' x J;split at hr
   ·rename_i z;obtain⟨rfl,rfl,ar⟩:=z;simp only[AV]at hr;subst hr;obtain⟨G,F⟩:=s.live id g x J;rcases L G with⟨q,rfl,rfl,rfl⟩|⟨B,cap,q,D,N,rfl⟩
    ·exact⟨none,0,0,[],rfl,by simp,⟨by simp,λ_ _ _ _ h=>by cases h⟩,.inl ⟨rfl,rfl⟩⟩
    ·rcases F with⟨hn,_⟩|⟨Q,W,T,fz,f,u,hb,S,U,al,k⟩
     ·rw[hn]at q;cases q
     ·have:Q=B:=by rw[q]at u;injection u with e;exact e.symm
      subst this;refine⟨_,len,cap,(List.range len).map λj=>f (i+j),rfl,by simp;omega,⟨by simp;omega,λj v d A o=>?_⟩,.inr ⟨_,rfl,?_⟩⟩
      ·have t:j<len:=by
        rcases Ag j len with y|y
        ·exact y
        ·rw[BP (by simpa using y)]at o;cases o
       rw[IP,if_pos t,Hm]at A;rw[Bb,M8 t]at o;simp only[BB,AV]at o;subst o;exact(k _ v A).2.2
      ·exact run_loadCells (P:=P) w ⟨Q,i,none⟩ len (λj=>f (i+j)) λj A=>by have O:x[i+j]? =some (x[i+j]'(by omega)):=Ay (by omega);rw[Nv,Og (w:=w) hb];exact(k _ _ O).1
   ·cases hr
  ·cases hr
 |_=>simp only[rowsOf]at hr;cases hr
def rB{x:Cx}: ∀{d:List AW} {b:List Value} {bs:List UInt8},eS x d b->zY d=some bs-> ∃e:List Int,b=e.map (Value.int .u8)/\bs=e.map λn=>UInt8.ofNat n.toNat
 |[],b,bs,hr,hb=>by simp only[zY,AV]at hb;subst hb;rw[EA hr.1];exact⟨[],rfl,rfl⟩
 |v::d,b,bs,hr,hb=>by
  match b,hr with
  |[],hr=>simp[eS]at hr
  |u::b,hr=>
   have i:=hr.2 0 v u rfl rfl;have p:eS x d b:=⟨by have:=hr.1;simpa using this,λj a c o m=>hr.2 (j+1) a c (by simpa using o) (by simpa using m)⟩
   unfold zY at hb;split at hb<;>rename_i f<;>(try cases f)<;>try (cases hb;done)
   cases g:zY d with
   |none=>rw[g]at hb;cases hb
   |some h=>rw[g]at hb;simp only[BB,AV]at hb;subst hb;obtain⟨e,k,l⟩:=rB p g;cases i;exact⟨_::e,by rw[k];rfl,by rw[l];rfl⟩
def r8(a:List Int): ∀s:ByteArray,(a.foldl (λr n=>r.push (UInt8.ofNat n.toNat)) s).data.toList=s.data.toList++a.map λn=>UInt8.ofNat n.toNat:=by
 induction a with
 |nil=>intro s;simp
 |cons n a b=>intro s;rw[TR,b];simp[ByteArray.push]
def wc{P:Program}{t:TypeId}(h:kd P t= .bytes): ∃e,P.underlying t=some (.slice e)/\P.underlying e=some (.int .u8):=by
 unfold kd at h;split at h<;>try (cases h;done)
 rename_i e b;split at h<;>try (cases h;done)
 rename_i a;exact⟨e,b,a⟩
def wG{P:Program}{X:Nat→Prop}{h:Gh}{H:Aq}{w:World}{o l:TypeId}{v u:AW}{c:Value}(s:Ik X h H w)(r:Bh (cx X h H w) v c)(b:UW P H o l v=some u):
  ∃y,(convert o l c).run P w= .ok y w/\Bh (cx X h H w) u y:=by
 unfold UW at b;split at b
 ·rename_i k I n j;split at b
  ·rename_i i;obtain⟨C,i⟩:=VO.1 i;simp only[AV]at b;subst b;cases r;exact⟨_,by simp[convert,run_underlying i,run_underlying (AAa j),Conv.intToInt],.int _ _⟩
  ·cases b
 ·rename_i J j;split at b
  ·rename_i i;obtain⟨C,i⟩:=VO.1 i;simp only[AV]at b;subst b;cases r with
   |str t G=>exact⟨_,by simp[convert,run_underlying i,run_underlying (mG j)],.str _ G⟩
  ·cases b
 ·rename_i L j _;split at b
  ·rename_i E;split at b
   ·rename_i B p;cases q:zY B with
    |none=>rw[q]at b;cases b
    |some bs=>
     rw[q]at b;simp only[BB,AV]at b;subst b;obtain⟨e,m,z⟩:=wc E;obtain⟨a,n,cap,K,rfl,hn,d,f⟩:=sj (P:=P) s r p;obtain⟨x,rfl,rfl⟩:=rB d q;rcases f with⟨rfl,F⟩|⟨A,rfl,g⟩
     ·have:x=[]:=by have D:=d.1;rw[Cm]at D;exact EA (by omega)
      subst this;exact⟨.string .empty,by simp[convert,run_underlying m,run_underlying (mG j),run_underlying z,Conv.bytesToString],.str _ rfl⟩
     ·refine⟨_,?_,.str _ (r8 x ByteArray.empty)⟩;simp only[convert,Sem.run_bind,run_underlying m,run_underlying (mG j),run_underlying z,Result.andThen_ok];exact run_bytesToString w A n cap x (by simpa using g)
   ·cases b
  ·cases b
 ·cases b
def kh(P:Program)(H:Aq)(t:TypeId)(v:AW):Option AW:=
 match P.underlying t,v with
 |some .string,.str s=>some (.int .i64 s.length)
 |some (.array n _),_=>some (.int .i64 n)
 |some (.slice _),.vs _ rows=>some (.int .i64 rows.length)
 |some (.slice _),.sl _ _ _ _ len=>some (.int .i64 len)
 |some (.slice _),.nils=>some (.int .i64 0)
 |_,_=>none
def ym{P:Program}{X:Nat→Prop}{h:Gh}{H:Aq}{w:World}{t ty:TypeId}{v u:AW}{c:Value}(s:Ik X h H w)(r:Bh (cx X h H w) v c)(b:kh P H t v=some u):
  ∃f,(Builtin.len_ #[t] ty #[c]).run P w= .ok f w/\Bh (cx X h H w) u f:=by
 unfold kh at b;split at b
 ·rename_i p d;simp only[AV]at b;subst b;cases r with
  |str j m=>
   refine⟨.int .i64 j.size,by simp[Builtin.len_,run_underlying d,goInt],?_⟩;have:p.length=j.size:=by rw[<-m];simp
   rw[this];exact .int _ _
 ·rename_i n e d;simp only[AV]at b;subst b;exact⟨.int .i64 n,by simp[Builtin.len_,run_underlying d,goInt],.int _ _⟩
 ·rename_i sz i d;simp only[AV]at b;subst b;cases r;exact⟨_,by simp[Builtin.len_,run_underlying d,goInt],.int _ _⟩
 ·rename_i y g sz o len d;simp only[AV]at b;subst b;cases r with
  |sl l x k q=>obtain⟨a,cap,rfl⟩:=k;exact⟨_,by simp[Builtin.len_,run_underlying d,goInt],.int _ _⟩
 ·rename_i d;simp only[AV]at b;subst b;cases r;exact⟨_,by simp[Builtin.len_,run_underlying d,goInt],.int _ _⟩
 ·cases b
def zp(mx:Bool):List AW->Option AW
 |[.int k a,.int _ b]=>some (.int k (if mx then(if b>a then b else a)else(if b<a then b else a)))
 |_=>none
def wo{P:Program}{x:Cx}{w:World}{mx:Bool}{ts:Array TypeId}{ty:TypeId}{d e u:AW}{b c:Value}(g:Bh x d b)(h:Bh x e c)(a:zp mx [d,e]=some u):
  ∃f,((if mx then Builtin.max_ ts ty #[b,c]else Builtin.min_ ts ty #[b,c]):Sem Value).run P w= .ok f w/\Bh x u f:=by
 cases d<;>try (simp[zp]at a;done)
 cases e<;>try (simp[zp]at a;done)
 cases g;cases h;simp only[zp,AV]at a;subst a;cases mx
 ·exact⟨_,by simp[Builtin.min_,Builtin.min2],.int _ _⟩
 ·exact⟨_,by simp[Builtin.max_,Builtin.max2],.int _ _⟩
def mm3:AW->AW->AW->Option AW
 | .int k a,.int _ b,.int _ c=>some (.int k (if c<(if b<a then b else a)then c else(if b<a then b else a)))
 |_,_,_=>none
def yr{P:Program}{x:Cx}{w:World}{ts:Array TypeId}{ty:TypeId}{f g h u:AW}{c d e:Value}(i:Bh x f c)(j:Bh x g d)(k:Bh x h e)(a:mm3 f g h=some u):
  ∃b,(Builtin.min_ ts ty #[c,d,e]).run P w= .ok b w/\Bh x u b:=by
 unfold mm3 at a;split at a
 ·cases i;cases j;cases k;simp only[AV]at a;subst a;exact⟨_,by simp[Builtin.min_,Builtin.min2],.int _ _⟩
 ·cases a
def mP:AW->Option Nat
 | .int _ i=>if 0<=i then some i.toNat else none
 |_=>none
def UA(d:Nat):Option AW->Option Nat
 |none=>some d
 |some v=>mP v
def dm(P:Program)(H:Aq)(t:TypeId)(v:AW)(lo hi mx:Option AW):Option AW:=
 match v with
 | .str s=>
  match UA 0 lo,UA s.length hi,mx with
  |some l,some h,none=>if kd P t= .str/\l<=h/\h<=s.length then some (.str ((s.drop l).take (h-l)))else none
  |_,_,_=>none
 | .vs sz rows=>
  match UA 0 lo,UA rows.length hi,UA rows.length mx,eI P t with
  |some l,some h,some m,some (none,_,sz')=>if sz=sz'/\l<=h/\h<=m/\m<=rows.length/\(mx.isSome=true->hi.isSome=true)then some (.vs sz ((rows.drop l).take (h-l)))else none
  |_,_,_,_=>none
 | .sl id g sz off len=>
  match UA 0 lo,UA len hi,UA len mx,eI P t with
  |some l,some h,some m,some (none,_,sz')=>
   if sz=sz'/\0<sz/\l<=h/\h<=m/\m<=len/\RI H id g=true/\(mx.isSome=true->hi.isSome=true)then
    if l=0 then some (.sl id g sz off h)else if l=h then some (.vs sz [])else some (.sl id g sz (off+l*sz) (h-l))
   else none
  |_,_,_,_=>none
 | .nils=>
  match UA 0 lo,UA 0 hi,UA 0 mx,eI P t with
  |some 0,some 0,some 0,some (none,_,_)=>if mx.isSome=true->hi.isSome=true then some .nils else none
  |_,_,_,_=>none
 |_=>none
def ux{x:Cx}{v:AW}{c:Value}{n:Nat}(r:Bh x v c)(h:mP v=some n): ∃k i,c= .int k i/\0<=i/\i.toNat=n:=by
 cases v<;>try (simp[mP]at h;done)
 rename_i k i;cases r;simp only[mP]at h;split at h
 ·rename_i a;simp only[AV]at h;exact⟨k,i,rfl,a,h⟩
 ·cases h
def Nn{P:Program}{w:World}{x:Cx}{v:AW}{c:Value}{n y:Nat}{code:BoundsCode}(r:Bh x v c)(h:mP v=some n)(b:n<=y):(Instr.sliceBound c y code).run P w= .ok n w:=by
 obtain⟨k,i,rfl,a,rfl⟩:=ux r h;have:i<=y:=by omega
 simp[Instr.sliceBound,asIntOf,a,this]
def V7{P:Program}{w:World}{x:Cx}{isSlice:Bool}{len cap l h m:Nat}{k j mx:Option AW}{e b cmx:Option Value}(i: ∀v,k=some v→ ∃c,e=some c∧Bh x v c)(g:k=none→e=none)
  (o: ∀v,j=some v-> ∃c,b=some c/\Bh x v c) (t:j=none->b=none) (z: ∀v,mx=some v-> ∃c,cmx=some c/\Bh x v c) (u:mx=none->cmx=none)
  (a:UA 0 k=some l) (q:UA len j=some h) (D:UA len mx=some m) (s:l<=h) (E:h<=m) (J:m<=len) (K:len<=cap) (F:mx.isSome=true->j.isSome=true):
  (Instr.sliceBounds isSlice len cap e b cmx).run P w= .ok (l,h,if mx.isSome then m else cap) w:=by
 unfold Instr.sliceBounds;cases mx with
 |none=>
  obtain rfl:=u rfl;cases j with
  |none=>
   obtain rfl:=t rfl;simp only[UA,AV]at q;subst q;cases k with
   |none=>obtain rfl:=g rfl;simp only[UA,AV]at a;simp[a]
   |some v=>obtain⟨d,rfl,r⟩:=i v rfl;have n:=λc=>Nn (P:=P) (w:=w) (code:=c) r a s;simp[n]
  |some A=>
   obtain⟨B,rfl,y⟩:=o A rfl;have p:=λc=>Nn (P:=P) (w:=w) (code:=c) y q (show h<=cap by omega);cases k with
   |none=>obtain rfl:=g rfl;simp only[UA,AV]at a;simp[a,p]
   |some v=>obtain⟨d,rfl,r⟩:=i v rfl;have n:=λc=>Nn (P:=P) (w:=w) (code:=c) r a s;simp[p,n]
 |some H=>
  obtain⟨I,rfl,G⟩:=z H rfl;have f:=F rfl;cases j with
  |none=>simp at f
  |some A=>
   obtain⟨B,rfl,y⟩:=o A rfl;have C:=λc=>Nn (P:=P) (w:=w) (code:=c) G D (show m<=cap by omega);have p:=λc=>Nn (P:=P) (w:=w) (code:=c) y q E;simp only[Sem.run_bind,C,p,Result.andThen_ok,Option.isSome_some,if_true];cases k with
   |none=>obtain rfl:=g rfl;simp only[UA,AV]at a;simp[a]
   |some v=>obtain⟨d,rfl,r⟩:=i v rfl;have n:=λc=>Nn (P:=P) (w:=w) (code:=c) r a s;simp[n]
def PM{P:Program}{t e:TypeId}{sz:Nat}(a:eI P t=some (none,e,sz)):P.underlying t=some (.slice e)/\ ∃b,tI P e=some (b,sz):=by
 unfold eI at a;split at a
 ·rename_i g f d;cases c:tI P f with
  |none=>rw[c]at a;cases a
  |some p=>rw[c]at a;simp at a
 ·rename_i f d;cases c:tI P f with
  |none=>rw[c]at a;cases a
  |some p=>rw[c]at a;simp only[BB,AV,Br]at a;obtain⟨_,rfl,rfl⟩:=a;exact⟨d,p.1,c⟩
 ·cases a
def vK{P:Program}{X:Nat→Prop}{h:Gh}{H:Aq}{w:World}{t:TypeId}{v u:AW}{c:Value}{lo W q:Option AW}{O N A:Option Value}(s:Ik X h H w)(r:Bh (cx X h H w) v c)
  (L: ∀v,lo=some v-> ∃c,O=some c/\Bh (cx X h H w) v c) (I:lo=none->O=none)
  (K: ∀v,W=some v-> ∃c,N=some c/\Bh (cx X h H w) v c) (G:W=none->N=none) (S: ∀v,q=some v-> ∃c,A=some c/\Bh (cx X h H w) v c) (J:q=none->A=none)
  (d:dm P H t v lo W q=some u): ∃c',(Instr.sliceAt t c O N A).run P w= .ok c' w/\Bh (cx X h H w) u c':=by
 unfold dm at d;split at d
 ·rename_i s';split at d
  ·rename_i l o T Q;split at d
   ·rename_i p;obtain⟨hk,h1,V⟩:=p;simp only[AV]at d;subst d;obtain rfl:=J rfl;cases r with
    |str t' ht=>
     have x:s'.length=t'.size:=by rw[<-ht];simp
     rw[x]at Q V;have p:=V7 (P:=P) (w:=w) (isSlice:=false) (len:=t'.size) (cap:=t'.size) (mx:=none) (cmx:=none) L I K G (λ_ h=>by cases h) (λ_=>rfl) T Q rfl h1 V (Aj _) (Aj _) (λh=>by cases h);refine⟨.string (t'.extract l o),?_,.str _ ?_⟩
     ·simp only[Instr.sliceAt,Instr.slice,Sem.run_bind,run_underlying (mG hk),Result.andThen_ok,Option.isSome_none,F3,if_false,p,Sem.run_pure]
     ·rw[<-ht];simp[nN]
   ·cases d
  ·cases d
 ·rename_i sz k;split at d
  ·rename_i l o m e a2 T Q em he;split at d
   ·rename_i p;obtain⟨rfl,h1,V,h3,h4⟩:=p;simp only[AV]at d;subst d;obtain⟨z,b,y⟩:=PM he;cases r with
    | @vs sz k a cap f C Z ap ha d=>
     have p:=V7 (P:=P) (w:=w) (isSlice:=true) (len:=k.length) (cap:=cap) L I K G S J T Q em h1 V h3 C h4;have E: ∀{j:Nat} {e:AW},((k.drop l).take (o-l))[j]? =some e->k[l+j]? =some e:=by
      intro j e F;rw[IP]at F;split at F
      ·rw[Hm]at F;exact F
      ·cases F
     have x:((k.drop l).take (o-l)).length=o-l:=by simp;omega
     refine⟨.slice (if(if q.isSome then m else cap)=l then a else a.map (·.add (l*sz))) (o-l) ((if q.isSome then m else cap)-l),?_,?_⟩
     ·simp only[Instr.sliceAt,Instr.slice,Sem.run_bind,run_underlying z,Result.andThen_ok,p,KJ y,Sem.run_pure]
     ·have hM:o<=(if q.isSome then m else cap):=by split<;>omega
      generalize (if q.isSome then m else cap)=M at hM;have U:Bh (cx X h H w) (.vs sz ((k.drop l).take (o-l))) (.slice (if M=l then a else a.map (·.add (l*sz))) ((k.drop l).take (o-l)).length (M-l)):=?_
      ·rw[x]at U;exact U
      refine .vs (λj i=>f (l+j) i) (by rw[x];omega) Z (λj e F=>ap _ e (E F)) (λa1=>?_) λj e i v F W=>d _ e i v (E F) W;have a4:l<o:=by
       rcases Ag l o with h5|h5
       ·exact h5
       ·have:((k.drop l).take (o-l))=[]:=EA (by omega);exact(a1 this).elim
      obtain⟨B,n,rfl,hO,hB,hc⟩:=ha (by intro e;rw[e]at h3;simp at h3;omega);refine⟨B,n+l*sz,?_,hO,hB,λj e i v F W=>?_⟩
      ·rw[if_neg (by omega)];simp[Nv]
      ·have:=hc _ e i v (E F) W;rw[EJ]at this;rw[show n+l*sz+(j*sz+i)=n+(l*sz+j*sz+i)from by omega];exact this
   ·cases d
  ·cases d
 ·rename_i id g sz n len;split at d
  ·rename_i l o m e a2 T Q em he;split at d
   ·rename_i p;obtain⟨rfl,Z,h1,V,h3,ad,h4⟩:=p;obtain⟨z,b,y⟩:=PM he;cases r with
    | @sl id g sz n len c Y hg a3 hc=>
     rcases hc (s.cur ad)with⟨R,rfl,rfl,rfl⟩|⟨B,cap,R,C,D,rfl⟩
     ·have p:=V7 (P:=P) (w:=w) (isSlice:=true) (len:=0) (cap:=0) L I K G S J T Q em h1 V h3 (Aj _) h4;have ax:l=0:=by omega
      have as:o=0:=by omega
      have a0:m=0:=by omega
      subst ax as a0;simp only[if_true,AV]at d;subst d;refine⟨.slice none 0 0,?_,.sl Y hg ⟨_,_,rfl⟩ λ_=>.inl ⟨R,rfl,rfl,rfl⟩⟩;simp only[Instr.sliceAt,Instr.slice,Sem.run_bind,run_underlying z,Result.andThen_ok,p,KJ y,Sem.run_pure];cases q<;>simp
     ·have p:=V7 (P:=P) (w:=w) (isSlice:=true) (len:=len) (cap:=cap) L I K G S J T Q em h1 V h3 C h4
      have ar:(Instr.sliceAt t (.slice (some ⟨B,n,none⟩) len cap) O N A).run P w=
        .ok (.slice (if(if q.isSome then m else cap)=l then some ⟨B,n,none⟩else(some ⟨B,n,none⟩:Option Addr).map (·.add (l*sz))) (o-l) ((if q.isSome then m else cap)-l)) w:=by
       simp only[Instr.sliceAt,Instr.slice,Sem.run_bind,run_underlying z,Result.andThen_ok,p,KJ y,Sem.run_pure]
      refine⟨_,ar,?_⟩;have hM:o<=(if q.isSome then m else cap)/\(if q.isSome then m else cap)<=cap:=by split<;>omega
      generalize (if q.isSome then m else cap)=M at hM;split at d
      ·rename_i hl;subst hl;simp only[AV]at d;subst d;refine .sl Y hg ⟨_,_,rfl⟩ λ_=>.inr ⟨B,M,R,hM.1,?_,?_⟩
       ·exact D4 (Nat.add_le_add_left (PJ _ hM.2) _) D
       ·simp[Nv]
      ·rename_i hl;split at d
       ·rename_i al;subst al;simp only[AV]at d;subst d;rw[G6];exact Bh.vs (rows:=[]) (λ_ _=>undef) (Cc _) Z (λ_ _ h=>by simp at h) (λh=>(h rfl).elim) λ_ _ _ _ h=>by simp at h
       ·rename_i al;simp only[AV]at d;subst d;refine .sl Y hg ⟨_,_,rfl⟩ λ_=>.inr ⟨B,M-l,R,by omega,?_,?_⟩
        ·rw[PH,<-EJ];have:l+(M-l)=M:=by omega
         rw[this];exact D4 (Nat.add_le_add_left (PJ _ hM.2) _) D
        ·rw[if_neg (by omega)];simp[Nv]
   ·cases d
  ·cases d
 ·split at d
  ·rename_i e sz T Q em he;split at d
   ·rename_i h4;simp only[AV]at d;subst d;obtain⟨z,b,y⟩:=PM he;cases r;have p:=V7 (P:=P) (w:=w) (isSlice:=true) (len:=0) (cap:=0) L I K G S J T Q em (Aj _) (Aj _) (Aj _) (Aj _) h4;refine⟨.slice none 0 0,?_,.nils⟩;simp only[Instr.sliceAt,Instr.slice,Sem.run_bind,run_underlying z,Result.andThen_ok,p,KJ y,Sem.run_pure];cases q<;>simp
   ·cases d
  ·cases d
 ·cases d
def AW.solid:AW->Bool
 | .any=>false
 | .tup _=>false
 |_=>true
def Y6{c:Value}(h:c.oneCell'=true):c.cells= #[c]:=by cases c<;>first|rfl|(simp[Value.oneCell']at h;done)
def T5{x:Cx}{v:AW}{c:Value}(r:Bh x v c)(h:v.solid=true):Bh x (.agg v.cells) (.agg c.cells):=by
 have one: ∀{u:AW} {d:Value},Bh x u d->d.oneCell'=true->d.cells= #[d]->u.cells=[u]->Bh x (.agg u.cells) (.agg d.cells):=by
  intro u d A g s z;rw[s,z];refine .agg rfl (λj c m=>?_) λj v c m l=>?_
  ·cases j with
   |zero=>simp at m;subst m;exact g
   |succ j=>simp at m
  ·cases j with
   |zero=>simp at m l;subst m l;exact A
   |succ j=>simp at m
 cases r with
 |agg p g q=>exact .agg p g q
 |any c=>simp[AW.solid]at h
 |tup p q=>simp[AW.solid]at h
 |ptr i o g l=>exact one (.ptr i o g l) g (Y6 g) rfl
 |sl i o g l=>obtain⟨a,cap,rfl⟩:=g;exact one (.sl i o ⟨a,cap,rfl⟩ l) rfl (Y6 rfl) rfl
 |bool b=>exact one (.bool b) rfl rfl rfl
 |int k n=>exact one (.int k n) rfl rfl rfl
 |str t y=>exact one (.str t y) rfl rfl rfl
 |nilp=>exact one .nilp rfl rfl rfl
 |vptr f a b c d=>exact one (.vptr f a b c d) rfl rfl rfl
 |nils=>exact one .nils rfl rfl rfl
 |vs f a b c d e=>exact one (.vs f a b c d e) rfl rfl rfl
 |fn a b c d=>exact one (.fn a b c d) rfl rfl rfl
 |yf i g l=>exact one (.yf i g l) g (Y6 g) rfl
 |mp i g l=>exact one (.mp i g l) g (Y6 g) rfl
 |itp i w g l=>exact one (.itp i w g l) g (Y6 g) rfl
 |nilf=>exact one .nilf rfl rfl rfl
def T4(cs:List AW)(off:Nat)(vs:List AW):List AW:=cs.take off++vs++cs.drop (off+vs.length)
def dk{b c:List AW}{a:Nat}(h:a+c.length<=b.length):(T4 b a c).length=b.length:=by simp[T4];omega
def mc{c b:List AW}{a:Nat}(h:a+b.length<=c.length)(j:Nat):(T4 c a b)[j]? =if a<=j/\j<a+b.length then b[j-a]? else c[j]? :=by
 unfold T4;have f:(c.take a).length=a:=by simp;omega
 by_cases d:j<a
 ·rw[Ax,BW (by omega),IP,if_pos d,if_neg (by omega)]
 ·by_cases e:j<a+b.length
  ·rw[BW (by simp;omega),CG (by omega),f,if_pos ⟨by omega,e⟩]
  ·rw[CG (by simp;omega),Hm,if_neg (by omega)];congr 1;simp;omega
inductive XC where
 |arr (sz:Nat)
 |str (l:List (Nat×Nat))
def XC.at_:XC->Nat->Option (Nat×Nat)
 | .arr sz,i=>some (i*sz,sz)
 | .str l,i=>l[i]?
def WA(P:Program)(t:TypeId):Option (List AW):=
 match (P.info? t).bind (·.zero)with
 |some z=>if z.cells.toList.all (·.oneCell')then some (z.cells.toList.map jz)else none
 |none=>none
def mW(P:Program)(t:TypeId):Option XC:=
 match P.underlying t with
 |some (.struct fs)=>(fs.toList.mapM λf=>(P.info? f.type).map λi=>(f.offset,i.size)).map XC.str
 |some (.array _ e)=>(P.info? e).map λi=>XC.arr i.size
 |_=>none
def j9(p:XC):List AW->List (Nat×AW)->Option (List AW)
 |cs,[]=>some cs
 |cs,(i,v)::r=>
  match p.at_ i with
  |some (off,size)=>if v.solid=true/\v.cells.length=size/\off+size<=cs.length then j9 p (T4 cs off v.cells) r else none
  |none=>none
def lQ(P:Program)(t:TypeId)(parts:List (Nat×AW)):Option AW:=
 match WA P t,mW P t with
 |some z,some p=>(j9 p z parts).map AW.agg
 |_,_=>none
def Zt{P:Program}{t:TypeId}{z:List AW}(x:Cx)(h:WA P t=some z): ∃i v,P.info? t=some i/\i.zero=some v/\Bh x (.agg z) (.agg v.cells):=by
 unfold WA at h;cases d:P.info? t with
 |none=>rw[d]at h;cases h
 |some i=>
  cases e:i.zero with
  |none=>rw[d]at h;simp[e]at h
  |some v=>
   rw[d]at h;simp only[AJ,e]at h;split at h
   ·rename_i a;simp only[AV]at h;subst h;refine⟨i,v,rfl,e,.agg (by simp) (λj c b=>?_) λj u c b f=>?_⟩
    ·exact DG.1 a c (BV (by simpa using b))
    ·rw[Bb,LL,f]at b;simp only[BB,AV]at b;subst b;exact jE x c
   ·cases h
def foldl_set(a:Nat): ∀(l:List Value) (k:Nat) (b:Array Value),a+k+l.length≤b.size→
  ((l.zipIdx k).foldl (λb (p:Value×Nat)=>b.setIfInBounds (a+p.2) p.1) b).size=b.size/\∀j,((l.zipIdx k).foldl (λb (p:Value×Nat)=>b.setIfInBounds (a+p.2) p.1) b)[j]? =if a+k<=j/\j<a+k+l.length then l[j-(a+k)]? else b[j]?
 |[],k,b,_=>by simp;intro j c d;omega
 |v::l,k,b,h=>by
  simp only[List.zipIdx_cons,TR,BC]at h⊢;obtain⟨c,d⟩:=foldl_set a l (k+1) (b.setIfInBounds (a+k) v) (by simp;omega);refine⟨by rw[c];simp,λj=>?_⟩;rw[d];by_cases g:j=a+k
  ·subst g;rw[if_neg (by omega),if_pos (by omega),dr (by omega)];simp
  ·by_cases f:a+(k+1)<=j/\j<a+(k+1)+l.length
   ·rw[if_pos f,if_pos (by omega)];rw[show j-(a+k)=(j-(a+(k+1)))+1 from by omega];rfl
   ·rw[if_neg f,if_neg (by omega),YN (λe=>g e.symm)]
def xU{x:Cx}{i p:List AW}{e f:Array Value}{off:Nat}(r:Bh x (.agg i) (.agg e))(u:Bh x (.agg p) (.agg f))(h:off+p.length≤i.length)(d:Array Value)
  (n:d.size=e.size) (b: ∀j,d[j]? =if off<=j/\j<off+f.size then f[j-off]? else e[j]?):Bh x (.agg (T4 i off p)) (.agg d):=by
 cases r with
 |agg s q t=>
  cases u with
  |agg m k o=>
   refine .agg (by rw[n,s,dk h]) (λj c a=>?_) λj v c a g=>?_
   ·rw[b]at a;split at a
    ·exact k _ c a
    ·exact q _ c a
   ·rw[b,m]at g;rw[mc h]at a;split at a
    ·rename_i l;rw[if_pos l]at g;exact o _ v c a g
    ·rename_i l;rw[if_neg l]at g;exact t _ v c a g
def nT{x:Cx}(p:XC): ∀(b:List (Nat×AW)) (a:List (Nat×Value)) (f:List AW) (d:Array Value) (s:List AW),a.map (·.1)=b.map (·.1)→
  (∀(j:Nat) (q:Nat×AW) (t:Nat×Value),b[j]? =some q->a[j]? =some t->Bh x q.2 t.2)->Bh x (.agg f) (.agg d)->j9 p f b=some s->
  ∃l,Instr.fill p.at_ d a=some l/\Bh x (.agg s) (.agg l)
 |[],a,f,d,s,m,_,r,h=>by
  have:a=[]:=by simpa using m
  subst this;simp only[j9,AV]at h;subst h;exact⟨d,rfl,r⟩
 |(i,v)::b,[],_,_,_,m,_,_,_=>by simp at m
 |(i,v)::b,(i',c)::a,f,d,s,m,hr,r,h=>by
  simp only[BE,List.cons.injEq]at m;obtain⟨rfl,m⟩:=m;simp only[j9]at h;split at h
  ·rename_i e size C;split at h
   ·rename_i B;obtain⟨k,rfl,u⟩:=B;have y:=T5 (hr 0 (i',v) (i',c) rfl rfl) k;have o:c.cells.size=v.cells.length:=by cases y with|agg h _ _=>exact h
    have n:d.size=f.length:=by cases r with|agg h _ _=>exact h
    have g:=foldl_set e c.cells.toList 0 d (by simp[o,n];omega);have F:c.cells.zipIdx.foldl (λf (p:Value×Nat)=>f.setIfInBounds (e+p.2) p.1) d=(c.cells.toList.zipIdx 0).foldl (λf (p:Value×Nat)=>f.setIfInBounds (e+p.2) p.1) d:=by rw[<-Array.foldl_toList,Array.toList_zipIdx]
    have E:=xU (off:=e) r y u ((c.cells.toList.zipIdx 0).foldl (λf (p:Value×Nat)=>f.setIfInBounds (e+p.2) p.1) d) g.1 (λj=>by simpa using g.2 j);obtain⟨l,z,A⟩:=nT p b a _ _ s m (λj q t D w=>hr (j+1) q t (by simpa using D) (by simpa using w)) E h;refine⟨l,?_,A⟩;simp only[Instr.fill,C];rw[if_neg (by simp[o,n];omega)];rw[<-z];congr 1
   ·cases h
  ·cases h
def uV{P:Program}{x:Cx}{w:World}{t:TypeId}{b:List (Nat×AW)}{a:Array (Nat×Value)}{u:AW}(F:a.toList.map (·.1)=b.map (·.1))
  (hr: ∀(j:Nat) (q:Nat×AW) (B:Nat×Value),b[j]? =some q->a.toList[j]? =some B->Bh x q.2 B.2) (h:lQ P t b=some u): ∃c,(Instr.build t a).run P w= .ok c w/\Bh x u c:=by
 unfold lQ at h;split at h
 ·rename_i z p G d;cases s:j9 p z b with
  |none=>rw[s]at h;cases h
  |some I=>
   rw[s]at h;simp only[BB,AV]at h;subst h;obtain⟨i,v,E,o,H⟩:=Zt x G;obtain⟨r,A,D⟩:=nT p b a.toList z v.cells I F hr H s;refine⟨.agg r,run_build w t a r ?_,D⟩;unfold Program.built;rw[E];unfold mW at d;split at d
   ·rename_i C y;rw[y];cases m:C.toList.mapM (λf=>(P.info? f.type).map λi=>(f.offset,i.size))with
    |none=>rw[m]at d;cases d
    |some l=>rw[m]at d;simp only[BB,AV]at d;subst d;simp only[o,m];rw[<-A];congr 1;funext k;simp[XC.at_]
   ·rename_i n e y;rw[y];cases g:P.info? e with
    |none=>rw[g]at d;cases d
    |some J=>rw[g]at d;simp only[BB,AV]at d;subst d;simp only[o,g];exact A
   ·cases d
 ·cases h
def CR(P:Program)(env:Env)(H:Aq):Op->Option AW
 | .move x| .assign x=>some (A8 env x)
 | .pick c a b=>
  match A8 env c with
  | .bool t=>some (if t then A8 env a else A8 env b)
  |_=>none
 | .load t a=>bv P t H (A8 env a)
 | .nilCheck x=>
  match A8 env x with
  | .ptr id g off=>if RI H id g then some (.ptr id g off)else none
  | .vptr cs=>some (.vptr cs)
  | .fn (.func f) a b=>some (.fn (.func f) a b)
  |_=>none
 | .binOp op t x y _=>pg P op t (A8 env x) (A8 env y)
 | .unOp op _ x=>unV op (A8 env x)
 | .convert s d x=>UW P H s d (A8 env x)
 | .fieldAddr s x f=>TW P H s f (A8 env x)
 | .field s x f=>lc P s f (A8 env x)
 | .indexAddr t x i=>Tb P H t (A8 env x) (A8 env i)
 | .index t x i=>db P t (A8 env x) (A8 env i)
 | .slice t x lo hi mx=>dm P H t (A8 env x) (lo.map (A8 env)) (hi.map (A8 env)) (mx.map (A8 env))
 | .extract x i=>
  match A8 env x with
  | .tup vs=>vs[i]?
  |_=>none
 | .makeFunc f a b=>some (.fn f (a.toList.map (A8 env)) (b.toList.map (A8 env)))
 | .build t parts=>lQ P t (parts.toList.map λp=>(p.1,A8 env p.2))
 | .call {callee:=.builtin .len,args:=⟨[x]⟩,argTypes:=⟨[t]⟩}=>kh P H t (A8 env x)
 | .call {callee:=.builtin .max,args:=⟨[x,y]⟩,.. }=>zp true [A8 env x,A8 env y]
 | .call {callee:=.builtin .min,args:=⟨[x,y]⟩,.. }=>zp false [A8 env x,A8 env y]
 | .call {callee:=.builtin .min,args:=⟨[x,y,z]⟩,.. }=>mm3 (A8 env x) (A8 env y) (A8 env z)
 |_=>none
def u7{P:Program}{N:Nat}{X:Nat→Prop}{h:Gh}{env:Env}{H:Aq}{a:Act}{w:World}{o:Oper}{v:AW}(s:St X h N env H a w)(b:CR P env H o.op=some v):
  ∃c,(execOp a.eval o).run P w= .ok (.value c) w/\Bh (cx X h H w) v c:=by
 have k:=λx=>DR s.env x;have d: ∀{m:Sem Value},(∃c,m.run P w= .ok c w/\Bh (cx X h H w) v c)-> ∃c,(do pure (Next.value (<-m)):Sem Next).run P w= .ok (.value c) w/\Bh (cx X h H w) v c:=by rintro m ⟨c,u,hr⟩;exact⟨c,by simp[u],hr⟩
 unfold execOp;cases e:o.op with
 |move x=>rw[e]at b;simp only[CR,AV]at b;subst b;exact⟨_,rfl,k x⟩
 |assign x=>rw[e]at b;simp only[CR,AV]at b;subst b;exact⟨_,rfl,k x⟩
 |pick c x y=>
  rw[e]at b;simp only[CR]at b;split at b
  ·rename_i t ht;have u:=k c;rw[ht]at u;simp only[AV]at b;subst b;generalize W:a.eval c=cv at u;cases u;simp only[W,asBool];cases t
   ·exact⟨_,by simp,k y⟩
   ·exact⟨_,by simp,k x⟩
  ·cases b
 |load t x=>rw[e]at b;simp only[CR]at b;obtain⟨B,ad,D,E,hl,hr⟩:=qW s.sim (k x) b;exact d ⟨D,by rw[E];simp[Instr.loadAt,Instr.sureAddr,hl],hr⟩
 |nilCheck x=>
  rw[e]at b;simp only[CR]at b;have z:=k x;split at b
  ·rename_i id g ad E;rw[E]at z;split at b
   ·rename_i M;simp only[AV]at b;subst b;generalize A:a.eval x=c at z;cases z with
    |ptr Y S n u=>obtain⟨B,al,rfl⟩:=u (s.sim.cur M);exact⟨_,by simp only[A];rfl,.ptr Y S n u⟩
   ·cases b
  ·rename_i cs E;rw[E]at z;simp only[AV]at b;subst b;generalize A:a.eval x=c at z;cases z with
   |vptr f n r U V=>exact⟨_,by simp only[A];rfl,.vptr f n r U V⟩
  ·rename_i f p q E;rw[E]at z;simp only[AV]at b;subst b;generalize A:a.eval x=c at z;cases z with
   |fn n r U V=>exact⟨_,by simp only[A];rfl,.fn n r U V⟩
  ·cases b
 |binOp op t x y yt=>rw[e]at b;simp only[CR]at b;exact d (yH w (k x) (k y) b)
 |unOp op t x=>rw[e]at b;simp only[CR]at b;exact d (AA5 w (k x) b)
 |convert p q x=>rw[e]at b;simp only[CR]at b;exact d (wG s.sim (k x) b)
 |fieldAddr p x f=>rw[e]at b;simp only[CR]at b;exact d (mw s.sim (k x) b)
 |field p x f=>rw[e]at b;simp only[CR]at b;exact d (ug (k x) b)
 |indexAddr t x i=>rw[e]at b;simp only[CR]at b;exact d (nA s.sim (k x) (k i) b)
 |index t x i=>rw[e]at b;simp only[CR]at b;exact d (un (k x) (k i) b)
 |slice t x lo hi T=>
  rw[e]at b;simp only[CR]at b;have G: ∀(y:Option Operand) (v:AW),y.map (A8 env)=some v-> ∃c,y.map a.eval=some c/\Bh (cx X h H w) v c:=by
   intro y v Q;cases y with
   |none=>cases Q
   |some y=>simp only[BB,AV]at Q;subst Q;exact⟨_,rfl,k y⟩
  have C: ∀(y:Option Operand),y.map (A8 env)=none->y.map a.eval=none:=by
   intro y Q;cases y with
   |none=>rfl
   |some y=>cases Q
  exact d (vK s.sim (k x) (G lo) (C lo) (G hi) (C hi) (G T) (C T) b)
 |extract x i=>
  rw[e]at b;simp only[CR]at b;have z:=k x;split at b
  ·rename_i vs E;rw[E]at z;generalize u:a.eval x=c at z;cases z with
   | @tup vs R hs Z=>
    have ap:i<vs.length:=by
     rcases Ag i vs.length with r|r
     ·exact r
     ·rw[BP r]at b;cases b
    have S:R[i]? =some (R[i]'(by omega)):=H9 (by omega);refine d ⟨_,?_,Z i v _ b S⟩;simp only[Instr.extract,u,S];rfl
  ·cases b
 |makeFunc f p q=>
  rw[e]at b;simp only[CR,AV]at b;subst b;have L: ∀(p:Array Operand) (j:Nat) (v:AW) (c:Value),(p.toList.map (A8 env))[j]? =some v->(p.map a.eval)[j]? =some c->Bh (cx X h H w) v c:=by
   intro p j v c J u;rw[Bb,LL]at J;rw[VV]at u;cases O:p[j]? with
   |none=>rw[O]at J;cases J
   |some y=>rw[O]at J u;simp only[BB,AV]at J u;subst J u;exact k y
  exact d ⟨_,rfl,.fn (by simp) (by simp) (L p) (L q)⟩
 |build t I=>
  rw[e]at b;simp only[CR]at b;refine d (uV ?_ ?_ b)
  ·simp
  ·intro j q q' K F;rw[Bb,LL]at K;rw[LL,VV]at F;cases O:I[j]? with
   |none=>rw[O]at K;cases K
   |some y=>rw[O]at K F;simp only[BB,AV]at K F;subst K F;exact k y.2
 |call c=>
  rw[e]at b;simp only[CR]at b;split at b<;>rename_i l<;>first
   |(cases b;done)
   |(cases l;done)
   |skip
  ·injection l with l;subst l;simp only[resolve,invoke,builtin,Sem.run_bind,Sem.run_pure,Result.andThen_ok,PD,BE,G3];obtain⟨D,n,r⟩:=ym (ty:=o.type) s.sim (k _) b;exact⟨D,by rw[n];rfl,r⟩
  ·injection l with l;subst l;simp only[resolve,invoke,builtin,Sem.run_bind,Sem.run_pure,Result.andThen_ok,PD,BE,G3];obtain⟨D,n,r⟩:=wo (P:=P) (w:=w) (mx:=true) (ts:=_) (ty:=o.type) (k _) (k _) b;exact⟨D,by simp only[if_true]at n;rw[n];rfl,r⟩
  ·injection l with l;subst l;simp only[resolve,invoke,builtin,Sem.run_bind,Sem.run_pure,Result.andThen_ok,PD,BE,G3];obtain⟨D,n,r⟩:=wo (P:=P) (w:=w) (mx:=false) (ts:=_) (ty:=o.type) (k _) (k _) b;exact⟨D,by simp only[F3,if_false]at n;rw[n];rfl,r⟩
  ·injection l with l;subst l;simp only[resolve,invoke,builtin,Sem.run_bind,Sem.run_pure,Result.andThen_ok,PD,BE,G3];obtain⟨D,n,r⟩:=yr (P:=P) (w:=w) (ts:=_) (ty:=o.type) (k _) (k _) (k _) b;exact⟨D,by rw[n];rfl,r⟩
 |_=>rw[e]at b;simp[CR]at b
def Db{P:Program}{N:Nat}{o:Oper}{env:Env}{H:Aq}{K:AW->Aq->Prop}{v:AW}(b:CR P env H o.op=some v)(e:K v H):Ii P N o env H K:=by apply Cu (by cases f:o.op<;>first|rfl|(rw[f]at b;simp[CR]at b));intro X h a w s Q;obtain⟨c,d,hr⟩:=u7 s b;unfold Oper.wp;rw[d,Oper.upon_value];exact⟨c,v,h,H,rfl,e,hr,s.sim,HS.refl _ _ _⟩
section
variable {X:Nat->Prop} {h:Gh} {H:Aq} {w:World}
def Gh.at_(h:Gh)(id:Nat)(io:Option Nat)(gen cap:Nat):Gh:=
 ⟨λi=>if i=id then io else h.io i,λi=>if i=id then gen else h.gen i,λi=>if i=id then cap else h.cap i⟩
def cj(x:Cx)(cs:List AW)(arr:Array Value)(fz:Nat×Nat):Prop:=
 ∃f:Nat->Value,cs.length<=arr.size/\(∀i,i<arr.size->(decide (fz.1<=i)&&decide (i<fz.2))=false)/\
  ∀(j:Nat) (v:AW),cs[j]? =some v->arr[j]? =some (f j)/\(f j).oneCell'=true/\Bh x v (f j)
def Oy{x:Cx}{c:List AW}{a:Array Value}(r:Bh x (.agg c) (.agg a)):cj x c a (0,0):=by
 cases r with
 |agg l h k=>
  refine⟨λj=>a.getD j undef,by omega,λi _=>by simp,λj v f=>?_⟩;have b:j<a.size:=by
   rcases Ag j c.length with g|g
   ·omega
   ·rw[BP g]at f;cases f
  have d:a[j]? =some (a[j]):=H9 b;have e:a.getD j undef=a[j]:=by simp[b]
  show a[j]? =some (a.getD j undef)/\(a.getD j undef).oneCell'=true/\Bh x v (a.getD j undef);rw[e];exact⟨d,h j _ d,k j v _ f d⟩
def Ik.of_ext'{z:Gh}{u:Aq}{K:World}(s:Ik X h H w)(hx:HS h H w z u K)
  (key: ∀(c:Nat) (e:EM),u[c]? =some e->e≠ .dead->(H[c]? =some e/\z.gen c=h.gen c/\z.io c=h.io c/\z.cap c=h.cap c/\ ∀B,h.io c=some B->K.heap[B]? =w.heap[B]?)\/((∃g U,e= .live g U/\tC (cx X z u K) c g U)\/(∃L,e= .lp L/\oK (cx X z u K) c L)\/(e.isB=true/\xl z u K c e)))
  (S: ∀(c T e q:Nat) (l:Option (List UInt8)),u[c]? =some (.bld T e q l)->H[c]? =some (.bld T e q l)->u[q]? =some (.brow c)->xl z u K c (.bld T e q l))
  (inj: ∀(c J:Nat) (e e':EM) (B:Nat),u[c]? =some e->u[J]? =some e'->e≠ .dead->e'≠ .dead->z.io c=some B->z.io J=some B->c=J):Ik X z u K:=by
 have hl:=hx.later X;refine⟨λB y=>⟨DD (s.out B y).1 hx.size,λW=>?_⟩,λc g U M=>?_,λc L M=>?_,inj,λc e M y=>?_⟩
 ·rcases hx.fresh B W with W|W
  ·exact(s.out B y).2 W
  ·have:=(s.out B y).1;omega
 ·rcases key c _ M (by simp)with⟨d,F,A,V,D⟩|⟨g',O,e,hn⟩|⟨L,e,_⟩|⟨e,_⟩
  ·obtain⟨hg,R⟩:=s.live c g U d;refine⟨F.trans hg,?_⟩;rcases R with⟨hn,rfl⟩|⟨B,N,T',Y,f,i,hb,Q,al,ad,C⟩
   ·exact .inl ⟨A.trans hn,rfl⟩
   ·refine .inr ⟨B,N,T',Y,f,A.trans i,(D B i).trans hb,Q.trans V.symm,al,ad,λj v hj=>?_⟩;obtain⟨p1,p2,p3⟩:=C j v hj;exact⟨p1,p2,p3.later hl⟩
  ·injection e with a b;subst a b;exact hn
  ·cases e
  ·cases e
 ·rcases key c _ M (by simp)with⟨d,F,A,V,D⟩|⟨g',O,e,hn⟩|⟨L',e,hn⟩|⟨e,_⟩
  ·obtain⟨hg,B,r,i,hb,x,G,I,P,h5,Z,h7⟩:=s.lp c L d;exact⟨F.trans hg,B,r,A.trans i,(D B i).trans hb,x,G,I,P,h5,Z,λt v m=>⟨(h7 t v m).1,(h7 t v m).2.later hl⟩⟩
  ·cases e
  ·injection e with a;subst a;exact hn
  ·cases e
 ·rcases key c _ M (by rintro rfl;cases y)with⟨d,F,A,V,D⟩|⟨g',O,e,hn⟩|⟨L',e,hn⟩|⟨_,hn⟩
  ·cases e with
   |bld T e0 q l=>
    by_cases hr:u[q]? =some (.brow c)
    ·exact S c T e0 q l M d hr
    ·obtain⟨B,p,v,x,G,I,P,Z,_⟩:=s.bld c _ d y;exact⟨B,p,v,A.trans x,(D B x).trans G,I,F.trans P,Z,λh=>(hr h).elim⟩
   |brow o=>intro B i;obtain⟨E,T,fz,x⟩:=s.bld c _ d y B (A▸i);exact⟨E,T,fz,(D B (A▸i)).trans x⟩
   |mp k es=>obtain⟨B,E,x,G,I,P⟩:=s.bld c _ d y;exact⟨B,E,A.trans x,F.trans G,(D B x).trans I,P⟩
   |it n ap=>obtain⟨B,x,G,I⟩:=s.bld c _ d y;exact⟨B,A.trans x,F.trans G,by rw[V];exact(D B x).trans I⟩
   |_=>cases y
  ·subst e;cases y
  ·subst e;cases y
  ·exact hn
def Ik.of_ext{b:Gh}{d:Aq}{i:World}(s:Ik X h H w)(K:HS h H w b d i)
  (key: ∀(a:Nat) (e:EM),d[a]? =some e->e≠ .dead->(H[a]? =some e/\b.gen a=h.gen a/\b.io a=h.io a/\b.cap a=h.cap a/\ ∀B,h.io a=some B->i.heap[B]? =w.heap[B]?)\/((∃g t,e= .live g t/\tC (cx X b d i) a g t)\/ ∃L,e= .lp L/\oK (cx X b d i) a L))
  (inj: ∀(a f:Nat) (e u:EM) (B:Nat),d[a]? =some e->d[f]? =some u->e≠ .dead->u≠ .dead->b.io a=some B->b.io f=some B->a=f):Ik X b d i:=by
 refine s.of_ext' K (λa e k n=>?_) (λa T P r l k m hr=>?_) inj
 ·rcases key a e k n with c|c|c
  ·exact .inl c
  ·exact .inr (.inl c)
  ·exact .inr (.inr (.inl c))
 ·obtain⟨B,p,v,c,E,F,G,J,I⟩:=s.bld a _ m rfl;rcases key a _ k (by simp)with⟨_,x,y,Q,z⟩|⟨_,_,e,_⟩|⟨_,e,_⟩
  ·rcases key r _ hr (by simp)with⟨o,R,A,S,C⟩|⟨_,_,e,_⟩|⟨_,e,_⟩
   ·refine⟨B,p,v,y.trans c,(z B c).trans E,F,x.trans G,J,λ_=>?_⟩;obtain⟨q1,q2⟩:=I o;refine⟨⟨q1.1,?_⟩,q2.trans A.symm⟩;rcases q1.2 with q|⟨g,cap,j,D,rfl,M,N,O⟩
    ·exact .inl q
    ·refine .inr ⟨g,cap,j,D,rfl,M,(C g ?_).trans N,O⟩;simpa[Value.ownBlock]using q2.symm
   ·cases e
   ·cases e
  ·cases e
  ·cases e
def IL{E e:EM}{c:Nat}(a:(H++[E])[c]? =some e):(c<H.length/\H[c]? =some e)\/(c=H.length/\e=E):=by
 rcases Q7 c H.length with b|rfl|d
 ·rw[BW b]at a;exact .inl ⟨b,a⟩
 ·rw[CG (Aj _),G6]at a;simp at a;exact .inr ⟨rfl,a.symm⟩
 ·rw[BP (by simp;omega)]at a;cases a
def Ih{E e:EM}{b i:Nat}(d:b<H.length)(a:(H.set b E)[i]? =some e):(i≠b/\H[i]? =some e)\/(i=b/\e=E):=by
 by_cases c:i=b
 ·subst c;rw[EI d]at a;simp at a;exact .inr ⟨rfl,a.symm⟩
 ·rw[C1 (λe=>c e.symm)]at a;exact .inl ⟨c,a⟩
def HS.push(o:Obj)(cap:Nat)(E:EM):
  HS h H w (h.at_ H.length (some w.heap.size) 0 cap) (H++[E]) {w with heap:=w.heap.push o}where
 os:=rfl
 tape:=rfl
 output:=rfl
 size:=by simp
 keep B hB _:=by simp[LK,BS hB]
 n:=by simp
 gen f hid:=by simp[Gh.at_,BS hid]
 same f hid _:=by simp[Gh.at_,BS hid]
 fresh B ho:=by
  obtain⟨f,e,b,d,a⟩:=ho;rcases IL b with⟨c,b⟩|⟨rfl,rfl⟩
  ·exact .inl ⟨f,e,b,d,by simpa[Gh.at_,BS c]using a⟩
  ·simp[Gh.at_]at a;exact .inr (by omega)
 loops B r hB:=⟨r,by have:=LR hB;simp[LK,BS this,hB]⟩
def Ik.push_any(s:Ik X h H w)(o:Obj)(cap:Nat)(E:EM)
  (t:E≠ .dead->((∃g l,E= .live g l/\tC (cx X (h.at_ H.length (some w.heap.size) 0 cap) (H++[E]) {w with heap:=w.heap.push o}) H.length g l)\/∃L,E= .lp L/\oK (cx X (h.at_ H.length (some w.heap.size) 0 cap) (H++[E]) {w with heap:=w.heap.push o}) H.length L)):
  Ik X (h.at_ H.length (some w.heap.size) 0 cap) (H++[E]) {w with heap:=w.heap.push o}:=by
 refine s.of_ext (HS.push o cap E) (λu e f d=>?_) λu v e x B p q b c i j=>?_
 ·rcases IL f with⟨a,f⟩|⟨rfl,rfl⟩
  ·refine .inl ⟨f,by simp[Gh.at_,BS a],by simp[Gh.at_,BS a],by simp[Gh.at_,BS a],λB k=>?_⟩;have:=s.io_at f d k;simp[LK,BS this]
  ·exact .inr (t d)
 ·rcases IL p with⟨l1,m⟩|⟨rfl,_⟩<;>rcases IL q with⟨l2,n⟩|⟨rfl,_⟩
  ·exact s.inj _ _ _ _ B m n b c (by simpa[Gh.at_,BS l1]using i) (by simpa[Gh.at_,BS l2]using j)
  ·have r:=s.io_at m b (by simpa[Gh.at_,BS l1]using i);simp[Gh.at_]at j;omega
  ·have r:=s.io_at n c (by simpa[Gh.at_,BS l2]using j);simp[Gh.at_]at i;omega
  ·rfl
def Ik.push(s:Ik X h H w)(a:Array Value)(T:TypeId)(c:Nat×Nat)(g:List AW)(i:cj (cx X h H w) g a c):
  Ik X (h.at_ H.length (some w.heap.size) 0 a.size) (H++[.live 0 g]) {w with heap:=w.heap.push (.cells a T c)}:=by
 refine s.push_any _ _ _ λ_=>.inl ⟨0,g,rfl,?_⟩;obtain⟨f,e,d,b⟩:=i;refine⟨by simp[cx,Gh.at_],.inr ⟨w.heap.size,a,T,c,f,by simp[cx,Gh.at_],by show(w.heap.push (.cells a T c))[w.heap.size]? =_;simp,by simp[cx,Gh.at_],e,d,λj v k=>?_⟩⟩;obtain⟨l,m,n⟩:=b j v k;exact⟨l,m,n.later ((HS.push _ _ _).later X)⟩
def Ik.upd(s:Ik X h H w){a g g' B:Nat}{M l:List AW}{arr:Array Value}{T:TypeId}{fz:Nat×Nat}{w':World}(A:H[a]? =some (EM.live g M))(hg:g≤g')
  (C:g'=g->h.io a=some B/\h.cap a=arr.size) (b:h.io a=some B\/w.heap.size<=B) (hb:w'.heap[B]? =some (.cells arr T fz)) (P: ∀k,k<w.heap.size->k≠B->w'.heap[k]? =w.heap[k]?)
  (U:w'.os=w.os) (E:w'.tape=w.tape) (J:w'.output=w.output) (D:w.heap.size<=w'.heap.size) (hh:cj (cx X h H w) l arr fz):
  Ik X (h.at_ a (some B) g' arr.size) (H.set a (.live g' l)) w'/\HS h H w (h.at_ a (some B) g' arr.size) (H.set a (.live g' l)) w':=by
 have u:a<H.length:=by
  rcases Ag a H.length with q|q
  ·exact q
  ·rw[BP q]at A;cases A
 have y:h.gen a=g:=(s.live a g M A).1;have V:HS h H w (h.at_ a (some B) g' arr.size) (H.set a (.live g' l)) w':=by
  refine⟨U,E,J,D,λk Q hn=>?_,by simp,λi p=>?_,λi p e=>?_,λk ho=>?_,λk r hr=>⟨r,?_⟩⟩
  ·refine P k Q λe=>?_;subst e;rcases b with b|b
   ·exact hn ⟨a,_,A,by simp,b⟩
   ·omega
  ·by_cases e:i=a
   ·subst e;simp[Gh.at_,y,hg]
   ·simp[Gh.at_,e]
  ·by_cases e':i=a
   ·subst e';simp only[Gh.at_,if_true]at e⊢;have:=C (e.trans y);exact⟨this.1.symm,this.2.symm⟩
   ·simp[Gh.at_,e']
  ·obtain⟨i,m,x,c,q⟩:=ho;rcases Ih u x with⟨p,n⟩|⟨rfl,_⟩
   ·exact .inl ⟨i,m,n,c,by simpa[Gh.at_,p]using q⟩
   ·simp[Gh.at_]at q;subst q;rcases b with b|b
    ·exact .inl ⟨i,_,A,by simp,b⟩
    ·exact .inr b
  ·have S:=LR hr;refine(P k S λe=>?_).trans hr;subst e;rcases b with b|b
   ·rcases(s.live a g M A).2 with⟨hn,_⟩|⟨Z,ad,T',al,f',z,F,_⟩
    ·rw[show(cx X h H w).io a=h.io a from rfl,b]at hn;cases hn
    ·rw[show(cx X h H w).io a=h.io a from rfl,b]at z;injection z with e;subst e;rw[show(cx X h H w).w.heap=w.heap from rfl,hr]at F;cases F
   ·omega
 have hl:=V.later X;have d: ∀{i:Nat} {m:EM},i≠a->H[i]? =some m->m≠ .dead->h.io i=some B->False:=by
  intro i m p x c o;rcases b with b|b
  ·exact p (s.inj i a m _ B x A c (by simp) o b)
  ·have:=s.io_at x c o;omega
 refine⟨s.of_ext V (λi m x c=>?_) (λi i' m N k x q G I K L=>?_),V⟩
 ·rcases Ih u x with⟨p,n⟩|⟨rfl,rfl⟩
  ·refine .inl ⟨n,by simp[Gh.at_,p],by simp[Gh.at_,p],by simp[Gh.at_,p],λZ o=>P Z (s.io_at n c o) λe=>?_⟩;subst e;exact d p n c o
  ·obtain⟨f,R,O,t⟩:=hh;refine .inr (.inl ⟨g',l,rfl,by simp[cx,Gh.at_],.inr ⟨B,arr,T,fz,f,by simp[cx,Gh.at_],hb,by simp[cx,Gh.at_],R,O,λj v hj=>?_⟩⟩);obtain⟨p1,p2,p3⟩:=t j v hj;exact⟨p1,p2,p3.later hl⟩
 ·rcases Ih u x with⟨W,m⟩|⟨rfl,_⟩<;>rcases Ih u q with⟨Y,N⟩|⟨rfl,_⟩
  ·exact s.inj _ _ _ _ k m N G I (by simpa[Gh.at_,W]using K) (by simpa[Gh.at_,Y]using L)
  ·simp[Gh.at_]at L;subst L;exact(d W m G (by simpa[Gh.at_,W]using K)).elim
  ·simp[Gh.at_]at K;subst K;exact(d Y N I (by simpa[Gh.at_,Y]using L)).elim
  ·rfl
end
def uj{w:World}{B:Nat}{b:Array Value}{T:TypeId}{c:Nat×Nat}(h:w.heap[B]? =some (.cells b T c))(a:Nat):w.frozen? ⟨B,a,none⟩=(decide (c.1<=a)&&decide (a<c.2)):=by unfold World.frozen?;rw[h]
def Sd{P:Program}{B off:Nat}{T:TypeId}{h:Nat×Nat}: ∀(g:List Value) (i:Nat) (a:Array Value) (w:World),w.heap[B]? =some (.cells a T h)→off+i+g.length≤a.size→
  (∀j,j<a.size->(decide (h.1<=j)&&decide (j<h.2))=false)->(∀v∈g,v.oneCell'=true)->
  ∃d b,(storeCells ⟨B,off,none⟩ g i).run P w= .ok () d/\d.heap[B]? =some (.cells b T h)/\b.size=a.size/\(∀j,b[j]? =if off+i<=j/\j<off+i+g.length then g[j-(off+i)]? else a[j]?)/\(∀k,k≠B->d.heap[k]? =w.heap[k]?)/\d.os=w.os/\d.tape=w.tape/\d.output=w.output/\d.heap.size=w.heap.size
 |[],i,a,w,hb,_,_,_=>⟨w,a,rfl,hb,rfl,λj=>by rw[if_neg (by simp)],λ_ _=>rfl,rfl,rfl,rfl,rfl⟩
 |v::g,i,a,w,hb,hle,hfz,h1=>by
  simp only[BC]at hle;have o:w.cell? ⟨B,off+i,none⟩=some (a[off+i]'(by omega)):=by rw[Og (w:=w) hb];exact H9 (by omega)
  have p:w.frozen? ⟨B,off+i,none⟩=false:=by rw[uj hb];exact hfz _ (by omega)
  have c:(store ⟨B,off+i,none⟩ v).run P w= .ok () (w.setCell ⟨B,off+i,none⟩ v):=by rw[run_store P w _ v .plain (h1 v (by simp)),o];simp[p]
  have l:(w.setCell ⟨B,off+i,none⟩ v).heap[B]? =some (.cells (a.setIfInBounds (off+i) v) T h):=by simp[World.setCell,YM,hb]
  obtain⟨d,b,r,s,t,x,y,z,A,C,D⟩:=Sd (P:=P) (off:=off) g (i+1) (a.setIfInBounds (off+i) v) (w.setCell ⟨B,off+i,none⟩ v) l (by simp;omega)
   (by simpa using hfz) (λu q=>h1 u (Bq _ q))
  refine⟨d,b,?_,s,by rw[t];simp,λj=>?_,λk n=>?_,z,A,C,by rw[D];simp[World.setCell]⟩
  ·simp only[storeCells,Nv,Sem.run_bind,c,Result.andThen_ok];exact r
  ·rw[x];by_cases m:j=off+i
   ·subst m;rw[if_neg (by omega),if_pos (by simp),dr (by omega)];simp
   ·by_cases f:off+(i+1)<=j/\j<off+(i+1)+g.length
    ·rw[if_pos f,if_pos (by simp;omega),show j-(off+i)=(j-(off+(i+1)))+1 from by omega];rfl
    ·rw[if_neg f,if_neg (by simp;omega),YN (λe=>m e.symm)]
  ·rw[y k n];simp[World.setCell,YM,Ne.symm n]
section
variable {P:Program} {N:Nat} {o:Oper} {env:Env} {H:Aq} {K:AW->Aq->Prop}
def Ii.alloc{t:TypeId}{z:List AW}(d:o.op= .alloc t)(g:WA P t=some z)(f:K (.ptr H.length 0 0) (H++[.live 0 z])):Ii P N o env H K:=by
 apply Cu (by rw[d];rfl);intro X h a w s Q;obtain⟨i,v,e,c,j⟩:=Zt (cx X h H w) g;have b:(execOp a.eval o).run P w= .ok (.value (.pointer (some ⟨w.heap.size,0,none⟩))) {w with heap:=w.heap.push (.cells v.cells t)}:=by unfold execOp;rw[d];simp[Instr.alloc,zeroValue,typeInfo,e,c,newVar,newRow]
 unfold Oper.wp;rw[b,Oper.upon_value];refine⟨_,_,_,_,rfl,f,?_,s.sim.push v.cells t (0,0) z (Oy j),HS.push _ _ _⟩;exact .ptr (by simp[cx]) (by simp[cx,Gh.at_]) rfl λ_=>⟨w.heap.size,by simp[cx,Gh.at_],rfl⟩
def Ii.box{t:TypeId}{x:Operand}{v:AW}(c:o.op= .box t x)(g:A8 env x=v)(f:v.solid=true)(e:K (.ptr H.length 0 0) (H++[.live 0 v.cells])):Ii P N o env H K:=by
 apply Cu (by rw[c];rfl);intro X h a w s Q;have d:=DR s.env x;rw[g]at d;have i:=T5 d f;have b:(execOp a.eval o).run P w= .ok (.value (.pointer (some ⟨w.heap.size,0,none⟩))) {w with heap:=w.heap.push (.cells (a.eval x).cells t)}:=by unfold execOp;rw[c];simp[Instr.box,newVar,newRow]
 unfold Oper.wp;rw[b,Oper.upon_value];refine⟨_,_,_,_,rfl,e,?_,s.sim.push _ t (0,0) v.cells (Oy i),HS.push _ _ _⟩;exact .ptr (by simp[cx]) (by simp[cx,Gh.at_]) rfl λ_=>⟨w.heap.size,by simp[cx,Gh.at_],rfl⟩
def Ii.store{t:TypeId}{x y:Operand}{id g off:Nat}{v:AW}{cs:List AW}{b:Bool}(ho:o.op= .store t x y)(hx:A8 env x= .ptr id g off)(hy:A8 env y=v)(hs:v.solid=true)
  (he:H[id]? =some (EM.live g cs)) (ht:tI P t=some (b,v.cells.length)) (J:off+v.cells.length<=cs.length) (V:K .any (H.set id (.live g (T4 cs off v.cells)))):Ii P N o env H K:=by
 apply Cu (by rw[ho];rfl);intro X h a w s Q;have Z:=DR s.env x;rw[hx]at Z;have Y:=DR s.env y;rw[hy]at Y;have rz:=T5 Y hs;obtain⟨I,F⟩:=s.sim.live id g cs he;obtain⟨B,i,S⟩: ∃B,h.io id=some B/\a.eval x= .pointer (some ⟨B,off,none⟩):=by
  generalize a.eval x=c at Z;cases Z with
  |ptr al O h1 hc=>obtain⟨B,i,rfl⟩:=hc I;exact⟨B,i,rfl⟩
 rcases F with⟨hn,_⟩|⟨B',D,T,R,f,z,hb,E,ad,G,m⟩
 ·rw[show(cx X h H w).io id=h.io id from rfl,i]at hn;cases hn
 ·rw[show(cx X h H w).io id=h.io id from rfl,i]at z;injection z with e;subst e;generalize U:a.eval y=c at Y rz;obtain⟨M,A,W⟩:c.cells.size=v.cells.length/\(∀(j:Nat) (d:Value),c.cells[j]? =some d->d.oneCell'=true)/\(∀(j:Nat) (u:AW) (d:Value),v.cells[j]? =some u->c.cells[j]? =some d->Bh (cx X h H w) u d):=by cases rz with|agg p q r=>exact⟨p,q,r⟩
  obtain⟨w',n,p1,p2,p3,p4,p5,p6,p7,p8,p9⟩:=Sd (P:=P) (off:=off) c.cells.toList 0 D w hb (by simp;omega) G (λd hd=>by obtain⟨j,C⟩:=RQ hd;exact A j d (by simpa using C));have L:(execOp a.eval o).run P w= .ok .skip w':=by unfold execOp;rw[ho];simp only[S,U,Instr.storeAt,Instr.sureAddr,Sem.run_bind,Sem.run_pure,Result.andThen_ok,storeVar,KJ ht];rw[if_neg (by simp[M])];simp only[Result.andThen_ok,p1]
  have hh:cj (cx X h H w) (T4 cs off v.cells) n R:=by
   refine⟨λj=>if off<=j/\j<off+v.cells.length then c.cells.getD (j-off) undef else f j,by rw[dk J];omega,by rw[p3];exact G,λj u C=>?_⟩;rw[mc J]at C;rw[p4];simp only[N0,DF,M,LL];split at C
   ·rename_i l;rw[if_pos l,if_pos l];have hl:j-off<c.cells.size:=by omega
    have O:c.cells[j-off]? =some (c.cells[j-off]):=H9 hl;have e:c.cells.getD (j-off) undef=c.cells[j-off]:=by simp[hl]
    rw[e];exact⟨O,A _ _ O,W _ u _ C O⟩
   ·rename_i l;rw[if_neg l,if_neg l];exact m j u C
  obtain⟨q1,q2⟩:=s.sim.upd (g':=g) (B:=B) (arr:=n) (T:=T) (fz:=R) (w':=w') he (Aj _) (λ_=>⟨i,by rw[p3];exact E.symm⟩) (.inl i) p2 (λk _ V=>p5 k V) p6 p7 p8 (by rw[p9];exact Aj _) hh;unfold Oper.wp;rw[L,Oper.upon_skip];exact⟨_,_,_,_,rfl,V,.any _,q1,q2⟩
end
section
variable {X:Nat->Prop} {h:Gh} {H:Aq} {w w':World}
def HS.grow(b:w'.os=w.os)(f:w'.tape=w.tape)(d:w'.output=w.output)(e:w.heap.size<=w'.heap.size)(c: ∀k,k<w.heap.size->w'.heap[k]? =w.heap[k]?):HS h H w h H w':=⟨b,f,d,e,λB a _=>c B a,Aj _,λ_ _=>Aj _,λ_ _ _=>⟨rfl,rfl⟩,λ_ h=>.inl h,λB r a=>⟨r,(c B (LR a)).trans a⟩⟩
def Ik.grow(s:Ik X h H w)(c:w'.os=w.os)(i:w'.tape=w.tape)(f:w'.output=w.output)(g:w.heap.size<=w'.heap.size)(e: ∀k,k<w.heap.size->w'.heap[k]? =w.heap[k]?):Ik X h H w':=s.of_ext (HS.grow c i f g e) (λ_ _ d b=>.inl ⟨d,rfl,rfl,rfl,λB a=>e B (s.io_at d b a)⟩) s.inj
def HS.virt:HS h H w (h.at_ H.length none 0 0) (H++[.live 0 []]) w where
 os:=rfl
 tape:=rfl
 output:=rfl
 size:=Aj _
 keep B _ _:=rfl
 n:=by simp
 gen f hid:=by simp[Gh.at_,BS hid]
 same f hid _:=by simp[Gh.at_,BS hid]
 fresh B ho:=by
  obtain⟨f,e,b,d,a⟩:=ho;rcases IL b with⟨c,b⟩|⟨rfl,rfl⟩
  ·exact .inl ⟨f,e,b,d,by simpa[Gh.at_,BS c]using a⟩
  ·simp[Gh.at_]at a
 loops B r hB:=⟨r,hB⟩
def Ik.virt(s:Ik X h H w):Ik X (h.at_ H.length none 0 0) (H++[.live 0 []]) w:=by
 refine s.of_ext HS.virt (λo e b n=>?_) λo p e q B k l c d f g=>?_
 ·rcases IL b with⟨a,b⟩|⟨rfl,rfl⟩
  ·exact .inl ⟨b,by simp[Gh.at_,BS a],by simp[Gh.at_,BS a],by simp[Gh.at_,BS a],λB m=>rfl⟩
  ·exact .inr (.inl ⟨0,[],rfl,by simp[cx,Gh.at_],.inl ⟨by simp[cx,Gh.at_],rfl⟩⟩)
 ·rcases IL k with⟨l1,i⟩|⟨rfl,_⟩<;>rcases IL l with⟨l2,j⟩|⟨rfl,_⟩
  ·exact s.inj _ _ _ _ B i j c d (by simpa[Gh.at_,BS l1]using f) (by simpa[Gh.at_,BS l2]using g)
  ·simp[Gh.at_]at g
  ·simp[Gh.at_]at f
  ·rfl
def Ik.bump(s:Ik X h H w){id g:Nat}{cs:List AW}(n:H[id]? =some (EM.live g cs))(hn:h.io id=none):
  Ik X (h.at_ id none (g+1) (h.cap id)) (H.set id (.live (g+1) [])) w/\HS h H w (h.at_ id none (g+1) (h.cap id)) (H.set id (.live (g+1) [])) w:=by
 have a:id<H.length:=by
  rcases Ag id H.length with b|b
  ·exact b
  ·rw[BP b]at n;cases n
 have c:h.gen id=g:=(s.live id g cs n).1;have own: ∀B,owned (h.at_ id none (g+1) (h.cap id)) (H.set id (.live (g+1) [])) B->owned h H B:=by
  rintro B ⟨i,e,j,l,b⟩;rcases Ih a j with⟨f,d⟩|⟨rfl,_⟩
  ·exact⟨i,e,d,l,by simpa[Gh.at_,f]using b⟩
  ·simp[Gh.at_]at b
 have u:HS h H w (h.at_ id none (g+1) (h.cap id)) (H.set id (.live (g+1) [])) w:=by
  refine⟨rfl,rfl,rfl,Aj _,λk A hn=>rfl,by simp,λi f=>?_,λi f e=>?_,λB C=>.inl (own B C),λB r y=>⟨r,y⟩⟩
  ·by_cases e:i=id
   ·subst e;simp[Gh.at_,c]
   ·simp[Gh.at_,e]
  ·by_cases m:i=id
   ·subst m;simp[Gh.at_,c]at e
   ·simp[Gh.at_,m]
 refine⟨s.of_ext u (λi e j l=>?_) (λi F e m k j b o p q t=>?_),u⟩
 ·rcases Ih a j with⟨f,d⟩|⟨rfl,rfl⟩
  ·exact .inl ⟨d,by simp[Gh.at_,f],by simp[Gh.at_,f],by simp[Gh.at_,f],λB z=>rfl⟩
  ·exact .inr (.inl ⟨g+1,[],rfl,by simp[cx,Gh.at_],.inl ⟨by simp[cx,Gh.at_],rfl⟩⟩)
 ·rcases Ih a j with⟨D,v⟩|⟨rfl,_⟩<;>rcases Ih a b with⟨E,x⟩|⟨rfl,_⟩
  ·exact s.inj _ _ _ _ k v x o p (by simpa[Gh.at_,D]using q) (by simpa[Gh.at_,E]using t)
  ·simp[Gh.at_]at t
  ·simp[Gh.at_]at q
  ·rfl
end
def M3(H:Aq)(sz:Nat):AW->Option (Nat×List AW)
 | .vs sz' rows=>if sz=sz' then some (rows.length,rows.flatMap AW.cells)else none
 | .sl id g sz' off len=>
  match H[id]? with
  |some (.live g' cs)=>if g=g'/\sz=sz'/\off+len*sz<=cs.length then some (len,(cs.drop off).take (len*sz))else none
  |_=>none
 | .nils=>some (0,[])
 |_=>none
def Nq{P:Program}{X:Nat→Prop}{h:Gh}{H:Aq}{w:World}{v:AW}{c:Value}{sz m:Nat}{Q:List AW}(s:Ik X h H w)(r:Bh (cx X h H w) v c)(E:0<sz)(hr:M3 H sz v=some (m,Q)):
  ∃a cap W,c= .slice a m cap/\Q.length=m*sz/\eS (cx X h H w) Q W/\(∀u∈W,u.oneCell'=true)/\(Builtin.lenOf c).run P w= .ok m w/\(Builtin.firstCells sz m c).run P w= .ok W.toArray w:=by
 cases r with
 |nils=>simp only[M3,AV,Br]at hr;obtain⟨rfl,rfl⟩:=hr;exact⟨none,0,[],rfl,by simp,⟨rfl,λ_ _ _ h=>by cases h⟩,(λ_ h=>by cases h),rfl,rfl⟩
 | @vs V b a cap f I ap p ha hv=>
  simp only[M3]at hr;split at hr
  ·rename_i N;subst N;simp only[AV,Br]at hr;obtain⟨rfl,rfl⟩:=hr;have A:=jk p;cases b with
   |nil=>refine⟨a,cap,[],rfl,by simp,⟨rfl,λ_ _ _ h=>by cases h⟩,(λ_ h=>by cases h),rfl,?_⟩;cases a<;>simp[Builtin.firstCells,loadCells,loadCellsFrom]
   |cons e0 M=>
    obtain⟨B,k,rfl,hO,hB,O⟩:=ha (by simp);generalize e0::M=b at*;have G: ∀j,j<b.length*sz-> ∃e v,b[j/sz]? =some e/\e.cells[j%sz]? =some v:=by
     intro j l;have N:j/sz<b.length:=(Nat.div_lt_iff_lt_mul E).2 l;have y:b[j/sz]? =some (b[j/sz]):=Ay N;have hl:=p _ _ y;have q:j%sz<(b[j/sz]).cells.length:=by rw[hl];exact VL _ E
     exact⟨_,_,y,Ay q⟩
    refine⟨_,cap,(List.range (b.length*sz)).map λj=>f (j/sz) (j%sz),rfl,A,⟨by simp[A],λj v d l o=>?_⟩,λu L=>?_,rfl,?_⟩
    ·obtain⟨e,S,U⟩:=flat_get E p j v l;have x:j<b.length*sz:=by
      rcases Ag j (b.length*sz)with q|q
      ·exact q
      ·rw[BP (by simpa using q)]at o;cases o
     rw[Bb,M8 x]at o;simp only[BB,AV]at o;subst o;exact hv _ e _ v S U
    ·simp only[BX,G5]at L;obtain⟨j,l,rfl⟩:=L;obtain⟨e,v,y,F⟩:=G j l;exact(O _ e _ v y F).2
    ·have:=run_loadCells (P:=P) w ⟨B,k,none⟩ (b.length*sz) (λj=>f (j/sz) (j%sz)) λj l=>by obtain⟨e,v,y,F⟩:=G j l;rw[Nv];have Z:=(O _ e _ v y F).1;rw[Nat.div_add_mod' j sz]at Z;exact Z
     simpa[Builtin.firstCells]using this
  ·cases hr
 | @sl id g V k len c ax hg N O=>
  simp only[M3]at hr;split at hr
  ·rename_i g' n y;split at hr
   ·rename_i D;obtain⟨rfl,rfl,a0⟩:=D;simp only[AV,Br]at hr;obtain⟨rfl,rfl⟩:=hr;obtain⟨K,J⟩:=s.live id g n y;rcases O K with⟨t,rfl,rfl,rfl⟩|⟨B,cap,t,I,R,rfl⟩
    ·exact⟨none,0,[],rfl,by simp,⟨by simp,λ_ _ _ _ h=>by cases h⟩,(λ_ h=>by cases h),rfl,rfl⟩
    ·rcases J with⟨hn,_⟩|⟨Y,ar,T,fz,f,z,hb,ad,al,as,i⟩
     ·rw[hn]at t;cases t
     ·have:Y=B:=by rw[t]at z;injection z with e;exact e.symm
      subst this;refine⟨_,cap,(List.range (len*sz)).map λj=>f (k+j),rfl,by simp;omega,⟨by simp;omega,λj v d l o=>?_⟩,λu L=>?_,rfl,?_⟩
      ·have x:j<len*sz:=by
        rcases Ag j (len*sz)with q|q
        ·exact q
        ·rw[BP (by simpa using q)]at o;cases o
       rw[IP,if_pos x,Hm]at l;rw[Bb,M8 x]at o;simp only[BB,AV]at o;subst o;exact(i _ v l).2.2
      ·simp only[BX,G5]at L;obtain⟨j,l,rfl⟩:=L;have C:n[k+j]? =some (n[k+j]'(by omega)):=Ay (by omega);exact(i _ _ C).2.1
      ·have:=run_loadCells (P:=P) w ⟨Y,k,none⟩ (len*sz) (λj=>f (k+j)) λj l=>by have C:n[k+j]? =some (n[k+j]'(by omega)):=Ay (by omega);rw[Nv,Og (w:=w) hb];exact(i _ _ C).1
       simpa[Builtin.firstCells]using this
   ·cases hr
  ·cases hr
 |_=>simp only[M3]at hr;cases hr
def sL(a b:Nat)(h:b<a):Builtin.nextslicecap a b<=2*a+2048:=by
 unfold Builtin.nextslicecap;split
 ·omega
 ·split
  ·omega
  ·simp only[Builtin.growBy];repeat' split
   all_goals omega
def QK(P:Program)(e:TypeId):Bool:=
 match P.info? e with
 |some i=>decide (i.bytes<=1048576)&&(match i.zero with|some z=>decide (z.cells.size=i.size)|none=>false)
 |none=>false
section
variable {P:Program} {N:Nat} {o:Oper} {env:Env} {H:Aq} {K:AW->Aq->Prop}
def Rv{e:TypeId}(h:QK P e=true): ∃i z,P.info? e=some i/\i.bytes<=1048576/\i.zero=some z/\z.cells.size=i.size:=by
 unfold QK at h;split at h
 ·rename_i i c;simp only[BM,decide_eq_true_eq]at h;obtain⟨b,a⟩:=h;split at a
  ·rename_i z d;exact⟨i,z,c,b,d,by simpa using a⟩
  ·cases a
 ·cases h
def eR{t:TypeId}{b:Bool}{n:Nat}{i:TypeInfo}(h:tI P t=some (b,n))(c:P.info? t=some i):i.size=n:=by
 unfold tI at h;rw[c]at h;split at h
 ·rename_i g d a f;injection a with e;subst e;simp only[AV,Br]at h;exact h.2
 ·cases h
def Ii.buildSlice{t e:TypeId}{len sz:Nat}{f:Array (Nat×Operand)}{W:List AW}(ho:o.op= .buildSlice t len f)(he:eI P t=some (none,e,sz))(a0:0<sz)(a6:QK P e=true)
  (B:f.toList.map (·.1)=List.range len) (a2:f.toList.map (λp=>A8 env p.2)=W) (O: ∀v∈W,v.solid=true/\v.cells.length=sz) (L:len<=4096/\sz<=4096) (hk:K (.vs sz W) H):Ii P N o env H K:=by
 apply Cu (by rw[ho];rfl);intro X h a w s Q;obtain⟨a1,b,hi⟩:=PM he;obtain⟨i,z,D,_,hz,a8⟩:=Rv a6;have C:=eR hi D;have V:W.length=len:=by have n:=congrArg List.length B;have m:=congrArg List.length a2;simp at n m;omega
 let g:List Value:=f.toList.map λp=>a.eval p.2;have U:g.length=len:=by have n:=congrArg List.length B;simp at n;simp[g,n]
 have M: ∀(j:Nat) (v:AW) (c:Value),W[j]? =some v->g[j]? =some c->Bh (cx X h H w) (.agg v.cells) (.agg c.cells)/\v.cells.length=sz:=by
  intro j v c G Y;have hm:=O v (BV G);refine⟨?_,hm.2⟩;subst a2;simp only[g,Bb]at G Y;cases Z:f.toList[j]? with
  |none=>rw[Z]at G;cases G
  |some p=>rw[Z]at G Y;simp only[BB,AV]at G Y;subst G Y;exact T5 (DR s.env p.2) hm.1
 have A: ∀c∈g,c.cells.size=sz:=by
  intro c Y;obtain⟨j,y⟩:=RQ Y;have E:j<W.length:=by
   rcases Ag j g.length with m|m
   ·omega
   ·rw[BP m]at y;cases y
  obtain⟨n,m⟩:=M j _ c (Ay E) y;cases n with
  |agg hs _ _=>rw[hs,m]
 have R:(f.map λ(q:Nat×Operand)=>(q.1,a.eval q.2)).toList=(g.zipIdx 0).map λx=>(x.2,x.1):=by
  apply M6;intro j;simp only[iT,Bb,List.getElem?_zipIdx,DE,g];cases Z:f.toList[j]? with
  |none=>rfl
  |some p=>
   have n:(f.toList.map (·.1))[j]? =some p.1:=by rw[Bb,Z];rfl
   rw[B]at n;have E:j<len:=by
    rcases Ag j len with m|m
    ·exact m
    ·rw[BP (by simpa using m)]at n;cases n
   rw[M8 E]at n;simp only[AV]at n;simp[n]
 have a5:(g.flatMap λc=>c.cells.toList).length=len*sz:=by
  clear R;have: ∀l:List Value,(∀c∈l,c.cells.size=sz)->(l.flatMap λc=>c.cells.toList).length=l.length*sz:=by
   intro l;induction l with
   |nil=>simp
   |cons c l ih=>intro V;simp only[Es,Ad,DF,V c (by simp),ih (λd I=>V d (Bq _ I)),BC,EJ];omega
  rw[this g A,U]
 have al: ∀(j:Nat) (c:Value) (q:Nat) (d:Value),g[j]? =some c->c.cells[q]? =some d->(g.flatMap λc=>c.cells.toList)[j*sz+q]? =some d:=by
  have: ∀(l:List Value),(∀c∈l,c.cells.size=sz)-> ∀(j:Nat) (c:Value) (q:Nat) (d:Value),l[j]? =some c->c.cells[q]? =some d->(l.flatMap λc=>c.cells.toList)[j*sz+q]? =some d:=by
   intro l;induction l with
   |nil=>intro _ j c q d y;simp at y
   |cons c0 l ih=>
    intro V j c q d y I;simp only[Es];have h0:=V c0 (by simp);cases j with
    |zero=>
     simp at y;subst y;rw[Nat.zero_mul,DE,BW (by
      rcases Ag q c0.cells.size with m|m
      ·simpa using m
      ·rw[lL m]at I;cases I)]
     simpa using I
    |succ j=>rw[CG (by rw[DF,h0,EJ];omega),DF,h0];rw[show(j+1)*sz+q-sz=j*sz+q from by rw[EJ];omega];exact ih (λd I=>V d (Bq _ I)) j c q d (by simpa using y) I
  exact this g A
 have F: ∃r:Array Value,(execOp a.eval o).run P w= .ok (.value (.slice (some ⟨w.heap.size,0,none⟩) len len)) {w with heap:=w.heap.push (.cells r e)}/\r.toList=g.flatMap λc=>c.cells.toList:=by
  unfold execOp;rw[ho];by_cases h0:len=0
  ·subst h0;have:g=[]:=EA U;refine⟨#[],?_,by rw[this];rfl⟩;have Z:f= #[]:=by have n:=congrArg List.length B;simp at n;exact n
   simp[Instr.buildSlice,run_underlying a1,KJ hi,Z,Instr.fill,newRow,show Array.range 0= #[]from rfl]
  ·refine⟨(g.flatMap λc=>c.cells.toList).toArray,?_,rfl⟩;have ar: ¬len*i.size=0:=by rw[C];exact Nat.mul_ne_zero h0 (by omega)
   have a7: ¬len*i.size>2^24:=by rw[C];have:=fa L.1 L.2;omega
   have hf:=Go.Great.fill_whole (s:=sz) a0 g ((Array.range (len*i.size)).map (z.cells[· %z.cells.size]!)) A (by simp[U,C]);have:=run_buildSlice (P:=P) w t e len (f.map λ(q:Nat×Operand)=>(q.1,a.eval q.2)) _ i z a1 D hz a7 ar (by rw[R,C]at*;exact hf);simp only[Sem.run_bind];rw[show(f.map λx=>match x with|(i,x)=>(i,a.eval x))=(f.map λ(q:Nat×Operand)=>(q.1,a.eval q.2))from rfl,this];rfl
 obtain⟨r,F,ad⟩:=F;unfold Oper.wp;rw[F,Oper.upon_value];have ax:=s.sim.grow (w':={w with heap:=w.heap.push (.cells r e)}) rfl rfl rfl (by simp) (λk hk=>by simp[LK,BS hk]);have J:=HS.grow (h:=h) (H:=H) (w:=w) (w':={w with heap:=w.heap.push (.cells r e)}) rfl rfl rfl (by simp) (λk hk=>by simp[LK,BS hk]);refine⟨_,_,h,H,rfl,hk,?_,ax,J⟩;subst V;refine .vs (λj q=>((g.getD j undef).cells.getD q undef)) (Aj _) a0 (λj v y=>(O v (BV y)).2) (λap=>⟨w.heap.size,0,rfl,?_,by simp[cx],λj v q u y hq=>?_⟩) λj v q u y hq=>?_
 ·rintro(hX|ho)
  ·have:=(s.sim.out _ hX).1;omega
  ·obtain⟨id,e1,n,ap,m⟩:=ho;have:=s.sim.io_at n ap m;omega
 all_goals
  have E:j<g.length:=by
   rcases Ag j W.length with m|m
   ·omega
   ·rw[BP m]at y;cases y
  have S:g[j]? =some (g[j]):=Ay E;have a4:g.getD j undef=g[j]:=by simp[Dr,S]
  obtain⟨r1,r2⟩:=M j v _ y S;rw[a4];cases r1 with
  |agg hs n G=>
   have as:q<(g[j]).cells.size:=by
    rcases Ag q v.cells.length with m|m
    ·omega
    ·rw[BP m]at hq;cases hq
   have T:(g[j]).cells[q]? =some ((g[j]).cells[q]):=H9 as;have a3:(g[j]).cells.getD q undef=(g[j]).cells[q]:=by simp[as]
   rw[a3];first
    |exact(G q u _ hq T).later (J.later X)
    |(refine⟨?_,n q _ T⟩
      have hb:(w.heap.push (.cells r e))[w.heap.size]? =some (.cells r e (0,0)):=by simp
      rw[DE];show World.cell? {w with heap:=w.heap.push (.cells r e)} _=_;rw[Og (w:={w with heap:=w.heap.push (.cells r e)}) hb,<-LL,ad];exact al j _ q _ S T)
end
section
variable {P:Program}
def WB(z:Array Value)(n:Nat):(Builtin.zeroCells z n).size=n*z.size:=by simp[Builtin.zeroCells]
def ff{t ty e:TypeId}{i:TypeInfo}(g:P.underlying t=some (.slice e))(j:P.info? e=some i){base:Option Addr}{n cap m:Nat}{x:Value}{h:List Value}{w w':World}
  (d:(Builtin.lenOf x).run P w= .ok m w) (f:(Builtin.firstCells i.size m x).run P w= .ok h.toArray w) (c:n+m<=cap)
  (b:(match base with
   |some a=>storeCells (a.add (n*i.size)) h
   |none=>pure ():Sem Unit).run P w= .ok () w'):
  (Builtin.append_ #[t,t] ty #[.slice base n cap,x]).run P w= .ok (.slice base (n+m) cap) w':=by
 cases base<;>simp only at b<;>simp[Builtin.append_,run_underlying g,sizeOf,typeInfo,j,d,f,c,b];simp at b;exact b
def jr{t ty e:TypeId}{i:TypeInfo}{z:Value}(g:P.underlying t=some (.slice e))(p:P.info? e=some i)(r:i.zero=some z)(l:i.bytes≤1048576){base:Option Addr}{n cap m:Nat}{x:Value}{os j:List Value}{w:World}
  (f:(Builtin.lenOf x).run P w= .ok m w) (q:(Builtin.firstCells i.size n (.slice base n cap)).run P w.drew= .ok os.toArray w.drew) (hn:(Builtin.firstCells i.size m x).run P w.drew= .ok j.toArray w.drew)
  (b:cap<n+m) (h:n+m<=16777216):
  ∃a,n+m<=a/\(Builtin.append_ #[t,t] ty #[.slice base n cap,x]).run P w=.ok (.slice (some ⟨w.heap.size,0,none⟩) (n+m) a) {w.drew with heap:=w.drew.heap.push (.cells (os.toArray++j.toArray++Builtin.zeroCells z.cells (a-(n+m))) e)}:=by
 have d: ¬(Builtin.nextslicecap (n+m) cap*i.bytes>2^48):=by have s:=sL (n+m) cap b;have u:Builtin.nextslicecap (n+m) cap*i.bytes<=33556480*1048576:=fa (by omega) l;omega
 refine⟨(Question.appendCap (n+m) cap e).cut (w.tape w.drawn (.appendCap (n+m) cap e)),by simp[Question.cut],?_⟩;have k:IntKind.i64.max=9223372036854775807:=by decide
 have c: ¬((9223372036854775807:Int)<(n:Int)+(m:Int)/\i.bytes=0):=by omega
 have o:(Question.appendCap (n+m) cap e).forced=false:=rfl;simp[Builtin.append_,sizeOf,typeInfo,zeroValue,run_underlying g,p,r,f,d,newRow,k];rw[if_neg (by omega),if_neg c,if_neg (by rw[o];simp),q];simp only[Result.andThen_ok];rw[hn];simp only[Result.andThen_ok,Result.ok.injEq];refine⟨rfl,?_⟩;rw[<-List.append_toArray,Array.append_assoc];rfl
end
section
variable {P:Program} {N:Nat} {o:Oper} {env:Env} {H:Aq} {K:AW->Aq->Prop}
def Pc{a:Operand→Value}{b d:Operand}{t:TypeId}{w c:World}{r:Value}{o:Oper}(e:o.op= .call {callee:=.builtin .append,args:= #[b,d],argTypes:= #[t,t]})
  (h:(Builtin.append_ #[t,t] o.type #[a b,a d]).run P w= .ok r c):(execOp a o).run P w= .ok (.value r) c:=by
 unfold execOp;rw[e];simp only[resolve,invoke,builtin,Sem.run_bind,Sem.run_pure,Result.andThen_ok,PD,BE,G3];rw[h];rfl
def Ik.drew{X:Nat->Prop}{h:Gh}{H:Aq}{w:World}(s:Ik X h H w):Ik X h H w.drew:=s.grow rfl rfl rfl (Aj _) λ_ _=>rfl
def HS.drew{h:Gh}{H:Aq}{w:World}:HS h H w h H w.drew:=HS.grow rfl rfl rfl (Aj _) λ_ _=>rfl
def nZ{x:Cx}{as bs:List AW}{os a:List Value}{n:Array Value}(ra:eS x as os)(g:eS x bs a)(k: ∀u∈os,u.oneCell'=true)(l: ∀u∈a,u.oneCell'=true):
  cj x (as++bs) (os.toArray++a.toArray++n) (0,0):=by
 refine⟨λj=>(os++a).getD j undef,?_,λi _=>by simp,λj v d=>?_⟩
 ·simp[ra.1,g.1]
 ·have f:j<(os++a).length:=by
   rcases Ag j (as++bs).length with b|b
   ·simp[ra.1,g.1]at*;omega
   ·rw[BP b]at d;cases d
  have c:(os++a)[j]? =some ((os++a)[j]):=Ay f;have e:(os++a).getD j undef=(os++a)[j]:=by rw[Dr,c];rfl
  show _=some ((os++a).getD j undef)/\((os++a).getD j undef).oneCell'=true/\Bh x v ((os++a).getD j undef);rw[e];refine⟨?_,?_,?_⟩
  ·rw[VT (by simpa using f),List.append_toArray,fQ];exact c
  ·have m:(os++a)[j]∈os++a:=Nw f;rcases Ar.1 m with h|h
   ·exact k _ h
   ·exact l _ h
  ·rcases Ag j as.length with b|b
   ·rw[BW b]at d;rw[BW (by rw[ra.1];exact b)]at c;exact ra.2 j v _ d c
   ·rw[CG b]at d;rw[CG (by rw[ra.1];exact b),ra.1]at c;exact g.2 _ v _ d c
def Ii.append_nil{D T:Operand}{t e:TypeId}{sz m:Nat}{d:List AW}(I:o.op= .call {callee:=.builtin .append,args:= #[D,T],argTypes:= #[t,t]})(he:eI P t=some (none,e,sz))(v:0<sz)(J:QK P e=true)
  (hs:A8 env D= .nils) (M:M3 H sz (A8 env T)=some (m,d)) (V:m<=16777216) (U:K (.sl H.length 0 sz 0 m) (H++[.live 0 d])):Ii P N o env H K:=by
 apply Cu (by rw[I];rfl);intro X h a w s Q;obtain⟨B,b,hi⟩:=PM he;obtain⟨i,z,f,G,hz,O⟩:=Rv J;have j:=eR hi f;have R:=DR s.env D;rw[hs]at R;have y:a.eval D= .slice none 0 0:=by generalize a.eval D=c at R;cases R;rfl
 have S:=DR s.env T;unfold Oper.wp;rcases Q6 m with W|W
 ·subst W;obtain⟨Z,x,E,F,A,g,p,l,q⟩:=Nq (P:=P) s.sim S v M;have u:d=[]:=EA (by omega);subst u;have L:E=[]:=EA g.1;subst L;have k:=ff (ty:=o.type) (base:=none) (n:=0) (cap:=0) (w':=w) B f l (by rw[j];exact q) (by omega) rfl;rw[Pc I (by rw[y];exact k),Oper.upon_value];refine⟨_,_,_,_,rfl,U,?_,s.sim.virt,HS.virt⟩;exact .sl (by simp[cx]) (by simp[cx,Gh.at_]) ⟨_,_,rfl⟩ λ_=>.inl ⟨by simp[cx,Gh.at_],rfl,rfl,rfl⟩
 ·have Y:=s.sim.drew;obtain⟨Z,x,E,F,A,g,p,l,q⟩:=Nq (P:=P) Y (S.later (HS.drew.later X)) v M;obtain⟨_,_,_,_,_,_,_,r,_⟩:=Nq (P:=P) s.sim S v M;obtain⟨C,hC,k⟩:=jr (ty:=o.type) (base:=none) (n:=0) (cap:=0) (os:=[]) B f hz G r (by rfl) (by rw[j];exact q) (by omega) (by omega);rw[Pc I (by rw[y];exact k),Oper.upon_value];have hh:cj (cx X h H w.drew) d (#[]++E.toArray++Builtin.zeroCells z.cells (C-(0+m))) (0,0):=nZ (as:=[]) (os:=[]) ⟨rfl,λ_ _ _ h=>by cases h⟩ g (λ_ h=>by cases h) p;refine⟨_,_,_,_,rfl,U,?_,Y.push _ e (0,0) d hh,HS.drew.trans (HS.push _ _ _)⟩;rw[DE];refine .sl (by simp[cx]) (by simp[cx,Gh.at_]) ⟨_,_,rfl⟩ λ_=>.inr ⟨w.heap.size,C,by simp[cx,Gh.at_],by omega,?_,rfl⟩;have e1:E.length=m*sz:=by rw[g.1,A]
  simp only[cx,Gh.at_,if_true,iR,TJ,WB,O,j,e1];have:(C-(0+m))*sz+m*sz=C*sz:=by rw[<-EJ];congr 1;omega
  simp only[DE]at this;simp;omega
end
section
variable {X:Nat->Prop} {h:Gh} {H:Aq} {w:World} {N:Nat} {env env2:Env}
def F6.trans{i:Nat}{m n o:Env}{j k l:Aq}(a:F6 N i m j n k)(b:F6 N i n k o l):F6 N i m j o l:=⟨b.1,λX h e w s=>by obtain⟨p,v,f,t⟩:=a.2 X h e w s;obtain⟨q,x,g,u⟩:=b.2 X p e w v;exact⟨q,x,λd c=>⟨(g d c).1.trans (f d c).1,(g d c).2.1.trans (f d c).2.1,(g d c).2.2.trans (f d c).2.2⟩,λB r=>t B (u B r)⟩⟩
def F6.of_le{n0 j:Nat}{f i:Env}{d e:Aq}(a:F6 N j f d i e)(h:n0<=j):F6 N n0 f d i e:=⟨D4 h a.1,λX g b w s=>by obtain⟨l,o,k,n⟩:=a.2 X g b w s;exact⟨l,o,λm c=>k m (DD c h),n⟩⟩
def F6.virt{t sz:Nat}(n:env.get t= .nils):F6 N H.length env H (env.put t (.sl H.length 0 sz 0 0)) (H++[.live 0 []]):=by
 refine⟨by simp,λX g d w s=>⟨g.at_ H.length none 0 0,⟨s.sim.virt,?_,s.size⟩,λo f=>by simp[Gh.at_,BS f],λB l=>?_⟩⟩
 ·have x:(t,AW.nils)∈env:=by
   rcases NF (env:=env) (t:=t)with e|m
   ·rw[n]at e;cases e
   ·rw[n]at m;exact m
  have y:=HS.virt (h:=g) (H:=H) (w:=w);have a:=s.env.later (y.later X);intro u v m;unfold Env.put at m;rcases Al.1 m with e|m
  ·injection e with p q;subst p q;obtain⟨r,k⟩:=s.env _ _ x;refine⟨r,?_⟩;generalize d.tmps.getD u undef=c at k;cases k;exact .sl (by simp[cx]) (by simp[cx,Gh.at_]) ⟨_,_,rfl⟩ λ_=>.inl ⟨by simp[cx,Gh.at_],rfl,rfl,rfl⟩
  ·exact a u v (Bi.1 m).1
 ·rcases(HS.virt (h:=g) (H:=H) (w:=w)).fresh B l with h|h
  ·exact h
  ·obtain⟨o,e,a,j,b⟩:=l;rcases IL a with⟨i,a⟩|⟨rfl,rfl⟩
   ·exact⟨o,e,a,j,by simpa[Gh.at_,BS i]using b⟩
   ·simp[Gh.at_]at b
end
def tF(sz:Nat)(cs:List AW)(rows:List AW):Prop:=0<sz/\(∀e∈rows,e.cells.length=sz)/\rows.flatMap AW.cells=cs
def gk{sz:Nat}: ∀{a:List AW},(∀e∈a,e.cells.length=sz)-> ∀(j:Nat) (e:AW) (i:Nat) (v:AW),a[j]? =some e->e.cells[i]? =some v->(a.flatMap AW.cells)[j*sz+i]? =some v
 |[],_,j,e,i,v,hj,_=>by simp at hj
 |e0::r,h,j,e,i,v,hj,hi=>by
  have c:=h e0 (by simp);simp only[Es];cases j with
  |zero=>
   simp at hj;subst hj;rw[Nat.zero_mul,DE,BW (by
    rcases Ag i e0.cells.length with b|b
    ·exact b
    ·rw[BP b]at hi;cases hi)]
   exact hi
  |succ j=>rw[CG (by rw[c,EJ];omega),c,show(j+1)*sz+i-sz=j*sz+i from by rw[EJ];omega];exact gk (λe d=>h e (Bq _ d)) j e i v (by simpa using hj) hi
def ke{X:Nat→Prop}{h:Gh}{H:Aq}{w:World}{z g sz n:Nat}{G a:List AW}{c:Value}{y:Cx}(s:Ik X h H w)(Q:H[z]? =some (EM.live g G))(hr:tF sz G a)(hn:a.length=n)
  (S:(cx X h H w).Later y) (J:y.w=w) (N: ∀B,h.io z=some B-> ¬y.O B) (r:Bh (cx X h H w) (.sl z g sz 0 n) c):Bh y (.vs sz a) c:=by
 obtain⟨x,k,rfl⟩:=hr;obtain⟨t,o⟩:=s.live z g _ Q;cases r with
 |sl p q Z P=>
  rcases P t with⟨d,V,_,rfl⟩|⟨B,cap,d,m,D,rfl⟩
  ·have:a=[]:=EA (by omega);subst this;exact Bh.vs (rows:=[]) (cap:=0) (λ_ _=>undef) (Aj _) x (λ_ _ h=>by simp at h) (λh=>(h rfl).elim) λ_ _ _ _ h=>by simp at h
  ·rcases o with⟨F,_⟩|⟨A,K,T,Y,f,l,I,C,U,R,b⟩
   ·rw[F]at d;cases d
   ·have:A=B:=by rw[d]at l;injection l with e;exact e.symm
    subst this;subst hn;refine .vs (λj i=>f (j*sz+i)) m x (λj e u=>k e (BV u)) (λW=>⟨A,0,rfl,N A d,?_,λj e i v u E=>?_⟩) λj e i v u E=>?_
    ·rw[J];exact LR I
    ·obtain⟨L,M,_⟩:=b _ v (gk k j e i v u E);rw[DE,J,Og (w:=w) I];exact⟨L,M⟩
    ·exact(b _ v (gk k j e i v u E)).2.2.later S
section
variable {X:Nat->Prop} {h:Gh} {H:Aq} {w:World}
def Zr{c b:Nat}{e:EM}(a:(H.take c)[b]? =some e):b<c/\H[b]? =some e:=by
 rw[IP]at a;split at a
 ·exact⟨by assumption,a⟩
 ·cases a
def bY{n0 B:Nat}(d:owned h (H.take n0) B):owned h H B:=by obtain⟨f,e,c,b,a⟩:=d;exact⟨f,e,(Zr c).2,b,a⟩
def Bh.trunc{a:Nat}(hn:a<=H.length){v:AW}{c:Value}(r:Bh (cx X h H w) v c)(e:(v.idsAll λd=>decide (d<a))=true):Bh (cx X h (H.take a) w) v c:=by
 have:=Bh.ren (x:=cx X h H w) (y:=cx X h (H.take a) w) (ρ:=λi=>i) (p:=λd=>decide (d<a)) (λi f _=>⟨by simp[cx]at*;omega,rfl,rfl,rfl⟩) rfl (λB b=>by
  rcases b with b|b
  ·exact .inl b
  ·exact .inr (bY b)) r e
 rwa [se (p:=λd=>decide (d<a)) (λ_ _=>rfl) v e]at this
def Ik.trunc{p:Nat}(s:Ik X h H w)(hn:p<=H.length)(G: ∀e∈H.take p,(e.idsAll λc=>decide (c<p))=true):Ik X h (H.take p) w:=by
 refine⟨λB F=>⟨(s.out B F).1,λQ=>(s.out B F).2 (bY Q)⟩,λc g J d=>?_,λc L d=>?_,λc C e K B k l=>s.inj c C e K B (Zr k).2 (Zr l).2,s.bldKeep λc e d _=>⟨(Zr d).2,rfl,rfl,rfl,λ_ _ _ _ _=>rfl⟩⟩
 ·obtain⟨y,o⟩:=s.live c g J (Zr d).2;refine⟨y,?_⟩;rcases o with⟨A,rfl⟩|⟨B,q,T,M,f,i,a,n,z,x,b⟩
  ·exact .inl ⟨A,rfl⟩
  ·refine .inr ⟨B,q,T,M,f,i,a,n,z,x,λj v I=>?_⟩;obtain⟨k,l,u⟩:=b j v I;refine⟨k,l,u.trunc hn ?_⟩;exact L8 (by simpa[EM.idsAll]using G _ (BV d)) I
 ·obtain⟨y,B,r,i,a,k,l,u,N,O,P,D⟩:=s.lp c L (Zr d).2;refine⟨y,B,r,i,a,k,l,u,N,O,P,λt v m=>⟨(D t v m).1,(D t v m).2.trunc hn ?_⟩⟩;have E:=G _ (BV d);simp only[EM.idsAll]at E;exact DG.1 E (t,v) m
end
def Hu:List Oper->List Nat->List Nat
 |[],acc=>acc
 |o::r,acc=>Hu r (acc++[o.after.toList.foldl (λs e=>if Region.binds .any e=true then s|||2^e.on|||acc.getD e.on 0 else s) 0])
def OQ(m:List Nat)(i j:Nat):Bool:=(m.getD j 0).testBit i
def nW{b:List Nat}{i:Nat}: ∀(l:List Edge) (s:Nat),(l.foldl (λs e=>if Region.binds .any e=true then s|||2^e.on|||b.getD e.on 0 else s) s).testBit i=true→
  s.testBit i=true\/ ∃e∈l,Region.binds .any e=true/\(e.on=i\/(b.getD e.on 0).testBit i=true)
 |[],s,h=>.inl h
 |e::l,s,h=>by
  simp only[TR]at h;rcases nW l _ h with a|⟨f,d,c,g⟩
  ·split at a
   ·rename_i c;simp only[Nat.testBit_or,iX,Nat.testBit_two_pow]at a;rcases a with(a|a)|a
    ·exact .inl a
    ·exact .inr ⟨e,by simp,c,.inl (by simpa using a)⟩
    ·exact .inr ⟨e,by simp,c,.inr a⟩
   ·exact .inl a
  ·exact .inr ⟨f,Bq _ d,c,g⟩
def U7: ∀(l:List Oper) (a:List Nat),(∀k,k<a.length→(Hu l a)[k]? =a[k]?)∧
  ∀(p i:Nat) (o:Oper),l[p]? =some o->OQ (Hu l a) i (a.length+p)=true-> ∃e∈o.after.toList,Region.binds .any e=true/\(e.on=i\/(e.on<a.length+p/\OQ (Hu l a) i e.on=true))
 |[],a=>⟨λ_ _=>rfl,λp i o h=>by simp at h⟩
 |o::l,a=>by
  simp only[Hu];generalize u:o.after.toList.foldl (λs e=>if Region.binds .any e=true then s|||2^e.on|||a.getD e.on 0 else s) 0=x;obtain⟨d,m⟩:=U7 l (a++[x]);refine⟨λk t=>?_,λp i v j c=>?_⟩
  ·rw[d k (by simp;omega),BW t]
  ·cases p with
   |zero=>
    simp at j;subst j;have r:(Hu l (a++[x])).getD a.length 0=x:=by rw[Dr,d a.length (by simp),CG (Aj _)];simp
    simp only[OQ,N0]at c;rw[r,<-u]at c;rcases nW _ _ c with b|⟨e,q,n,b⟩
    ·simp at b
    ·refine⟨e,q,n,b.imp id λb=>?_⟩;have g:e.on<a.length:=by
      rcases Ag e.on a.length with f|f
      ·exact f
      ·rw[Dr,BP f]at b;simp at b
     refine⟨by omega,?_⟩;simp only[OQ];rw[Dr,d e.on (by simp;omega),BW g];rw[Dr]at b;exact b
   |succ p=>have:=m p i v (by simpa using j) (by rw[show(a++[x]).length+p=a.length+(p+1)from by simp;omega];exact c);rw[show(a++[x]).length+p=a.length+(p+1)from by simp;omega]at this;exact this
section
variable {ops:Array Oper}
def oJ(ops:Array Oper)(L:Array Bool):Prop:= ∀(j:Nat) (o:Oper),ops[j]? =some o->L.getD j false=true-> ∀e∈o.after,Region.binds .any e=true->L.getD e.on false=true
def Zo{L:Array Bool}(k:oJ ops L){i:Nat}: ∀(n j:Nat) (o:Oper),j<n->ops[j]? =some o->(∀e∈o.after,Region.binds .any e=true->L.getD e.on false=true)->OQ (Hu ops.toList []) i j=true->L.getD i false=true
 |0,_,_,h,_,_,_=>by omega
 |n+1,j,o,hj,ho,hp,hm=>by
  obtain⟨e,r,q,h⟩:=(U7 ops.toList []).2 j i o (by simpa using ho) (by simpa using hm);have a:=hp e (by simpa using r) q;rcases h with rfl|⟨g,c⟩
  ·exact a
  ·have l:e.on<j:=by simpa using g
   cases b:ops[e.on]? with
   |none=>have:OQ (Hu ops.toList []) i e.on=true:=c;obtain⟨s,_⟩:=VU.1 ho;rw[pY]at b;omega
   |some m=>exact Zo k n e.on m (by omega) b (λp f d=>k e.on m b a p f d) c
def Se(o:Oper):List Nat:=o.op.operands.toList.filterMap λ| .tmp t=>some t|_=>none
def fD(P:Program)(N:Nat)(o:Oper)(env:Env)(H:Aq)(rd:List Nat)(v:AW):Prop:=
 ∀(env':Env) (H':Aq),(∀t∈Se o,env'.get t=env.get t)->(∀id∈rd,H'[id]? =H[id]?)->Ii P N o env' H' λu H''=>u=v/\H''=H'
def Eff(P:Program)(N:Nat)(o:Oper)(env:Env)(H:Aq)(F:List Nat)(K:AW->Aq->Prop):Prop:=
 (∀env':Env,(∀t∈Se o,env'.get t=env.get t)->Ii P N o env' H K)/\ ∀v H',K v H'-> ∀id,id<H.length->id∉F->H'[id]? =H[id]?
def Hl(ops:Array Oper)(j:Nat):Bool:=
 match ops[j]? with
 |some o=>match o.op with| .alloc _=>true|_=>false
 |none=>false
def RA(P:Program)(N:Nat)(ops:Array Oper):List Nat->List (Nat×List Nat)->Env->Aq->(Env->Aq->Prop)->Prop
 |[],_,env,H,Q=>Q env H
 |i::r,pend,env,H,Q=>
  match ops[i]? with
  |none=>False
  |some o=>
   VG ops o.guard env
    ((Hl ops i=false/\ ∃v rd,fD P N o env H rd v/\(∀id∈rd,id<H.length)/\RA P N ops r ((i,rd)::pend) (env.putO o.dst v) H Q)\/
     (Hl ops i=false/\ ∃F,(∀j∈r,OQ (Hu ops.toList []) i j=true\/Hl ops j=true)/\(∀p∈pend,OQ (Hu ops.toList []) p.1 i=true\/ ∀id∈p.2,id∉F)/\
      ∃K,Eff P N o env H F K/\(∀v H',K v H'->H.length<=H'.length)/\ ∀v H',K v H'->RA P N ops r pend (env.putO o.dst v) H' Q)\/
     ∃t z,o.op= .alloc t/\WA P t=some z/\(∀j∈r,OQ (Hu ops.toList []) i j=true\/Hl ops j=true)/\RA P N ops r pend (env.putO o.dst (.ptr H.length 0 0)) (H++[.live 0 z]) Q)
    (Hl ops i=false/\RA P N ops r ((i,[])::pend) (env.putO o.dst (.tup [])) H Q)
def Ti(P:Program)(ops:Array Oper):Bool:=ops.toList.all λo=>match o.op with| .alloc t=>(WA P t).isSome&&o.guard.isNone|_=>true
def Sy(ops:Array Oper)(i:Nat):Option Nat:=(ops[i]?).bind (·.dst)
def uG(ops:Array Oper)(N:Nat)(l:List Nat):Bool:=
 let m:=Hu ops.toList []
 let n:=ops.size
 On N ops.toList&&
 (decide l.Nodup&&((List.range n).all λi=>l.contains i)&&l.all (λi=>decide (i<n)))&&
 ((List.range n).all λi=>match ops[i]? with
  |some o=>(o.after.toList.all λe=>!Region.binds .any e||decide (e.on<i))&&
    (match o.guard with|some (j,_)=>OQ m j i&&decide (j<n)&&(Sy ops j).isSome|none=>true)&&
    (match o.dst with
     |some d=>(List.range n).all λj=>decide (j=i)||(match ops[j]? with
       |some o'=>!decide (o'.dst=some d)&&(!(Se o').contains d||OQ m i j||OQ m j i)
       |none=>true)
     |none=>true)
  |none=>true)&&
 (l.zipIdx.all λ(i,p)=>l.zipIdx.all λ(j,q)=>!decide (p<q)|| !OQ m j i)
def F8(env:Env)(t u:Nat)(v:AW):(env.put t v).get u=if u=t then v else env.get u:=by
 unfold Env.put;simp only[Env.get];by_cases h:t=u
 ·subst h;simp
 ·rw[if_neg h,if_neg (λe=>h e.symm)];induction env with
  |nil=>rfl
  |cons p r b=>
   obtain⟨k,w⟩:=p;by_cases a:k=t
   ·subst a;simp only[Jw,ne_eq,not_true_eq_false,decide_false,F3,if_false,Env.get,if_neg h];exact b
   ·simp only[Jw,ne_eq,a,not_false_eq_true,decide_true,if_true,Env.get];split
    ·rfl
    ·exact b
def KN(env:Env):Prop:= ∀t v,(t,v)∈env->env.get t=v
def KN.put{env:Env}(h:KN env)(t:Nat)(v:AW):KN (env.put t v):=by
 intro u x m;rw[F8];unfold Env.put at m;rcases Al.1 m with e|m
 ·injection e with a b;subst a b;simp
 ·obtain⟨c,d⟩:=Bi.1 m;have:u≠t:=by simpa using d
  rw[if_neg this];exact h u x c
def KN.putO{env:Env}(h:KN env)(t:Option Nat)(v:AW):KN (env.putO t v):=by
 cases t with
 |none=>exact h
 |some t=>exact h.put t v
def ZD: ∀{env:Env},(env.map (·.1)).Nodup->KN env
 |[],_=>λ_ _ h=>by cases h
 |(k,w)::r,h=>by
  simp only[BE,FF]at h;intro t v m;simp only[Env.get];rcases Al.1 m with e|m
  ·injection e with a b;subst a b;simp
  ·have:k≠t:=by rintro rfl;exact h.1 (BX.2 ⟨_,m,rfl⟩)
   rw[if_neg this];exact ZD h.2 t v m
end
structure UU(ops:Array Oper)(N:Nat)(l:List Nat):Prop where
 dsts:On N ops.toList=true
 nodup:l.Nodup
 all: ∀i,i<ops.size->i∈l
 lt: ∀i∈l,i<ops.size
 back: ∀(i:Nat) (o:Oper),ops[i]? =some o-> ∀e∈o.after,Region.binds .any e=true->e.on<i
 guard: ∀(i:Nat) (o:Oper) (j:Nat) (b:Bool),ops[i]? =some o->o.guard=some (j,b)->OQ (Hu ops.toList []) j i=true/\j<ops.size/\ ∃d,Sy ops j=some d
 uniq: ∀(i j d:Nat),Sy ops i=some d->Sy ops j=some d->i=j
 haz: ∀(i j d:Nat) (o:Oper),Sy ops i=some d->ops[j]? =some o->d∈Se o->i≠j->OQ (Hu ops.toList []) i j=true\/OQ (Hu ops.toList []) j i=true
 ord: ∀(l1 l2:List Nat),l=l1++l2-> ∀i∈l1,∀j∈l2,OQ (Hu ops.toList []) j i=false
def Va{a:Array Oper}{i d:Nat}(h:Sy a i=some d): ∃o,a[i]? =some o/\o.dst=some d:=by
 unfold Sy at h;cases b:a[i]? with
 |none=>rw[b]at h;cases h
 |some o=>rw[b]at h;exact⟨o,rfl,h⟩
def Ta{a:Array Oper}{i:Nat}{o:Oper}(h:a[i]? =some o):i<a.size:=(VU.1 h).1
def sZ{g:Array Oper}{N:Nat}{l:List Nat}(h:uG g N l=true):UU g N l:=by
 unfold uG at h;simp only[BM]at h;obtain⟨⟨⟨z,⟨A,B⟩,C⟩,D⟩,E⟩:=h;have c: ∀(i:Nat) (o:Oper),g[i]? =some o->_:=λi o f=>by have:=DG.1 D i (G5.2 (Ta f));rw[f]at this;simp only[BM]at this;exact this
 refine⟨z,by simpa using A,λi a=>?_,λi a=>by simpa using List.all_eq_true.1 C i a,λi o f e H F=>?_,λi o j b f I=>?_,λi j d a k=>?_,λi j d o a k n u=>?_,λl1 l2 y i a j k=>?_⟩
 ·have:=DG.1 B i (G5.2 a);simpa using this
 ·have:=DG.1 (c i o f).1.1 e (by simpa using H);simpa[F]using this
 ·have:=(c i o f).1.2;rw[I]at this;simp only[BM,decide_eq_true_eq]at this;exact⟨this.1.1,this.1.2,VO.1 this.2⟩
 ·obtain⟨o,f,n⟩:=Va a;obtain⟨O,m,r⟩:=Va k;have:=(c i o f).2;rw[n]at this;have:=DG.1 this j (G5.2 (Ta m));rw[m]at this;simp only[r,decide_true,D9,Bool.false_and,Bool.or_false,decide_eq_true_eq]at this;exact this.symm
 ·obtain⟨M,v,s⟩:=Va a;have:=(c i M v).2;rw[s]at this;have:=DG.1 this j (G5.2 (Ta k));rw[k]at this;have G:(Se o).contains d=true:=by simpa using n
  simp only[G,D9,Bool.false_or,iX,decide_eq_true_eq,BM]at this;rcases this with h|⟨_,h⟩
  ·exact(u h.symm).elim
  ·exact h
 ·obtain⟨p,w⟩:=RQ a;obtain⟨q,J⟩:=RQ k;have x:p<l1.length:=by
   rcases Ag p l1.length with h|h
   ·exact h
   ·rw[BP h]at w;cases w
  have K:(i,p)∈l.zipIdx:=by rw[lI];rw[y,BW x];exact w
  have L:(j,l1.length+q)∈l.zipIdx:=by rw[lI];rw[y,CG (by omega)];simpa using J
  have:=DG.1 (DG.1 E _ K) _ L;have t:p<l1.length+q:=by omega
  simpa[t]using this
section
variable {P:Program} {N:Nat} {ops:Array Oper} {l:List Nat} {Q:Env->Aq->Prop} {env0:Env} {X:Nat->Prop} {h0:Gh} {H0:Aq} {w0:World} {ds0:List Deferred}
def Opd(ops:Array Oper)(env0:Env)(v:Nat->AW)(i:Nat)(o:Oper)(ei:Env):Prop:=
 ∀t∈Se o,(∀k,k≠i->Sy ops k=some t->OQ (Hu ops.toList []) k i=true->ei.get t=v k)/\
  ((∀k,k≠i->Sy ops k=some t->OQ (Hu ops.toList []) k i=false)->ei.get t=env0.get t)
def R0(v:Nat->AW)(o:Oper)(r:Bool):Prop:=
 match o.guard with
 |none=>r=true
 |some (j,want)=>(∃b,v j= .bool b/\r=(b==want))\/(v j= .tup []/\r=false)
def XR(X:Nat->Prop)(early:Nat->Option Nat)(B:Nat):Prop:=X B\/ ∃i,early i=some B
structure Inv(P:Program)(N:Nat)(ops:Array Oper)(l:List Nat)(Q:Env→Aq→Prop)(env0:Env)(X:Nat→Prop)(h0:Gh)(H0:Aq)(w0:World)(ds0:List Deferred)
  (l1 l2:List Nat) (v:Nat->AW) (pend:List (Nat×List Nat)) (env:Env) (H:Aq) (h:Gh) (early:Nat->Option Nat) (L:Array Bool) (a:Act) (w:World):Prop where
 split:l=l1++l2
 ra:RA P N ops l2 pend env H Q
 kn:KN env
 keys: ∀t u,(t,u)∈env->t<N
 env1: ∀k∈l1,∀t,Sy ops k=some t->env.get t=v k
 env2: ∀t,(∀k∈l1,Sy ops k≠some t)->env.get t=env0.get t
 sim:Ik (XR X early) h H w
 nodefer:a.defers=ds0
 size:a.tmps.size=N
 slot1: ∀k t,L.getD k false=true->early k=none->Sy ops k=some t->Bh (cx (XR X early) h H w) (v k) (a.tmps.getD t undef)
 slot2: ∀t,(∀k,L.getD k false=true->Sy ops k≠some t)->Bh (cx (XR X early) h H w) (env0.get t) (a.tmps.getD t undef)
 sub: ∀i,L.getD i false=true->early i=none->i∈l1
 lsz:L.size=ops.size
 closed:oJ ops L
 pendq: ∀i∈l1,L.getD i false=false-> ∃o,ops[i]? =some o/\Hl ops i=false/\((R0 v o false/\v i= .tup [])\/
  (R0 v o true/\ ∃rd ei,(i,rd)∈pend/\(∀id∈rd,id<H.length)/\KN ei/\(∀t u,(t,u)∈ei->t<N)/\Opd ops env0 v i o ei/\fD P N o ei H rd (v i)))
 ext:HS h0 H0 w0 h H w
 early1: ∀i B,early i=some B->i∈l2/\L.getD i false=true/\w0.heap.size<=B/\B<w.heap.size/\ ∃(o:Oper) (t:TypeId) (z:List AW) (arr:Array Value),ops[i]? =some o/\o.op= .alloc t/\WA P t=some z/\
  w.heap[B]? =some (.cells arr t (0,0))/\Bh (cx (XR X early) h H w) (.agg z) (.agg arr)/\ ∀d,o.dst=some d->a.tmps.getD d undef= .pointer (some ⟨B,0,none⟩)
 early2: ∀i j B,early i=some B->early j=some B->i=j
def look(o:Oper)(ei:Env):Env:=ei.filter λp=>(Se o).contains p.1
def qX(o:Oper)(a:Env): ∀t∈Se o,(look o a).get t=a.get t:=by
 intro t d;unfold look;induction a with
 |nil=>rfl
 |cons p r c=>
  obtain⟨k,u⟩:=p;by_cases b:(Se o).contains k=true
  ·simp only[Jw,b,if_true,Env.get];split
   ·rfl
   ·exact c
  ·simp only[Jw,b,F3,if_false,Env.get];rw[if_neg (by rintro rfl;exact b (by simpa using d))];exact c
variable {l1 l2:List Nat} {v:Nat->AW} {pend:List (Nat×List Nat)} {env:Env} {H:Aq} {h:Gh} {early:Nat->Option Nat} {L:Array Bool} {a:Act} {w:World}
def Inv.opd(ok:UU ops N l)(I:Inv P N ops l Q env0 X h0 H0 w0 ds0 l1 l2 v pend env H h early L a w){i:Nat}{r:List Nat}(m:l2=i::r){o:Oper}(s:ops[i]? =some o):Opd ops env0 v i o env:=by
 intro t u;have n:i∉l1:=by intro b;have:=ok.nodup;rw[I.split,m]at this;exact(PF.1 this).2.2 i b i (by simp) rfl
 refine⟨λk q c g=>?_,λp=>?_⟩
 ·refine I.env1 k ?_ t c;obtain⟨x,f,_⟩:=Va c;have b:=ok.all k (Ta f);rw[I.split,Ar]at b;rcases b with b|b
  ·exact b
  ·rw[m]at b;rcases Al.1 b with e|b
   ·exact(q e).elim
   ·have:=ok.ord (l1++[i]) r (by rw[I.split,m];simp) i (by simp) k b;rw[g]at this;cases this
 ·refine I.env2 t λk b c=>?_;have d:k≠i:=λe=>n (e▸b);rcases ok.haz k i t o c s u d with j|j
  ·rw[p k d c]at j;cases j
  ·have:=ok.ord l1 l2 I.split k b i (by rw[m];simp);rw[j]at this;cases this
def Inv.look(ok:UU ops N l)(I:Inv P N ops l Q env0 X h0 H0 w0 ds0 l1 l2 v pend env H h early L a w){i:Nat}{o:Oper}(y:ops[i]? =some o)(p:L.getD i false=false)
  (J: ∀e∈o.after,Region.binds .any e=true->L.getD e.on false=true) (x: ∀k,OQ (Hu ops.toList []) k i=true->early k=none) {q:Env} (kn:KN q) (G: ∀t u,(t,u)∈q->t<N) (n:Opd ops env0 v i o q):M4 (cx (XR X early) h H w) (look o q) a:=by
 intro t u m;obtain⟨B,K⟩:=Bi.1 m;have z:t∈Se o:=by simpa using K
 refine⟨by rw[I.size];exact G t u B,?_⟩;rw[<-kn t u B];obtain⟨D,E⟩:=n t z;by_cases A: ∃k,k≠i/\Sy ops k=some t/\OQ (Hu ops.toList []) k i=true
 ·obtain⟨k,b,d,c⟩:=A;rw[D k b d c];exact I.slot1 k t (Zo I.closed (i+1) i o (by omega) y J c) (x k c) d
 ·have g: ∀k,k≠i->Sy ops k=some t->OQ (Hu ops.toList []) k i=false:=by
   intro k b d;cases s:OQ (Hu ops.toList []) k i with
   |false=>rfl
   |true=>exact(A ⟨k,b,d,s⟩).elim
  rw[E g];refine I.slot2 t λk f d=>?_;by_cases b:k=i
  ·subst b;rw[p]at f;cases f
  ·rcases ok.haz k i t o d y z b with r|r
   ·rw[g k b d]at r;cases r
   ·obtain⟨C,j,_⟩:=Va d;have:=Zo I.closed (k+1) k C (by omega) j (λe F s=>I.closed k C j f e F s) r;rw[p]at this;cases this
def Inv.wanted(ok:UU ops N l)(I:Inv P N ops l Q env0 X h0 H0 w0 ds0 l1 l2 v pend env H h early L a w){i:Nat}{o:Oper}(D:ops[i]? =some o)(z: ∀k,OQ (Hu ops.toList []) k i=true→early k=none)
  (E: ∀e∈o.after,Region.binds .any e=true->L.getD e.on false=true) {r:Bool} (s:R0 v o r):Region.wanted o (yielded ops a.tmps)=r:=by
 unfold R0 at s;unfold Region.wanted;cases x:o.guard with
 |none=>rw[x]at s;exact s.symm
 |some p=>
  obtain⟨j,g⟩:=p;rw[x]at s;obtain⟨n,G,d,t⟩:=ok.guard i o j g D x;have y:=Zo I.closed (i+1) i o (by omega) D E n;have hr:=I.slot1 j d y (z j n) t;have m:d<a.tmps.size:=by obtain⟨F,A,u⟩:=Va t;have:=DG.1 ok.dsts F (by rw[dt];exact U0 A);rw[u]at this;rw[I.size];simpa using this
  rcases s with⟨b,B,rfl⟩|⟨B,rfl⟩
  case inr=>
   rw[B]at hr;obtain⟨q,f⟩: ∃q,a.tmps.getD d undef= .tuple q:=by generalize a.tmps.getD d undef=c at hr;cases hr;exact⟨_,rfl⟩
   have C:yielded ops a.tmps j=none:=by
    unfold yielded;rw[show(ops[j]?).bind (·.dst)=some d from t];simp only[AJ];have:a.tmps[d]? =some (.tuple q):=by rw[H9 m];rw[JK,H9 m]at f;simpa using f
    rw[this]
   simp only[C];cases g<;>rfl
  rw[B]at hr;have f:a.tmps.getD d undef= .bool b:=by generalize a.tmps.getD d undef=c at hr;cases hr;rfl
  have C:yielded ops a.tmps j=some b:=by
   unfold yielded;rw[show(ops[j]?).bind (·.dst)=some d from t];simp only[AJ];have:a.tmps[d]? =some (.bool b):=by rw[H9 m];rw[JK,H9 m]at f;simpa using f
   rw[this]
  simp only[C];cases b<;>cases g<;>rfl
def Inv.noEarly(ok:UU ops N l)(I:Inv P N ops l Q env0 X h0 H0 w0 ds0 l1 l2 v pend env H h early L a w){i:Nat}(d:i∈l1\/ ∃r,l2=i::r): ∀k,OQ (Hu ops.toList []) k i=true->k≠i->early k=none:=by
 intro k c f;cases g:early k with
 |none=>rfl
 |some B=>
  have b:=(I.early1 k B g).1;rcases d with d|⟨r,rfl⟩
  ·have:=ok.ord l1 l2 I.split i d k b;rw[c]at this;cases this
  ·rcases Al.1 b with e|b
   ·exact(f e).elim
   ·have:=ok.ord (l1++[i]) r (by rw[I.split];simp) i (by simp) k b;rw[c]at this;cases this
def Gy{L:Array Bool}{i:Nat}(a:i<L.size)(j:Nat):(L.setIfInBounds i true).getD j false=if j=i then true else L.getD j false:=by
 rw[JK,JK];by_cases h:j=i
 ·subst h;rw[dr a];simp
 ·rw[YN (λe=>h e.symm),if_neg h]
def Qp{a:Act}{d:Option Nat}{c:Value}(b: ∀t,d=some t->t<a.tmps.size)(t:Nat):(a.put d c).tmps.getD t undef=if d=some t then c else a.tmps.getD t undef:=by
 cases d with
 |none=>simp[Act.put]
 |some d=>
  simp only[Act.put,AV];rw[JK,JK];by_cases h:d=t
  ·subst h;rw[dr (b d rfl)];simp
  ·rw[YN h,if_neg h]
def fk{L:Array Bool}(h:oJ ops L){i:Nat}{o:Oper}(k:i<L.size)(l:ops[i]? =some o)(m: ∀e∈o.after,Region.binds .any e=true->L.getD e.on false=true):oJ ops (L.setIfInBounds i true):=by
 intro j n a c e f d;rw[Gy k]at c⊢;by_cases b:j=i
 ·subst b;rw[l]at a;injection a with g;subst g;rw[m e f d];simp
 ·rw[if_neg b]at c;rw[h j n a c e f d];simp
end
section
variable {P:Program} {N:Nat} {ops:Array Oper} {l:List Nat} {Q:Env->Aq->Prop} {env0:Env} {X:Nat->Prop} {h0:Gh} {H0:Aq} {w0:World} {ds0:List Deferred}
variable {l1 l2:List Nat} {v:Nat->AW} {pend:List (Nat×List Nat)} {env:Env} {H:Aq} {h:Gh} {early:Nat->Option Nat} {L:Array Bool} {a:Act} {w:World}
def jH(ok:UU ops N l){i:Nat}{o:Oper}(a:ops[i]? =some o): ∀t,o.dst=some t->t<N:=by intro t b;have:=DG.1 ok.dsts o (by rw[dt];exact U0 a);rw[b]at this;simpa using this
def Fv{i:Nat}{o:Oper}(a:ops[i]? =some o):Sy ops i=o.dst:=by unfold Sy;rw[a];rfl
def Inv.done(ok:UU ops N l)(I:Inv P N ops l Q env0 X h0 H0 w0 ds0 l1 l2 v pend env H h early L a w){i:Nat}{o:Oper}(p:ops[i]? =some o)(r:i∈l1)(ad:L.getD i false=false)
  (hp: ∀e∈o.after,Region.binds .any e=true->L.getD e.on false=true) {c:Value} {A:Gh} {C:World} (sim:Ik (XR X early) A H C) (x:HS h H w A H C) (hv:Bh (cx (XR X early) A H C) (v i) c):
  Inv P N ops l Q env0 X h0 H0 w0 ds0 l1 l2 v pend env H A early (L.setIfInBounds i true) (a.put o.dst c) C:=by
 have n:i<L.size:=by rw[I.lsz];exact Ta p
 have F: ∀t,o.dst=some t->t<a.tmps.size:=λt ht=>by rw[I.size];exact jH ok p t ht
 have O:=x.later (XR X early);have s:i∉l2:=by intro hm;have:=ok.nodup;rw[I.split]at this;exact(PF.1 this).2.2 i r i hm rfl
 refine{split:=I.split,ra:=I.ra,kn:=I.kn,keys:=I.keys,env1:=I.env1,env2:=I.env2,sim:=sim,nodefer:=?_,size:=(Zq _ _ _).trans I.size,slot1:=λk t m M f=>?_,slot2:=λt y=>?_,sub:=λj G J=>?_,lsz:=by rw[du];exact I.lsz,closed:=fk I.closed n p hp,pendq:=λk K g=>?_,ext:=I.ext.trans x,early1:=λk B m=>?_,early2:=I.early2}
 ·rw[show(a.put o.dst c).defers=a.defers by cases o.dst<;>rfl];exact I.nodefer
 ·rw[Qp F];rw[Gy n]at m;by_cases b:k=i
  ·subst b;rw[Fv p]at f;rw[if_pos f];exact hv
  ·rw[if_neg b]at m;rw[if_neg (λe=>b (ok.uniq k i t f (by rw[Fv p];exact e)))];exact(I.slot1 k t m M f).later O
 ·rw[Qp F];have R:o.dst≠some t:=by have:=y i (by rw[Gy n,if_pos rfl]);rwa [Fv p]at this
  rw[if_neg R];refine(I.slot2 t λk m=>y k ?_).later O;rw[Gy n];split
  ·rfl
  ·exact m
 ·rw[Gy n]at G;by_cases u:j=i
  ·subst u;exact r
  ·rw[if_neg u]at G;exact I.sub j G J
 ·rw[Gy n]at g;by_cases b:k=i
  ·subst b;simp at g
  ·rw[if_neg b]at g;exact I.pendq k K g
 ·obtain⟨S,V,W,T,o',t,z,D,U,Y,Z,e8,e9,E⟩:=I.early1 k B m;have b:k≠i:=λe=>s (e▸S);refine⟨S,by rw[Gy n,if_neg b];exact V,W,DD T x.size,o',t,z,D,U,Y,Z,?_,e9.later O,λd q=>?_⟩
  ·exact(x.keep B T (I.sim.out B (.inr ⟨k,m⟩)).2).trans e8
  ·rw[Qp F,if_neg (λe=>b (ok.uniq k i d (by rw[Fv U];exact q) (by rw[Fv p];exact e)))];exact E d q
def Inv.next(ok:UU ops N l)(I:Inv P N ops l Q env0 X h0 H0 w0 ds0 l1 l2 v pend env H h early L a w){i:Nat}{r:List Nat}(hl:l2=i::r){o:Oper}(V:ops[i]? =some o){u:AW}{pend':List (Nat×List Nat)}
  (G:Hl ops i=false) (bl:RA P N ops r pend' (env.putO o.dst u) H Q) (bd: ∀p∈pend,p∈pend')
  (hq:(R0 v o false/\u= .tup [])\/(R0 v o true/\ ∃rd,(i,rd)∈pend'/\(∀id∈rd,id<H.length)/\fD P N o env H rd u)):
  ∃T,Inv P N ops l Q env0 X h0 H0 w0 ds0 (l1++[i]) r T pend' (env.putO o.dst u) H h early L a w:=by
 have a1:=I.opd ok hl V;have ax:=ok.nodup;rw[I.split,hl]at ax;have Z:i∉l1:=λhm=>(PF.1 ax).2.2 i hm i (by simp) rfl;have ar:early i=none:=by
  cases he:early i with
  |none=>rfl
  |some B=>obtain⟨_,_,_,_,o',t,z,bG,e5,e6,_⟩:=I.early1 i B he;unfold Hl at G;rw[e5]at G;simp only[e6]at G;cases G
 have bz:L.getD i false=false:=by
  cases R:L.getD i false with
  |false=>rfl
  |true=>exact(Z (I.sub i R ar)).elim
 let T:Nat->AW:=λk=>if k=i then u else v k;have F: ∀k,k≠i->T k=v k:=λk g=>by simp[T,g]
 have a2:T i=u:=by simp[T]
 have U: ∀t,(env.putO o.dst u).get t=if o.dst=some t then u else env.get t:=by
  intro t;cases o.dst with
  |none=>simp[Env.putO]
  |some d=>
   simp only[Env.putO,F8,AV];by_cases h:d=t
   ·subst h;simp
   ·rw[if_neg h,if_neg (λe=>h e.symm)]
 have al:OQ (Hu ops.toList []) i i=true->False:=by
  intro R;obtain⟨e,he,bN,K⟩:=(U7 ops.toList []).2 i i o (by simpa using V) (by simpa using R);have ap: ∀(n j k:Nat),j<n->OQ (Hu ops.toList []) k j=true->k<j:=by
   intro n;induction n with
   |zero=>intro j k h;omega
   |succ n ih=>
    intro j k hj R;cases ad:ops[j]? with
    |none=>
     have bt:ops.size<=j:=pY.1 ad;have as: ∀(l:List Oper) (O:List Nat),(Hu l O).length=O.length+l.length:=by
      intro l;induction l with
      |nil=>intro O;rfl
      |cons o l ih=>intro O;simp only[Hu,ih];simp;omega
     have:(Hu ops.toList []).getD j 0=0:=by rw[Dr,BP (by rw[as];simpa using bt)];rfl
     unfold OQ at R;rw[this]at R;simp at R
    |some oj=>
     obtain⟨e,he,a4,A⟩:=(U7 ops.toList []).2 j k oj (by simpa using ad) (by simpa using R);have b0:=ok.back j oj ad e (by simpa using he) a4;rcases A with A|⟨A,h3⟩
     ·omega
     ·have:=ih e.on k (by omega) h3;omega
  have:=ap (i+1) i i (by omega) R;omega
 have a3: ∀{k:Nat} {y:Oper} {ei:Env},k∈l1->ops[k]? =some y->Opd ops env0 v k y ei->Opd ops env0 T k y ei:=by intro k y ei a6 S bb t ht;obtain⟨c1,c2⟩:=bb t ht;refine⟨λq hq M C=>?_,c2⟩;rw[c1 q hq M C,F];rintro rfl;have:=ok.ord l1 l2 I.split k a6 q (by rw[hl];simp);rw[C]at this;cases this
 have f: ∀{o':Oper} {b:Bool},(∀j c,o'.guard=some (j,c)->j≠i)->R0 v o' b->R0 T o' b:=by
  intro o' b a' hw;unfold R0 at hw⊢;cases Y:o'.guard with
  |none=>rw[Y]at hw;exact hw
  |some p=>obtain⟨j,c⟩:=p;rw[Y]at hw;simp only at hw⊢;rw[F j (a' j c Y)];exact hw
 refine⟨T,{split:=by rw[I.split,hl];simp,ra:=bl,kn:=I.kn.putO _ _,keys:=λt x m=>?_,env1:=λk g t M=>?_,env2:=λt a0=>?_,sim:=I.sim,nodefer:=I.nodefer,size:=I.size,slot1:=λk t g a8 M=>?_,slot2:=I.slot2,sub:=λj hj a5=>Q1 _ (I.sub j hj a5),lsz:=I.lsz,closed:=I.closed,pendq:=λk g a9=>?_,ext:=I.ext,early1:=λk B g=>?_,early2:=I.early2}⟩
 ·cases J:o.dst with
  |none=>rw[J]at m;exact I.keys t x m
  |some d=>
   rw[J]at m;simp only[Env.putO,Env.put]at m;rcases Al.1 m with e|m
   ·injection e with e1 _;subst e1;exact jH ok V t J
   ·exact I.keys t x (Bi.1 m).1
 ·rw[U];rcases Ar.1 g with g|g
  ·have D:k≠i:=λe=>Z (e▸g);rw[F k D,if_neg (λe=>D (ok.uniq k i t M (by rw[Fv V];exact e)))];exact I.env1 k g t M
  ·have:k=i:=by simpa using g
   subst this;rw[Fv V]at M;rw[if_pos M,a2]
 ·rw[U];have K:o.dst≠some t:=by have:=a0 i (by simp);rwa [Fv V]at this
  rw[if_neg K];exact I.env2 t λk g=>a0 k (Q1 _ g)
 ·have D:k≠i:=by rintro rfl;rw[bz]at g;cases g
  rw[F k D];exact I.slot1 k t g a8 M
 ·rcases Ar.1 g with E|E
  ·have D:k≠i:=λe=>Z (e▸E);obtain⟨y,S,a7,W⟩:=I.pendq k E a9;have s: ∀j c,y.guard=some (j,c)->j≠i:=by rintro j c Y rfl;have:=(ok.guard k y j c S Y).1;have A:=ok.ord l1 l2 I.split k E j (by rw[hl];simp);rw[this]at A;cases A
   refine⟨y,S,a7,?_⟩;rw[F k D];rcases W with⟨K,A⟩|⟨K,rd,ei,A,h3,h4,h5,h6,h7⟩
   ·exact .inl ⟨f s K,A⟩
   ·exact .inr ⟨f s K,rd,ei,bd _ A,h3,h4,h5,a3 E S h6,h7⟩
  ·have:k=i:=by simpa using E
   subst this;have s: ∀j c,o.guard=some (j,c)->j≠k:=by rintro j c Y rfl;exact al (ok.guard j o j c V Y).1
   refine⟨o,V,G,?_⟩;rw[a2];rcases hq with⟨K,A⟩|⟨K,rd,A,h3,h4⟩
   ·exact .inl ⟨f s K,A⟩
   ·refine .inr ⟨f s K,rd,env,A,h3,I.kn,I.keys,λt ht=>?_,h4⟩;obtain⟨c1,c2⟩:=a1 t ht;exact⟨λq hq M C=>by rw[c1 q hq M C,F q hq],c2⟩
 ·obtain⟨e1,e2⟩:=I.early1 k B g;rw[hl]at e1;rcases Al.1 e1 with e|e1
  ·rw[e,ar]at g;cases g
  ·exact⟨e1,e2⟩
def Inv.guardW(ok:UU ops N l)(I:Inv P N ops l Q env0 X h0 H0 w0 ds0 l1 l2 v pend env H h early L a w){i:Nat}{r:List Nat}(G:l2=i::r){o:Oper}(D:ops[i]? =some o){A B:Prop}(c:VG ops o.guard env A B):
  (R0 v o true/\A)\/(R0 v o false/\B):=by
 unfold VG at c;unfold R0;cases t:o.guard with
 |none=>rw[t]at c;exact .inl ⟨rfl,c⟩
 |some p=>
  obtain⟨j,g⟩:=p;rw[t]at c;simp only at c⊢;obtain⟨f,S,d,K⟩:=ok.guard i o j g D t;have F:j∈l1:=by
   have m:=ok.all j S;rw[I.split,Ar]at m;rcases m with m|m
   ·exact m
   ·rw[G]at m;rcases Al.1 m with e|m
    ·subst e;have J:=ok.back;exfalso;have C:=I.opd ok G D;obtain⟨e,M,R,V⟩:=(U7 ops.toList []).2 j j o (by simpa using D) (by simpa using f);have x: ∀(n q k:Nat),q<n->q<=j->OQ (Hu ops.toList []) k q=true->k<q:=by
      intro n;induction n with
      |zero=>intro q k h;omega
      |succ n U=>
       intro q k W T u;have y:q<ops.size:=by have:=Ta D;omega
       obtain⟨e,M,E,C⟩:=(U7 ops.toList []).2 q k ops[q] (by simp[y]) (by simpa using u);have J:=ok.back q ops[q] (by simp[y]) e (by simpa using M) E;rcases C with C|⟨C,O⟩
       ·omega
       ·have:=U e.on k (by omega) (by omega) O;omega
     have:=x (j+1) j j (by omega) (Aj _) f;omega
    ·have:=ok.ord (l1++[i]) r (by rw[I.split,G];simp) i (by simp) j m;rw[f]at this;cases this
  have z:Tw ops env j=v j:=by unfold Tw;rw[show(ops[j]?).bind (·.dst)=some d from K];exact I.env1 j F d K
  rw[z]at c;split at c
  ·rename_i b u;by_cases s:b=g
   ·exact .inl ⟨.inl ⟨b,u,by simp[s]⟩,c.1 s⟩
   ·exact .inr ⟨.inl ⟨b,u,by simp[s]⟩,c.2 (by cases b<;>cases g<;>simp_all)⟩
  ·rename_i u;exact .inr ⟨.inr ⟨u,trivial⟩,c⟩
  ·exact c.elim
end
section
variable {P:Program} {N:Nat} {ops:Array Oper} {l:List Nat} {Q:Env->Aq->Prop} {env0:Env} {X:Nat->Prop} {h0:Gh} {H0:Aq} {w0:World} {ds0:List Deferred}
def Tx{i:Nat}{o:Oper}(a:ops[i]? =some o):Hl ops i=true↔ ∃t,o.op= .alloc t:=by unfold Hl;grind
def Z4(h:Ti P ops=true){i:Nat}{o:Oper}{t:TypeId}(b:ops[i]? =some o)(a:o.op= .alloc t):(∃z,WA P t=some z)/\o.guard=none:=by have:=DG.1 h o (by rw[dt];exact U0 b);rw[a]at this;simp at this;exact⟨VO.1 this.1,by simpa using this.2⟩
def Inv.adopt(ok:UU ops N l)(ha:Ti P ops=true)(hX: ∀B,X B→B<w0.heap.size){l1:List Nat}{v:Nat→AW}{a9:List (Nat×List Nat)}{env:Env}{H:Aq}{h:Gh}{D:Nat→Option Nat}{L:Array Bool}{a:Act}{w:World}
  {i:Nat} {r:List Nat} (I:Inv P N ops l Q env0 X h0 H0 w0 ds0 l1 (i::r) v a9 env H h D L a w) {B:Nat} (hB:D i=some B):
  ∃v' ap H' h' c,Inv P N ops l Q env0 X h0 H0 w0 ds0 (l1++[i]) r v' a9 ap H' h' c L a w:=by
 obtain⟨e1,e2,e3,e4,o,t,z,W,T,ax,hz,b1,ca,bG⟩:=I.early1 i B hB;have cv:Hl ops i=true:=(Tx T).2 ⟨t,ax⟩;have hg:=(Z4 ha T ax).2;have a4:=I.ra;simp only[RA,T,hg,VG,cv,iY,false_and,false_or]at a4;obtain⟨R,z',a7,cf,_,a4⟩:=a4;rw[ax]at a7;injection a7 with et;subst et;rw[hz]at cf;injection cf with ez;subst ez;have b':=ok.nodup;rw[I.split]at b';have b5:i∉l1:=λhm=>(PF.1 b').2.2 i hm i (by simp) rfl;let u:AW:=.ptr H.length 0 0;let v':Nat->AW:=λk=>if k=i then u else v k;have a1: ∀k,k≠i->v' k=v k:=λk S=>by simp[v',S]
 have cd:v' i=u:=by simp[v']
 let c:Nat->Option Nat:=λk=>if k=i then none else D k;have Z: ∀k C,c k=some C->k≠i/\D k=some C:=by
  intro k C S;simp only[c]at S;split at S
  ·cases S
  ·exact⟨by assumption,S⟩
 have a5: ∀t,(env.putO o.dst u).get t=if o.dst=some t then u else env.get t:=by
  intro t;cases o.dst with
  |none=>simp[Env.putO]
  |some d=>
   simp only[Env.putO,F8,AV];by_cases h:d=t
   ·subst h;simp
   ·rw[if_neg h,if_neg (λe=>h e.symm)]
 have cl: ∀{k:Nat} {O:Oper} {ei:Env},k∈l1->ops[k]? =some O->Opd ops env0 v k O ei->Opd ops env0 v' k O ei:=by intro k O ei bd a3 ax t ht;obtain⟨c1,c2⟩:=ax t ht;refine⟨λq hq hd a8=>?_,c2⟩;rw[c1 q hq hd a8,a1];rintro rfl;have:=ok.ord l1 (q::r) I.split k bd q (by simp);rw[a8]at this;cases this
 have V: ∀{o':Oper} {b:Bool},(∀j E,o'.guard=some (j,E)->j≠i)->R0 v o' b->R0 v' o' b:=by
  intro o' b bz hw;unfold R0 at hw⊢;cases hg:o'.guard with
  |none=>rw[hg]at hw;exact hw
  |some p=>obtain⟨j,E⟩:=p;rw[hg]at hw;simp only at hw⊢;rw[a1 j (bz j E hg)];exact hw
 have a0: ∀C,owned (h.at_ H.length (some B) 0 W.size) (H++[.live 0 z]) C->owned h H C\/C=B:=by
  rintro C ⟨F,e,he,bz,U⟩;rcases IL he with⟨s,he⟩|⟨rfl,rfl⟩
  ·exact .inl ⟨F,e,he,bz,by simpa[Gh.at_,BS s]using U⟩
  ·simp[Gh.at_]at U;exact .inr U.symm
 have hl:(cx (XR X D) h H w).Later (cx (XR X c) (h.at_ H.length (some B) 0 W.size) (H++[.live 0 z]) w):=by
  refine⟨Aj _,λ_ _ _ _=>rfl,λC _ hO=>?_,by simp[cx],λF A=>by simp only[cx]at A;simp[cx,Gh.at_,BS A],λF A _=>by simp only[cx]at A;simp[cx,Gh.at_,BS A]⟩;rcases hO with(hO|⟨k,S⟩)|hO
  ·exact .inl (.inl hO)
  ·exact .inl (.inr ⟨k,(Z k C S).2⟩)
  ·rcases a0 C hO with hO|rfl
   ·exact .inr hO
   ·exact .inl (.inr ⟨i,hB⟩)
 have b9: ¬owned h H B:=(I.sim.out B (.inr ⟨i,hB⟩)).2;have cb:Ik (XR X c) (h.at_ H.length (some B) 0 W.size) (H++[.live 0 z]) w:=by
  refine⟨λC Y=>?_,λF g cs he=>?_,λF L' he=>?_,λF c5 e e' C h1 h2 b7 b8 h3 h4=>?_,I.sim.bldKeep λF e he hB=>?_⟩
  ·have ce:XR X D C:=by
    rcases Y with Y|⟨k,S⟩
    ·exact .inl Y
    ·exact .inr ⟨k,(Z k C S).2⟩
   refine⟨(I.sim.out C ce).1,λT=>?_⟩;rcases a0 C T with T|rfl
   ·exact(I.sim.out C ce).2 T
   ·rcases Y with Y|⟨k,S⟩
    ·have:=hX C Y;omega
    ·obtain⟨k1,k2⟩:=Z k C S;exact k1 (I.early2 k i C k2 hB)
  ·rcases IL he with⟨s,as⟩|⟨rfl,e⟩
   ·obtain⟨hg,b3⟩:=I.sim.live F g cs as;refine⟨by simpa[cx,Gh.at_,BS s]using hg,?_⟩;rcases b3 with⟨hn,rfl⟩|⟨B1,al,T',ct,f,U,hb,b2,bt,bb,G⟩
    ·exact .inl ⟨by simpa[cx,Gh.at_,BS s]using hn,rfl⟩
    ·refine .inr ⟨B1,al,T',ct,f,by simpa[cx,Gh.at_,BS s]using U,hb,by simpa[cx,Gh.at_,BS s]using b2,bt,bb,λj v hj=>?_⟩;obtain⟨p1,p2,p3⟩:=G j v hj;exact⟨p1,p2,p3.later hl⟩
   ·injection e with e1 e2;subst e1 e2;obtain⟨f,bt,bb,G⟩:=Oy (ca.later hl);exact⟨by simp[cx,Gh.at_],.inr ⟨B,W,t,(0,0),f,by simp[cx,Gh.at_],b1,by simp[cx,Gh.at_],bt,bb,G⟩⟩
  ·rcases IL he with⟨s,as⟩|⟨rfl,e⟩
   ·obtain⟨hg,B1,r1,U,hb,p1,p2,p3,p4,p5,p6,p7⟩:=I.sim.lp F L' as;exact⟨by simpa[cx,Gh.at_,BS s]using hg,B1,r1,by simpa[cx,Gh.at_,BS s]using U,hb,p1,p2,p3,p4,p5,p6,λt v m=>⟨(p7 t v m).1,(p7 t v m).2.later hl⟩⟩
   ·cases e
  ·rcases IL h1 with⟨ch,bN⟩|⟨rfl,_⟩<;>rcases IL h2 with⟨ci,b0⟩|⟨rfl,_⟩
   ·exact I.sim.inj _ _ _ _ C bN b0 b7 b8 (by simpa[Gh.at_,BS ch]using h3) (by simpa[Gh.at_,BS ci]using h4)
   ·simp[Gh.at_]at h4;subst h4;exact(b9 ⟨F,e,bN,b7,by simpa[Gh.at_,BS ch]using h3⟩).elim
   ·simp[Gh.at_]at h3;subst h3;exact(b9 ⟨c5,e',b0,b8,by simpa[Gh.at_,BS ci]using h4⟩).elim
   ·rfl
  ·rcases IL he with⟨s,as⟩|⟨rfl,e⟩
   ·exact⟨as,by simp[Gh.at_,BS s],by simp[Gh.at_,BS s],by simp[Gh.at_,BS s],λ_ _ _ _ _=>rfl⟩
   ·subst e;cases hB
 have b4:HS h0 H0 w0 (h.at_ H.length (some B) 0 W.size) (H++[.live 0 z]) w:=by
  have x:=I.ext;refine⟨x.os,x.tape,x.output,x.size,x.keep,by have:=x.n;simp;omega,λF A=>?_,λF A e=>?_,λC T=>?_,x.loops⟩
  ·have s:F<H.length:=DD A x.n;simpa[Gh.at_,BS s]using x.gen F A
  ·have s:F<H.length:=DD A x.n;have:=x.same F A (by simpa[Gh.at_,BS s]using e);simpa[Gh.at_,BS s]using this
  ·rcases a0 C T with T|rfl
   ·exact x.fresh C T
   ·exact .inr e3
 refine⟨v',env.putO o.dst u,H++[.live 0 z],h.at_ H.length (some B) 0 W.size,c,?_⟩;refine{split:=by rw[I.split];simp,ra:=a4,kn:=I.kn.putO _ _,keys:=λR y m=>?_,env1:=λk K R J=>?_,env2:=λR a2=>?_,sim:=cb,nodefer:=I.nodefer,size:=I.size,slot1:=λk R K c4 J=>?_,slot2:=λR a2=>(I.slot2 R a2).later hl,sub:=λj hj c0=>?_,lsz:=I.lsz,closed:=I.closed,pendq:=λk bd bl=>?_,ext:=b4,early1:=λk C S=>?_,early2:=λk j C h1 h2=>I.early2 k j C (Z k C h1).2 (Z j C h2).2}
 ·cases ar:o.dst with
  |none=>rw[ar]at m;exact I.keys R y m
  |some d=>
   rw[ar]at m;simp only[Env.putO,Env.put]at m;rcases Al.1 m with e|m
   ·injection e with e1 _;subst e1;exact jH ok T R ar
   ·exact I.keys R y (Bi.1 m).1
 ·rw[a5];rcases Ar.1 K with K|K
  ·have M:k≠i:=λe=>b5 (e▸K);rw[a1 k M,if_neg (λe=>M (ok.uniq k i R J (by rw[Fv T];exact e)))];exact I.env1 k K R J
  ·have:k=i:=by simpa using K
   subst this;rw[Fv T]at J;rw[if_pos J,cd]
 ·rw[a5];have h1:o.dst≠some R:=by have:=a2 i (by simp);rwa [Fv T]at this
  rw[if_neg h1];exact I.env2 R λk S=>a2 k (Q1 _ S)
 ·by_cases M:k=i
  ·subst M;rw[Fv T]at J;rw[cd,bG R J];exact .ptr (by simp[cx]) (by simp[cx,Gh.at_]) rfl λ_=>⟨B,by simp[cx,Gh.at_],rfl⟩
  ·rw[a1 k M];exact(I.slot1 k R K (by simpa[c,M]using c4) J).later hl
 ·by_cases b6:j=i
  ·subst b6;simp
  ·exact Q1 _ (I.sub j hj (by simpa[c,b6]using c0))
 ·rcases Ar.1 bd with ad|ad
  ·have M:k≠i:=λe=>b5 (e▸ad);obtain⟨O,a3,c3,a'⟩:=I.pendq k ad bl;have a6: ∀j E,O.guard=some (j,E)->j≠i:=by rintro j E hg rfl;have:=(ok.guard k O j E a3 hg).1;have h2:=ok.ord l1 (j::r) I.split k ad j (by simp);rw[this]at h2;cases h2
   refine⟨O,a3,c3,?_⟩;rw[a1 k M];rcases a' with⟨h1,h2⟩|⟨h1,rd,ei,h2,h3,h4,h5,h6,h7⟩
   ·exact .inl ⟨V a6 h1,h2⟩
   ·refine .inr ⟨V a6 h1,rd,ei,h2,λF A=>by have:=h3 F A;simp;omega,h4,h5,cl ad a3 h6,λap cm he hh=>h7 ap cm he λF A=>?_⟩;rw[hh F A,BW (h3 F A)]
  ·have:k=i:=by simpa using ad
   subst this;rw[e2]at bl;cases bl
 ·obtain⟨k1,k2⟩:=Z k C S;obtain⟨f1,f2,f3,f4,o',R,z',al,f5,f6,f7,f8,f9,co⟩:=I.early1 k C k2;rcases Al.1 f1 with e|f1
  ·exact(k1 e).elim
  ·exact⟨f1,f2,f3,f4,o',R,z',al,f5,f6,f7,f8,f9.later hl,co⟩
def vX(P:Program)(N:Nat)(ops:Array Oper)(l:List Nat)(Q:Env->Aq->Prop)(env0:Env)(X:Nat->Prop)(h0:Gh)(H0:Aq)(w0:World)(ds0:List Deferred)(L:Array Bool)(a:Act)(w:World):Prop:=
 ∃l1 l2 v pend env H h early,Inv P N ops l Q env0 X h0 H0 w0 ds0 l1 l2 v pend env H h early L a w
def SC(ok:UU ops N l)(U:Ti P ops=true)(T: ∀B,X B→B<w0.heap.size){L:Array Bool}{a:Act}{w:World}{i:Nat}{o:Oper}(D:ops[i]? =some o)(k:Hl ops i=false)(x: ∀e∈o.after,Region.binds .any e=true→L.getD e.on false=true):
  ∀(l2 l1:List Nat) (v:Nat->AW) (c:List (Nat×List Nat)) (env:Env) (H:Aq) (h:Gh) (b:Nat->Option Nat),Inv P N ops l Q env0 X h0 H0 w0 ds0 l1 l2 v c env H h b L a w->∃l1 l2 v c env H h b,Inv P N ops l Q env0 X h0 H0 w0 ds0 l1 l2 v c env H h b L a w/\(i∈l1\/ ∃r,l2=i::r/\R0 v o true/\∃F,(∀j∈r,OQ (Hu ops.toList []) i j=true\/Hl ops j=true)/\(∀p∈c,OQ (Hu ops.toList []) p.1 i=true\/ ∀id∈p.2,id∉F)/\∃K,Eff P N o env H F K/\(∀v A,K v A->H.length<=A.length)/\ ∀v A,K v A->RA P N ops r c (env.putO o.dst v) A Q)
 |[],l1,v,c,env,H,h,b,I=>by have m:=ok.all i (Ta D);rw[I.split,DQ]at m;exact⟨l1,[],v,c,env,H,h,b,I,.inl m⟩
 |q::r,l1,v,c,env,H,h,b,I=>by
  by_cases J:i∈l1
  ·exact⟨l1,q::r,v,c,env,H,h,b,I,.inl J⟩
  ·cases G:b q with
   |some B=>obtain⟨R,ax,A,h',n,E⟩:=I.adopt ok U T G;exact SC ok U T D k x r _ R _ _ A h' n E
   |none=>
    have O:=I.ra;have ar:q<ops.size:=ok.lt q (by rw[I.split];simp);have d:ops[q]? =some (ops[q]):=by simp[ar]
    generalize a0:ops[q]=oq at d;have y:(∀j∈r,OQ (Hu ops.toList []) q j=true\/Hl ops j=true)->i=q:=by
     intro g;have m:=ok.all i (Ta D);rw[I.split,Ar]at m;rcases m with m|m
     ·exact(J m).elim
     ·rcases Al.1 m with e|m
      ·exact e
      ·rcases g i m with S|S
       ·have hd:=Zo I.closed (i+1) i o (by omega) D x S;have ap:=I.sub q hd G;have M:=ok.nodup;rw[I.split]at M;exact((PF.1 M).2.2 q ap q (by simp) rfl).elim
       ·rw[k]at S;cases S
    simp only[RA,d]at O;rcases I.guardW ok rfl d O with⟨V,(⟨s,u,rd,hQ,as,f⟩|⟨s,F,g,W,K,Y,Z,ad⟩|⟨t,z,al,hz,g,f⟩)⟩|⟨V,s,f⟩
    ·obtain⟨R,E⟩:=I.next ok rfl d (pend':=(q,rd)::c) s f (λp x=>Bq _ x) (.inr ⟨V,rd,by simp,as,hQ⟩)
     exact SC ok U T D k x r _ R _ _ H h b E
    ·have C:=y g;subst C;rw[D]at d;injection d with e;subst e;exact⟨l1,i::r,v,c,env,H,h,b,I,.inr ⟨r,rfl,V,F,g,W,K,Y,Z,ad⟩⟩
    ·have C:=y g;subst C;have:=(Tx d).2 ⟨t,al⟩;rw[k]at this;cases this
    ·obtain⟨R,E⟩:=I.next ok rfl d (pend':=(q,[])::c) s f (λp x=>Bq _ x) (.inl ⟨V,rfl⟩)
     exact SC ok U T D k x r _ R _ _ H h b E
def Te{o:Oper}{a:Act}{w:World}{K b:Act->World->Prop}{c:Exit->Act->World->Prop}{r:Option Nat}(h:Oper.wpIn (FR r) 0 P o a w K c)(d: ∀a w,K a w->b a w):Oper.wpIn (FR r) 0 P o a w b c:=Oper.wpIn_mono d h
def Inv.make(ok:UU ops N l)(ha:Ti P ops=true){l1 l2:List Nat}{v:Nat→AW}{M:List (Nat×List Nat)}{env:Env}{H:Aq}{h:Gh}{n:Nat→Option Nat}{L:Array Bool}{a:Act}{w:World}{Q0:Exit→Act→World→Prop}{ro:Option Nat}
  (I:Inv P N ops l Q env0 X h0 H0 w0 ds0 l1 l2 v M env H h n L a w) {i:Nat} {o:Oper} {t:TypeId} (x:ops[i]? =some o) (A:o.op= .alloc t) (a6:L.getD i false=false)
  (hp: ∀e∈o.after,Region.binds .any e=true->L.getD e.on false=true):
  Oper.wpIn (FR ro) 0 P o a w (λa' D=> ∃b,Inv P N ops l Q env0 X h0 H0 w0 ds0 l1 l2 v M env H h b (L.setIfInBounds i true) a' D) Q0:=by
 obtain⟨⟨z,hz⟩,hg⟩:=Z4 ha x A;have bb:Hl ops i=true:=(Tx x).2 ⟨t,A⟩;obtain⟨b3,zv,hi,bG,rz⟩:=Zt (cx (XR X n) h H w) hz;have a4:(execOp a.eval o).run P w= .ok (.value (.pointer (some ⟨w.heap.size,0,none⟩))) {w with heap:=w.heap.push (.cells zv.cells t)}:=by unfold execOp;rw[A];simp[Instr.alloc,zeroValue,typeInfo,hi,bG,newVar,newRow]
 refine⟨λ_ _=>trivial,?_⟩;rw[Oper.semAt_eq _ _ _ (λc hc=>by rw[A]at hc;cases hc),a4,Oper.uponIn_value];let b:Nat->Option Nat:=λk=>if k=i then some w.heap.size else n k;generalize u:({w with heap:=w.heap.push (.cells zv.cells t)}:World)=D;have b2:D.heap.size=w.heap.size+1:=by rw[<-u];simp
 have r: ∀k,k<w.heap.size->D.heap[k]? =w.heap[k]? :=λk s=>by rw[<-u];simp[LK,BS s]
 have bz:D.heap[w.heap.size]? =some (.cells zv.cells t):=by rw[<-u];simp
 have V:D.os=w.os:=by rw[<-u]
 have W:D.tape=w.tape:=by rw[<-u]
 have C:D.output=w.output:=by rw[<-u]
 have ar:i∉l1:=by intro hm;obtain⟨o',b1,as,_⟩:=I.pendq i hm a6;rw[bb]at as;cases as
 have bl:i∈l2:=by have:=ok.all i (Ta x);rw[I.split,Ar]at this;exact this.resolve_left ar
 have bN:n i=none:=by
  cases J:n i with
  |none=>rfl
  |some B=>have:=(I.early1 i B J).2.1;rw[a6]at this;cases this
 have a8:=I.sim.grow V W C (by omega) r;have b0:=(HS.grow (h:=h) (H:=H) V W C (by omega) r).later (XR X n);have K: ∀B,owned h H B->B<w.heap.size:=by rintro B ⟨id,e,J,U,y⟩;exact I.sim.io_at J U y
 have a7: ∀B,XR X b B->XR X n B\/B=w.heap.size:=by
  rintro B (R|⟨k,s⟩)
  ·exact .inl (.inl R)
  ·simp only[b]at s;split at s
   ·injection s with e;exact .inr e.symm
   ·exact .inl (.inr ⟨k,s⟩)
 have Y:(cx (XR X n) h H w).Later (cx (XR X b) h H D):=by
  refine⟨by simp only[cx];omega,λB R _=>fG (r B R),λB R hO=>?_,Aj _,λ_ _=>Aj _,λ_ _ _=>⟨rfl,rfl⟩⟩;rcases hO with hO|hO
  ·rcases a7 B hO with E|rfl
   ·exact .inl E
   ·simp only[cx]at R;omega
  ·exact .inr hO
 have a5:Ik (XR X b) h H D:=by
  refine⟨λB R=>?_,λid g cs J=>?_,λid L' J=>?_,I.sim.inj,I.sim.bldKeep λid e J _=>⟨J,rfl,rfl,rfl,λB o _ S _=>r B (LR S)⟩⟩
  ·rcases a7 B R with E|rfl
   ·exact a8.out B E
   ·exact⟨by omega,λx=>by have:=K _ x;omega⟩
  ·obtain⟨hg,ap⟩:=I.sim.live id g cs J;refine⟨hg,?_⟩;rcases ap with⟨hn,rfl⟩|⟨B,O,T,fz,f,y,S,ad,bt,bd,F⟩
   ·exact .inl ⟨hn,rfl⟩
   ·refine .inr ⟨B,O,T,fz,f,y,(r B (LR S)).trans S,ad,bt,bd,λj v hj=>?_⟩;obtain⟨p1,p2,p3⟩:=F j v hj;exact⟨p1,p2,p3.later Y⟩
  ·obtain⟨hg,B1,r1,y,S,p1,p2,p3,p4,p5,p6,p7⟩:=I.sim.lp id L' J;exact⟨hg,B1,r1,y,(r B1 (LR S)).trans S,p1,p2,p3,p4,p5,p6,λt v m=>⟨(p7 t v m).1,(p7 t v m).2.later Y⟩⟩
 have q:i<L.size:=by rw[I.lsz];exact Ta x
 have hd: ∀t,o.dst=some t->t<a.tmps.size:=λt ht=>by rw[I.size];exact jH ok x t ht
 refine⟨b,?_⟩;refine{split:=I.split,ra:=I.ra,kn:=I.kn,keys:=I.keys,env1:=I.env1,env2:=I.env2,sim:=a5,nodefer:=?_,size:=(Zq _ _ _).trans I.size,slot1:=λk t s a2 al=>?_,slot2:=λt K=>?_,sub:=λj hj ax=>?_,lsz:=by rw[du];exact I.lsz,closed:=fk I.closed q x hp,pendq:=λk a1 a3=>?_,ext:=I.ext.trans (HS.grow V W C (by omega) r),early1:=λk B s=>?_,early2:=λj k B E Z=>?_}
 ·rw[show(a.put o.dst _).defers=a.defers by cases o.dst<;>rfl];exact I.nodefer
 ·have p:k≠i:=by rintro rfl;simp[b]at a2
  rw[Gy q,if_neg p]at s;rw[Qp hd,if_neg (λe=>p (ok.uniq k i t al (by rw[Fv x];exact e)))];exact(I.slot1 k t s (by simpa[b,p]using a2) al).later Y
 ·rw[Qp hd];have U:o.dst≠some t:=by have:=K i (by rw[Gy q,if_pos rfl]);rwa [Fv x]at this
  rw[if_neg U];refine(I.slot2 t λk s=>K k ?_).later Y;rw[Gy q];split
  ·rfl
  ·exact s
 ·have a0:j≠i:=by rintro rfl;simp[b]at ax
  rw[Gy q,if_neg a0]at hj;exact I.sub j hj (by simpa[b,a0]using ax)
 ·have p:k≠i:=λe=>ar (e▸a1);rw[Gy q,if_neg p]at a3;exact I.pendq k a1 a3
 ·by_cases p:k=i
  ·subst p;simp only[b,if_true]at s;injection s with e;subst e;refine⟨bl,by rw[Gy q,if_pos rfl],I.ext.size,by omega,o,t,z,zv.cells,x,A,hz,bz,rz.later Y,λd G=>?_⟩;rw[Qp hd,if_pos G]
  ·simp only[b,if_neg p]at s;obtain⟨e1,e2,e3,e4,o',t',z',O,e5,e6,e7,e8,e9,a9⟩:=I.early1 k B s;refine⟨e1,by rw[Gy q,if_neg p];exact e2,e3,by omega,o',t',z',O,e5,e6,e7,(r B e4).trans e8,e9.later Y,λd G=>?_⟩;rw[Qp hd,if_neg (λe=>p (ok.uniq k i d (by rw[Fv e5];exact G) (by rw[Fv x];exact e)))];exact a9 d G
 ·simp only[b]at E Z;split at E<;>split at Z
  ·simp_all
  ·injection E with e;have:=(I.early1 k B Z).2.2.2.1;omega
  ·injection Z with e;have:=(I.early1 j B E).2.2.2.1;omega
  ·exact I.early2 j k B E Z
def vX.step(ok:UU ops N l)(ha:Ti P ops=true)(hX: ∀B,X B→B<w0.heap.size){L:Array Bool}{a:Act}{w:World}{Q0:Exit→Act→World→Prop}{ro:Option Nat}(M:vX P N ops l Q env0 X h0 H0 w0 ds0 L a w){i:Nat}{o:Oper}(s:ops[i]? =some o)(G:L.getD i false=false)
  (Z: ∀e∈o.after,Region.binds .any e=true->L.getD e.on false=true):wpOpIn (FR ro) 0 P ops Q0 i (vX P N ops l Q env0 X h0 H0 w0 ds0 (L.setIfInBounds i true)) a w:=by
 cases a4:Hl ops i with
 |true=>
  obtain⟨t,bb⟩:=(Tx s).1 a4;have hg:=(Z4 ha s bb).2;obtain⟨l1,l2,v,A,env,H,h,f,I⟩:=M;unfold wpOpIn;rw[s];simp only;have O:Region.wanted o (yielded ops a.tmps)=true:=by unfold Region.wanted;rw[hg]
  rw[O];simp only[if_true];refine(Te (I.make ok ha s bb G Z) ?_);rintro a' w' ⟨ap,I'⟩;exact⟨l1,l2,v,A,env,H,h,ap,I'⟩
 |false=>
 obtain⟨l1,l2,v,A,env,H,h,f,I⟩:=M;obtain⟨l1,l2,v,A,env,H,h,f,I,C⟩:=SC ok ha hX s a4 Z l2 l1 v A env H h f I;have J: ∀k,OQ (Hu ops.toList []) k i=true->f k=none:=by
  intro k E;by_cases g:k=i
  ·subst g;cases he:f k with
   |none=>rfl
   |some B=>have:=(I.early1 k B he).2.1;rw[G]at this;cases this
  ·refine I.noEarly ok ?_ k E g;rcases C with h1|⟨r,h1,_⟩
   ·exact .inl h1
   ·exact .inr ⟨r,h1⟩
 unfold wpOpIn;rw[s];simp only;rcases C with a0|⟨r,rfl,O,F,b8,bG,K,a2,bN,b0⟩
 ·obtain⟨o',a8,_,b7⟩:=I.pendq i a0 G;rw[s]at a8;injection a8 with e;subst e;rcases b7 with⟨O,ar⟩|⟨O,rd,ei,_,_,kn,U,Y,hQ⟩
  ·rw[I.wanted ok s J Z O];simp only[F3,if_false];exact⟨λ_ _=>trivial,l1,l2,v,A,env,H,h,f,I.done ok s a0 G Z I.sim (HS.refl _ _ _) (by rw[ar];exact .tup rfl λ_ _ _ h=>by cases h)⟩
  ·rw[I.wanted ok s J Z O];simp only[if_true];refine(Te (hQ (look o ei) H (qX o ei) (λ_ _=>rfl) ro (XR X f) h a w ⟨I.sim,I.look ok s G Z J kn U Y,I.size⟩ Q0) ?_);rintro a' w' ⟨c,u,h',H',rfl,⟨rfl,rfl⟩,hv,sim,x⟩;exact⟨l1,l2,v,A,env,_,h',f,I.done ok s a0 G Z sim x hv⟩
 ·rw[I.wanted ok s J Z O];simp only[if_true];have Y:=I.opd ok rfl s;refine(Te (a2.1 (look o env) (qX o env) ro (XR X f) h a w ⟨I.sim,I.look ok s G Z J I.kn I.keys Y,I.size⟩ Q0) ?_);rintro a' w' ⟨c,u,h',H',rfl,U,hv,sim,x⟩;have a7:=ok.nodup;rw[I.split]at a7;have b2:i∉l1:=λhm=>(PF.1 a7).2.2 i hm i (by simp) rfl;have hi:i<L.size:=by rw[I.lsz];exact Ta s
  have hl:=x.later (XR X f);let v':Nat->AW:=λk=>if k=i then u else v k;have ad: ∀k,k≠i->v' k=v k:=λk U=>by simp[v',U]
  have ar:v' i=u:=by simp[v']
  have hd: ∀t,o.dst=some t->t<a.tmps.size:=λt ht=>by rw[I.size];exact jH ok s t ht
  have as: ∀t,(env.putO o.dst u).get t=if o.dst=some t then u else env.get t:=by
   intro t;cases o.dst with
   |none=>simp[Env.putO]
   |some d=>
    simp only[Env.putO,F8,AV];by_cases h:d=t
    ·subst h;simp
    ·rw[if_neg h,if_neg (λe=>h e.symm)]
  refine⟨l1++[i],r,v',A,env.putO o.dst u,H',h',f,?_⟩;refine{split:=by rw[I.split];simp,ra:=b0 u H' U,kn:=I.kn.putO _ _,keys:=λt y m=>?_,env1:=λk n t D=>?_,env2:=λt W=>?_,sim:=sim,nodefer:=?_,size:=(Zq _ _ _).trans I.size,slot1:=λk t n b6 D=>?_,slot2:=λt W=>?_,sub:=λj hj b3=>?_,lsz:=by rw[du];exact I.lsz,closed:=fk I.closed hi s Z,pendq:=λk b4 V=>?_,ext:=I.ext.trans x,early1:=λk B n=>?_,early2:=I.early2}
  ·cases S:o.dst with
   |none=>rw[S]at m;exact I.keys t y m
   |some d=>
    rw[S]at m;simp only[Env.putO,Env.put]at m;rcases Al.1 m with e|m
    ·injection e with e1 _;subst e1;exact jH ok s t S
    ·exact I.keys t y (Bi.1 m).1
  ·rw[as];rcases Ar.1 n with n|n
   ·have g:k≠i:=λe=>b2 (e▸n);rw[ad k g,if_neg (λe=>g (ok.uniq k i t D (by rw[Fv s];exact e)))];exact I.env1 k n t D
   ·have:k=i:=by simpa using n
    subst this;rw[Fv s]at D;rw[if_pos D,ar]
  ·rw[as];have h1:o.dst≠some t:=by have:=W i (by simp);rwa [Fv s]at this
   rw[if_neg h1];exact I.env2 t λk U=>W k (Q1 _ U)
  ·rw[show(a.put o.dst c).defers=a.defers by cases o.dst<;>rfl];exact I.nodefer
  ·rw[Qp hd];rw[Gy hi]at n;by_cases g:k=i
   ·subst g;rw[Fv s]at D;rw[if_pos D,ar];exact hv
   ·rw[if_neg g]at n;rw[if_neg (λe=>g (ok.uniq k i t D (by rw[Fv s];exact e))),ad k g];exact(I.slot1 k t n b6 D).later hl
  ·rw[Qp hd];have J:o.dst≠some t:=by have:=W i (by rw[Gy hi,if_pos rfl]);rwa [Fv s]at this
   rw[if_neg J];refine(I.slot2 t λk U=>W k ?_).later hl;rw[Gy hi];split
   ·rfl
   ·exact U
  ·rw[Gy hi]at hj;by_cases a5:j=i
   ·subst a5;simp
   ·rw[if_neg a5]at hj;exact Q1 _ (I.sub j hj b3)
  ·rw[Gy hi]at V;by_cases g:k=i
   ·subst g;simp at V
   ·rw[if_neg g]at V;have a6:k∈l1:=by
     rcases Ar.1 b4 with h|h
     ·exact h
     ·exact(g (by simpa using h)).elim
    obtain⟨al,a9,b5,C⟩:=I.pendq k a6 V;have ax:OQ (Hu ops.toList []) i k=false:=ok.ord l1 (i::r) I.split k a6 i (by simp);have R: ∀{b:Bool},R0 v al b->R0 v' al b:=by
     intro b O;unfold R0 at O⊢;cases hg:al.guard with
     |none=>rw[hg]at O;exact O
     |some p=>
      obtain⟨j,bd⟩:=p;rw[hg]at O;simp only at O⊢;have:j≠i:=by rintro rfl;have:=(ok.guard k al j bd a9 hg).1;rw[ax]at this;cases this
      rw[ad j this];exact O
    refine⟨al,a9,b5,?_⟩;rw[ad k g];rcases C with⟨q1,q2⟩|⟨q1,rd,ei,q2,q3,q4,q5,q6,q7⟩
    ·exact .inl ⟨R q1,q2⟩
    ·refine .inr ⟨R q1,rd,ei,q2,λid T=>DD (q3 id T) (bN u H' U),q4,q5,λt ht=>?_,λa1 bl he hh=>q7 a1 bl he λid T=>?_⟩
     ·obtain⟨c1,c2⟩:=q6 t ht;refine⟨λq hq b1 E=>?_,c2⟩;rw[c1 q hq b1 E,ad];rintro rfl;rw[ax]at E;cases E
     ·rw[hh id T];apply a2.2 u H' U id (q3 id T);rcases bG (k,rd) q2 with h1|h1
      ·have:=Zo I.closed (i+1) i o (by omega) s Z h1;simp only at this;rw[V]at this;cases this
      ·exact h1 id T
  ·obtain⟨e1,e2,e3,e4,o',t,z,bt,e5,e6,e7,e8,e9,bz⟩:=I.early1 k B n;have g:k≠i:=by rintro rfl;rw[G]at e2;cases e2
   refine⟨(Al.1 e1).resolve_left g,by rw[Gy hi,if_neg g];exact e2,e3,DD e4 x.size,o',t,z,bt,e5,e6,e7,?_,e9.later hl,λd a3=>?_⟩
   ·exact(x.keep B e4 (I.sim.out B (.inr ⟨k,n⟩)).2).trans e8
   ·rw[Qp hd,if_neg (λe=>g (ok.uniq k i d (by rw[Fv e5];exact a3) (by rw[Fv s];exact e)))];exact bz d a3
def Inv.end_(ok:UU ops N l)(E:Ti P ops=true)(D: ∀B,X B→B<w0.heap.size){L:Array Bool}{a:Act}{w:World}(d: ∀i,i<ops.size→L.getD i false=true):
  ∀(l2 l1:List Nat) (v:Nat->AW) (e:List (Nat×List Nat)) (env:Env) (H:Aq) (h:Gh) (b:Nat->Option Nat),Inv P N ops l Q env0 X h0 H0 w0 ds0 l1 l2 v e env H h b L a w->
  ∃z c p,Q c p/\St X z N c p a w/\HS h0 H0 w0 z p w/\a.defers=ds0
 |q::r,l1,v,e,env,H,h,b,I=>by
  cases x:b q with
  |some B=>obtain⟨M,c,p,z,f,F⟩:=I.adopt ok E D x;exact Inv.end_ ok E D d r _ M _ _ p z f F
  |none=>have O:=I.sub q (d q (ok.lt q (by rw[I.split];simp))) x;have A:=ok.nodup;rw[I.split]at A;grind
 |[],l1,v,e,env,H,h,b,I=>by
  have s: ∀k,b k=none:=by
   intro k;cases J:b k with
   |none=>rfl
   |some B=>have:=(I.early1 k B J).1;cases this
  have y:XR X b=X:=by
   funext B;apply propext;constructor
   ·rintro(G|⟨k,n⟩)
    ·exact G
    ·grind
   ·exact .inl
  have g:=I.sim;rw[y]at g;refine⟨h,env,H,I.ra,⟨g,λt u m=>⟨by rw[I.size];exact I.keys t u m,?_⟩,I.size⟩,I.ext,I.nodefer⟩;rw[<-y,<-I.kn t u m];by_cases C: ∃k∈l1,Sy ops k=some t
  ·obtain⟨k,n,j⟩:=C;rw[I.env1 k n t j];obtain⟨o,K,_⟩:=Va j;exact I.slot1 k t (d k (Ta K)) (s k) j
  ·rw[I.env2 t λk n j=>C ⟨k,n,j⟩];refine I.slot2 t λk n j=>C ⟨k,I.sub k n (s k),j⟩
def vX.end_(ok:UU ops N l)(y:Ti P ops=true)(x: ∀B,X B→B<w0.heap.size){L:Array Bool}{a:Act}{w:World}(M:vX P N ops l Q env0 X h0 H0 w0 ds0 L a w)(hr:Region.ready .any ops L=[]):
  ∃p b j,Q b j/\St X p N b j a w/\HS h0 H0 w0 p j w/\a.defers=ds0:=by
 obtain⟨l1,l2,v,g,env,H,h,c,I⟩:=M;have d: ∀(n i:Nat),i<n->i<ops.size->L.getD i false=true:=by
  intro n;induction n with
  |zero=>intro i h;omega
  |succ n A=>
   intro i r f;cases q:L.getD i false with
   |true=>rfl
   |false=>
    have o:i<L.size:=by rw[I.lsz];exact f
    have k:L.getD i true=false:=by rw[JK,H9 o]at q⊢;simpa using q
    have u:ops[i]? =some (ops[i]):=by simp[f]
    have t:i∈Region.ready .any ops L:=by rw[mem_ready];refine⟨k,_,u,λe z m=>?_⟩;have s:=ok.back i _ u e z m;exact A e.on (by omega) (by omega)
    rw[hr]at t;cases t
 exact Inv.end_ ok y x (λi r=>d (i+1) i (by omega) r) l2 l1 v g env H h c I
def nU{p q:Nat->Bool}(h: ∀j,q j=true->p j=true): ∀l:List Nat,(l.filter q).length<=(l.filter p).length
 |[]=>by simp
 |y::r=>by have a:=nU h r;grind
def filter_lt{p:Nat->Bool}{i:Nat}{q:Nat->Bool}(b: ∀j,q j=(p j&& !decide (j=i))): ∀(l:List Nat),i∈l->p i=true->(l.filter q).length<(l.filter p).length
 |x::r,h,hp=>by
  have d:=nU (p:=p) (q:=q) (λj a=>by rw[b]at a;simp at a;exact a.1) r;by_cases e:x=i
  ·grind
  ·have c:i∈r:=by grind
   have f:=filter_lt b r c hp;grind
def vX.any(ok:UU ops N l)(m:Ti P ops=true)(k: ∀B,X B→B<w0.heap.size){g:Exit→Act→World→Prop}{ro:Option Nat}(f: ∀L a w,vX P N ops l Q env0 X h0 H0 w0 ds0 L a w→Region.ready .any ops L=[]→g .normal a w):
  ∀(b:Nat) (L:Array Bool) (a:Act) (w:World),((List.range ops.size).filter λi=>!L.getD i false).length<=b->vX P N ops l Q env0 X h0 H0 w0 ds0 L a w->wpAnyIn (FR ro) 0 P .any ops g b L a w
 |0,L,a,w,hf,M=>by
  have hr:Region.ready .any ops L=[]:=by
   cases v:Region.ready .any ops L with
   |nil=>rfl
   |cons i r=>
    have d:i∈Region.ready .any ops L:=by grind
    rw[mem_ready]at d;have:i∈(List.range ops.size).filter λi=>!L.getD i false:=by grind
    grind
  exact⟨hr,f L a w M hr⟩
 |b+1,L,a,w,hf,M=>by
  refine⟨λhr=>f L a w M hr,λi d=>?_⟩;rw[mem_ready]at d;obtain⟨y,o,n,u⟩:=d;have e:i<L.size:=by grind
  have c:L.getD i false=false:=by grind
  refine wpOpIn_mono (λt x s=>vX.any ok m k f b _ t x ?_ s) (vX.step ok m k M n c u);have:=filter_lt (p:=λi=>!L.getD i false) (i:=i) (q:=λj=>!(L.setIfInBounds i true).getD j false) (λj=>by rw[Gy e];by_cases h:j=i<;>simp[h]) (List.range ops.size) (G5.2 (Ta n)) (by simp[c]);omega
def dL{F:Nat}{env:Env}{H:Aq}{K:Exit→Env→Aq→Prop}(C:P.follows .mixedOrders=true)(l:List Nat)(q:uG ops N l=true)(r:Ti P ops=true)(p:(env.map (·.1)).Nodup)
  (h:RA P N ops l [] env H (K .normal)):MA P N (.region F ops true) env H K:=by
 intro ro X g a w s _;have ok:=sZ q;have b: ∀i,(Array.replicate ops.size false).getD i false=false:=by
  intro i;rw[JK];by_cases d:i<ops.size
  ·simp[d]
  ·simp[d]
 have E:({w with drawn:=w.drawn+1}:World)=w.drew:=rfl;apply wpIn_region_any C;rw[E];refine vX.any (Q:=K .normal) (env0:=env) (X:=X) (h0:=g) (H0:=H) (w0:=w) (ds0:=a.defers) ok r (λB c=>(s.sim.out B c).1) (λL J R M hr=>?_) ops.size _ a w.drew ?_ ?_
 ·obtain⟨A,f,y,D,G,I,z⟩:=M.end_ ok r (λB c=>(s.sim.out B c).1) hr;exact⟨A,f,y,D,G,I,.same z⟩
 ·exact D4 (J4 _ _) (by simp)
 ·have x:=HS.drew (h:=g) (H:=H) (w:=w);have n:XR X (λ_=>none)=X:=by
   funext B;apply propext;constructor
   ·rintro(c|⟨k,e⟩)
    ·exact c
    ·cases e
   ·exact .inl
  refine⟨[],l,λ_=>.any,[],env,H,g,λ_=>none,?_⟩;refine{split:=rfl,ra:=h,kn:=ZD p,keys:=(λt u m=>by have:=(s.env t u m).1;rw[s.size]at this;exact this),env1:=(λk e=>by cases e),env2:=λt _=>rfl,sim:=(by rw[n];exact s.sim.drew),nodefer:=rfl,size:=s.size,slot1:=(λk t e _=>by rw[b]at e;cases e),slot2:=λt _=>(by rw[n];exact(dJ s.env t).later (x.later X)),sub:=(λi d=>by rw[b]at d;cases d),lsz:=(by simp),closed:=(λj o O v=>by rw[b]at v;cases v),pendq:=(λi d=>by cases d),ext:=x,early1:=(λi B c=>by cases c),early2:=(λi j B c=>by cases c)}
end
def g9:AW->List Nat
 | .ptr id _ _=>[id]
 | .sl id _ _ _ _=>[id]
 |_=>[]
def vC(env:Env)(op:Op):List Nat:=op.operands.toList.flatMap λx=>g9 (A8 env x)
def ag{o:Oper}{env a:Env}(h: ∀t∈Se o,a.get t=env.get t): ∀x∈o.op.operands,A8 a x=A8 env x:=by
 intro x b;cases x with
 |tmp t=>apply h t;unfold Se;rw[Nx];exact⟨.tmp t,by simpa using b,rfl⟩
 |_=>rfl
def mO{env a:Env}{l:List Operand}(h: ∀x∈l,A8 a x=A8 env x):l.map (A8 a)=l.map (A8 env):=Fe h
def ny{P:Program}{env e:Env}{H:Aq}{l:Op}(h: ∀x∈l.operands,A8 e x=A8 env x):CR P e H l=CR P env H l:=by
 cases l with
 |move x=>simp only[CR,h x (by simp[Op.operands])]
 |assign x=>simp only[CR,h x (by simp[Op.operands])]
 |pick c a b=>simp only[CR,h c (by simp[Op.operands]),h a (by simp[Op.operands]),h b (by simp[Op.operands])]
 |load t a=>simp only[CR,h a (by simp[Op.operands])]
 |nilCheck x=>simp only[CR,h x (by simp[Op.operands])]
 |binOp l t x y E=>simp only[CR,h x (by simp[Op.operands]),h y (by simp[Op.operands])]
 |unOp l t x=>simp only[CR,h x (by simp[Op.operands])]
 |convert s d x=>simp only[CR,h x (by simp[Op.operands])]
 |fieldAddr s x f=>simp only[CR,h x (by simp[Op.operands])]
 |field s x f=>simp only[CR,h x (by simp[Op.operands])]
 |indexAddr t x i=>simp only[CR,h x (by simp[Op.operands]),h i (by simp[Op.operands])]
 |index t x i=>simp only[CR,h x (by simp[Op.operands]),h i (by simp[Op.operands])]
 |extract x i=>simp only[CR,h x (by simp[Op.operands])]
 |slice t x u o v=>
  have A:u.map (A8 e)=u.map (A8 env):=by cases u with|none=>rfl|some y=>simp[h y (by simp[Op.operands])]
  have w:o.map (A8 e)=o.map (A8 env):=by cases o with|none=>rfl|some y=>simp[h y (by simp[Op.operands])]
  have B:v.map (A8 e)=v.map (A8 env):=by cases v with|none=>rfl|some y=>simp[h y (by simp[Op.operands])]
  simp only[CR,h x (by simp[Op.operands]),A,w,B]
 |makeFunc f a b=>simp only[CR];rw[mO λx j=>h x (by simp only[Op.operands];exact Array.mem_append_left _ (by simpa using j)),mO λx j=>h x (by simp only[Op.operands];exact Array.mem_append_right _ (by simpa using j))]
 |build t g=>
  simp only[CR];have:(g.toList.map λp=>(p.1,A8 e p.2))=g.toList.map λp=>(p.1,A8 env p.2):=Fe λp C=>by rw[h p.2 (by simp only[Op.operands,List.mem_toArray,BX];exact⟨p,C,rfl⟩)]
  rw[this]
 |call c=>
  obtain⟨n,args,k⟩:=c;simp only[Op.operands,Call.operands]at h;cases n with
  |value f=>simp[CR]
  |invoke r m=>simp[CR]
  |builtin b=>
   obtain⟨args⟩:=args;obtain⟨k⟩:=k;match args with
   |[]=>simp[CR]
   |[x]=>
    have j:=h x (by simp);cases b<;>simp[CR];match k with
    |[]=>rfl
    |[t]=>simp[j]
    |_::_::_=>rfl
   |[x,y]=>have j:=h x (by simp);have q:=h y (by simp);cases b<;>simp[CR,j,q]
   |[x,y,z]=>have j:=h x (by simp);have q:=h y (by simp);have D:=h z (by simp);cases b<;>simp[CR,j,q,D]
   |_::_::_::_::_=>cases b<;>rfl
 |_=>rfl
section
variable {P:Program} {H H':Aq}
def T0{a g:Nat}(h:H'[a]? =H[a]?):RI H' a g=RI H a g:=by unfold RI;rw[h]
def qq{v:AW}{n:Nat}(h: ∀a∈g9 v,H'[a]? =H[a]?):Ov H' v n=Ov H v n:=by cases v<;>simp only[Ov];rw[h _ (by simp[g9])]
def md{v:AW}{n:Nat}(h: ∀a∈g9 v,H'[a]? =H[a]?):shift H' n v=shift H n v:=by cases v<;>simp only[shift];rw[T0 (h _ (by simp[g9]))]
def ur{t:TypeId}{v:AW}(h: ∀a∈g9 v,H'[a]? =H[a]?):kh P H' t v=kh P H t v:=by
 unfold kh;cases P.underlying t with
 |none=>rfl
 |some d=>
  cases v with
  |sl a g sz b len=>have e:=T0 (H:=H) (H':=H') (g:=g) (h a (by simp[g9]));cases d<;>first|rfl|(simp only[e])
  |_=>cases d<;>rfl
def sV{env:Env}{n:Op}(h: ∀j∈vC env n,H'[j]? =H[j]?):CR P env H' n=CR P env H n:=by
 have k: ∀x∈n.operands,∀j∈g9 (A8 env x),H'[j]? =H[j]? :=λx k j q=>h j (by unfold vC;rw[HW];exact⟨x,by simpa using k,q⟩);cases n with
 |load t a=>have e:=k a (by simp[Op.operands]);simp only[CR,bv];split<;>simp only[qq e]
 |nilCheck x=>
  have e:=k x (by simp[Op.operands]);simp only[CR];split
  ·rename_i j g u p;rw[T0 (e j (by rw[p];simp[g9]))]
  ·rfl
  ·rfl
  ·rfl
 |convert s d x=>
  have e:=k x (by simp[Op.operands]);have hr:rowsOf H' (A8 env x)=rowsOf H (A8 env x):=by generalize A8 env x=v at e;cases v<;>simp only[rowsOf];rw[e _ (by simp[g9])]
  simp only[CR,UW];generalize A8 env x=v at hr;split<;>first|rfl|(rw[hr])
 |fieldAddr s x f=>
  have e:=k x (by simp[Op.operands]);simp only[CR,TW];split
  ·split
   ·rfl
   ·exact md e
  ·rfl
 |indexAddr t x i=>
  have e:=k x (by simp[Op.operands]);simp only[CR,Tb];split
  ·split
   ·exact md e
   ·rfl
  ·split
   ·rfl
   ·rename_i j g w u len p;rw[T0 (e j (by rw[p];simp[g9]))]
   ·rfl
  ·rfl
 |slice t x B A C=>have e:=k x (by simp[Op.operands]);simp only[CR];generalize A8 env x=v at e;cases v<;>simp only[dm];rw[T0 (e _ (by simp[g9]))]
 |call c=>
  obtain⟨o,args,l⟩:=c;simp only[Op.operands,Call.operands]at k;cases o with
  |value f=>simp[CR]
  |invoke r m=>simp[CR]
  |builtin b=>
   obtain⟨args⟩:=args;obtain⟨l⟩:=l;match args with
   |[]=>simp[CR]
   |[x]=>
    have e:=k x (by simp);cases b<;>simp only[CR];match l with
    |[]=>rfl
    |[t]=>simp only;exact ur e
    |_::_::_=>rfl
   |[x,y]=>cases b<;>simp[CR]
   |[x,y,z]=>cases b<;>simp[CR]
   |_::_::_::_::_=>cases b<;>rfl
 |_=>simp only[CR]
def UX{N:Nat}{o:Oper}{env:Env}{v:AW}(e:CR P env H o.op=some v):fD P N o env H (vC env o.op) v:=by intro a b c d;refine Db (v:=v) ?_ ⟨rfl,rfl⟩;rw[ny (ag c),sV d];exact e
end
end Go.Ab
