/- Texts of wip, joined and shortened by wip/tools/pack.py; nothing is assumed. -/
import Derived.Calls
import Derived.Below
import Derived.RangeFuncRecord
import Derived.OrdersIn
import Derived.Lib.FrozenHead
import Derived.Orders
import Derived.Laws.Cells
import Derived.Laws.Entries
import Derived.Laws.StructEq
import Derived.ChangeKeysEq
import Derived.Laws.BytesString
import Derived.Laws.Tables
import Derived.Great.FillDense
import Derived.Great.BuildSlice
namespace Go
theorem n!{A B:Prop}(h: ¬A:=by decide):A->B:=λa=>absurd a h
theorem o!{P:Prop}(h:P:=by omega):P:=h
theorem d!{P:Prop}(h:P:=by dsimp only;omega):P:=h
theorem g!{P:Prop}(h:P:=by decide):P:=h
theorem k!{P:Prop}(h:P:=by simp):P:=h
theorem q!{P:Prop}(h:P:=by grind):P:=h
theorem w!{P:Prop}(h:P:=by simp;omega):P:=h
theorem v!{P:Prop}(h:P:=by assumption):P:=h
theorem u!{P:Prop}(h:P:=by dsimp only;decide):P:=h
theorem t!{P:Prop}(h:P:=by simp_all):P:=h
end Go
noncomputable section
set_option linter.all false
namespace Go
def kp:=@Array.extract_size
def QA:=@Array.getD_eq_getD_getElem?
def aA:=@Array.getElem?_append_left
def pG:=@Array.getElem?_append_right
def O5:=@Array.getElem?_eq_getElem
def pH:=@Array.getElem?_eq_none
def uo:=@Array.getElem?_eq_none_iff
def kq:=@Array.getElem?_eq_some_iff
def W5:=@Array.getElem?_map
def pI:=@Array.getElem?_modify
def Sl:=@Array.getElem?_push
def rW:=@Array.getElem?_setIfInBounds_ne
def PK:=@Array.getElem?_toList
def Di:=@Array.length_toList
def rX:=@Array.mem_of_getElem?
def mP:=@Array.size_setIfInBounds
def rY:=@BitVec.eq_of_getLsbD_eq
def iL:=@BitVec.ofInt_natCast
def iM:=@BitVec.toNat_ofNat
def BP:=@Bool.and_eq_true
def Sm:=@Bool.and_self
def PL:=@Bool.and_true
def Kf:=@Bool.false_eq_true
def Wg:=@Bool.not_eq_true'
def mQ:=@Bool.not_false
def C3:=@Bool.not_true
def iN:=@Bool.or_eq_true
def Sn:=@Decidable.byContradiction
def FF:=@Int.eq_ofNat_of_zero_le
def iO:=@Int.fdiv_eq_ediv_of_nonneg
def Ag:=@Int.le_refl
def mR:=@Int.le_trans
def iP:=@Int.lt_or_le
def mS:=@Int.mul_ediv_add_emod
def Dk:=@Int.toNat_natCast
def IH:=@Int.toNat_of_nonneg
def rZ:=@List.Pairwise.imp_of_mem
def re:=@List.Perm.eq_of_pairwise
def mT:=@List.all_cons
def GD:=@List.all_eq_true
def mU:=@List.all_nil
def mV:=@List.any_eq_true
def Ay:=@List.append_assoc
def L5:=@List.append_inj
def Dr:=@List.append_nil
def aB:=@List.cons_append
def aC:=@List.drop_append
def mW:=@List.drop_append_of_le_length
def Nc:=@List.drop_drop
def So:=@List.drop_eq_getElem_cons
def iQ:=@List.drop_eq_nil_of_le
def PM:=@List.drop_left
def iR:=@List.drop_left'
def aD:=@List.drop_of_length_le
def iS:=@List.drop_zero
def Eg:=@List.eq_nil_of_length_eq_zero
def I5:=@List.ext_getElem?
def rf:=@List.extract_eq_take_drop
def rj:=@List.filterMap_append
def II:=@List.filter_append
def U0:=@List.filter_cons
def rl:=@List.filter_cons_of_neg
def rq:=@List.filter_cons_of_pos
def iT:=@List.filter_nil
def Wi:=@List.flatMap_append
def IJ:=@List.flatMap_cons
def iU:=@List.flatMap_nil
def mX:=@List.flatten_cons
def iV:=@List.foldl_append
def iW:=@List.foldl_cons
def Jd:=@List.getD_eq_getElem?_getD
def CK:=@List.getElem?_append_left
def Cb:=@List.getElem?_append_right
def r8:=@List.getElem?_cons_succ
def aE:=@List.getElem?_cons_zero
def L6:=@List.getElem?_drop
def At:=@List.getElem?_eq_getElem
def Cj:=@List.getElem?_eq_none
def U1:=@List.getElem?_eq_some_iff
def CO:=@List.getElem?_map
def Eh:=@List.getElem?_of_mem
def Sp:=@List.getElem?_range
def aF:=@List.getElem?_set
def EA:=@List.getElem?_set_ne
def IK:=@List.getElem?_set_self
def aG:=@List.getElem?_take
def Kg:=@List.getElem?_take_of_lt
def iX:=@List.getElem?_toArray
def r9:=@List.getElem?_zip_eq_some
def U2:=@List.getElem_mem
def Ad:=@List.length_append
def By:=@List.length_cons
def GF:=@List.length_drop
def IL:=@List.length_filter_le
def Ds:=@List.length_map
def Bs:=@List.length_nil
def I6:=@List.length_replicate
def iY:=@List.length_set
def aH:=@List.length_singleton
def Ba:=@List.length_take
def Mh:=@List.map_append
def Mi:=@List.map_congr_left
def Bo:=@List.map_cons
def cI:=@List.map_id
def OR:=@List.map_map
def I3:=@List.map_nil
def Pz:=@List.map_toArray
def An:=@List.mem_append
def HQ:=@List.mem_append_left
def OS:=@List.mem_append_right
def A3:=@List.mem_cons
def CV:=@List.mem_cons_of_mem
def Jx:=@List.mem_cons_self
def Bc:=@List.mem_filter
def P0:=@List.mem_filterMap
def Hq:=@List.mem_flatMap
def Uw:=@List.mem_iff_getElem
def Fg:=@List.mem_iff_getElem?
def B0:=@List.mem_map
def Wu:=@List.mem_map_of_mem
def BM:=@List.mem_of_getElem?
def OT:=@List.mem_of_mem_drop
def Fh:=@List.mem_of_mem_take
def Ux:=@List.mem_or_eq_of_mem_set
def I4:=@List.mem_range
def BA:=@List.mem_singleton
def pE:=@List.mem_zipIdx_iff_getElem?
def Cn:=@List.nil_append
def P4:=@List.nodup_append
def GN:=@List.nodup_cons
def Mj:=@List.nodup_iff_pairwise_ne
def OU:=@List.nodup_nil
def Hr:=@List.pairwise_iff_getElem
def SO:=@List.pairwise_map
def jv:=@List.perm_ext_iff_of_nodup
def jw:=@List.replicate_succ
def SP:=@List.set_append_right
def Wv:=@List.set_set
def pF:=@List.singleton_append
def cJ:=@List.size_toArray
def Uy:=@List.sum_cons
def Dt:=@List.take_add_one
def jx:=@List.take_append
def EP:=@List.take_append_drop
def cK:=@List.take_append_of_le_length
def Uz:=@List.take_left
def Gs:=@List.take_left'
def Hs:=@List.take_length
def BS:=@List.take_of_length_le
def Kq:=@List.take_take
def cL:=@List.zip_append
def cM:=@Nat.add_assoc
def Gt:=@Nat.add_mul
def jy:=@Nat.add_sub_cancel
def Ww:=@Nat.add_sub_cancel_left
def SS:=@Nat.add_zero
def Jy:=@Nat.beq_refl
def DN:=@Nat.eq_of_beq_eq_true
def SU:=@Nat.eq_zero_or_pos
def Kr:=@Nat.le_of_ble_eq_true
def Ai:=@Nat.le_refl
def EB:=@Nat.le_trans
def DO:=@Nat.lt_of_lt_of_le
def Aq:=@Nat.lt_or_ge
def P7:=@Nat.lt_trichotomy
def P8:=@Nat.min_eq_left
def Wx:=@Nat.mod_eq_of_lt
def jz:=@Nat.mul_le_mul
def P9:=@Nat.mul_le_mul_right
def BW:=@Nat.ne_of_lt
def cN:=@Nat.pow_le_pow_right
def Gu:=@Nat.sub_self
def EQ:=@Nat.zero_add
def B8:=@Nat.zero_le
def EC:=@Option.bind_eq_some_iff
def AE:=@Option.bind_some
def j8:=@Option.getD_some
def cO:=@Option.isSome_iff_exists
def Wy:=@Option.map_eq_some_iff
def Bp:=@Option.map_some
def Bg:=@Option.some.inj
def Al:=@Option.some.injEq
def cP:=@Option.toList_some
def Dj:=@Prod.ext
def D6:=@Prod.mk.injEq
def j9:=@Sum.elim_inl
def Wz:=@Sum.elim_inr
end Go
namespace Go.Ab
inductive AY where
 |bool (b:Bool)
 |int (k:IntKind) (n:Int)
 |str (s:List UInt8)
 |nilp
 |ptr (id g off:Nat)
 |vptr (cs:List AY)
 |nils
 |vs (sz:Nat) (rows:List AY)
 |sl (id g sz off len:Nat)
 |fn (f:Fn) (first caps:List AY)
 |yf (id:Nat)
 |mp (id:Nat)
 |itp (id m:Nat)
 |nilf
 |agg (cs:List AY)
 |tup (vs:List AY)
 |any
 deriving Inhabited
def AY.cells:AY->List AY
 | .agg cs=>cs
 |v=>[v]
structure Cx where
 w:World
 n:Nat
 io:Nat->Option Nat
 gen:Nat->Nat
 cap:Nat->Nat
 O:Nat->Prop
inductive Bi(x:Cx):AY->Value->Prop where
 |bool (b:Bool):Bi x (.bool b) (.bool b)
 |int (k:IntKind) (n:Int):Bi x (.int k n) (.int k n)
 |str {s:List UInt8} (t:ByteArray) (h:t.data.toList=s):Bi x (.str s) (.string t)
 |nilp:Bi x .nilp (.pointer none)
 |ptr {id g off:Nat} {c:Value} (hid:id<x.n) (hg:g≤x.gen id) (h1:c.oneCell'=true)
   (hc:x.gen id=g-> ∃B,x.io id=some B/\c= .pointer (some ⟨B,off,none⟩)):Bi x (.ptr id g off) c
 |vptr {cs:List AY} {B off:Nat} (f:Nat→Value) (hO: ¬x.O B) (hB:B<x.w.heap.size)
   (hc: ∀(j:Nat) (v:AY),cs[j]? =some v->x.w.cell? ⟨B,off+j,none⟩=some (f j)/\(f j).oneCell'=true)
   (hv: ∀(j:Nat) (v:AY),cs[j]? =some v->Bi x v (f j)):Bi x (.vptr cs) (.pointer (some ⟨B,off,none⟩))
 |nils:Bi x .nils (.slice none 0 0)
 |vs {sz:Nat} {rows:List AY} {a:Option Addr} {cap:Nat} (f:Nat→Nat→Value) (hcap:rows.length≤cap) (hsz:0<sz)
   (hrow: ∀(j:Nat) (e:AY),rows[j]? =some e->e.cells.length=sz)
   (ha:rows≠ []-> ∃B off,a=some ⟨B,off,none⟩/\ ¬x.O B/\B<x.w.heap.size/\
    ∀(j:Nat) (e:AY) (i:Nat) (v:AY),rows[j]? =some e->e.cells[i]? =some v->x.w.cell? ⟨B,off+(j*sz+i),none⟩=some (f j i)/\(f j i).oneCell'=true)
   (hv: ∀(j:Nat) (e:AY) (i:Nat) (v:AY),rows[j]? =some e->e.cells[i]? =some v->Bi x v (f j i)):Bi x (.vs sz rows) (.slice a rows.length cap)
 |sl {id g sz off len:Nat} {c:Value} (hid:id<x.n) (hg:g≤x.gen id) (h1: ∃a cap,c= .slice a len cap)
   (hc:x.gen id=g->(x.io id=none/\len=0/\off=0/\c= .slice none 0 0)\/
    ∃B cap,x.io id=some B/\len<=cap/\off+cap*sz<=x.cap id/\c= .slice (some ⟨B,off,none⟩) len cap):Bi x (.sl id g sz off len) c
 |fn {f:Fn} {first caps:List AY} {first' caps':Array Value} (h1:first'.size=first.length) (h2:caps'.size=caps.length)
   (hv1: ∀(j:Nat) (v:AY) (c:Value),first[j]? =some v->first'[j]? =some c->Bi x v c) (hv2: ∀(j:Nat) (v:AY) (c:Value),caps[j]? =some v->caps'[j]? =some c->Bi x v c):
   Bi x (.fn f first caps) (.func f first' caps')
 |yf {id:Nat} {c:Value} (hid:id<x.n) (h1:c.oneCell'=true) (hc:x.gen id=0-> ∃B,x.io id=some B/\c= .func (.yield B) #[] #[]):Bi x (.yf id) c
 |mp {id:Nat} {c:Value} (hid:id<x.n) (h1:c.oneCell'=true) (hc:x.gen id=0-> ∃B,x.io id=some B/\c= .map (some B)):Bi x (.mp id) c
 |itp {id m:Nat} {c:Value} (hid:id<x.n) (hm:m<x.n) (h1:c.oneCell'=true) (hc:x.gen id=0-> ∃B,x.io id=some B/\c= .pointer (some ⟨B,0,none⟩)/\(x.gen m=0->x.io m=some (x.cap id))):Bi x (.itp id m) c
 |nilf:Bi x .nilf .nilFunc
 |agg {cs:List AY} {cs':Array Value} (h:cs'.size=cs.length) (h1: ∀(j:Nat) (c:Value),cs'[j]? =some c→c.oneCell'=true)
   (hv: ∀(j:Nat) (v:AY) (c:Value),cs[j]? =some v->cs'[j]? =some c->Bi x v c):Bi x (.agg cs) (.agg cs')
 |tup {vs:List AY} {vs':Array Value} (h:vs'.size=vs.length)
   (hv: ∀(j:Nat) (v:AY) (c:Value),vs[j]? =some v->vs'[j]? =some c->Bi x v c):Bi x (.tup vs) (.tuple vs')
 |any (c:Value):Bi x .any c
structure Cx.Later(x y:Cx):Prop where
 size:x.w.heap.size<=y.w.heap.size
 keep: ∀B,B<x.w.heap.size-> ¬x.O B-> ∀off,y.w.cell? ⟨B,off,none⟩=x.w.cell? ⟨B,off,none⟩
 own: ∀B,B<x.w.heap.size->y.O B->x.O B
 n:x.n<=y.n
 gen: ∀id,id<x.n->x.gen id<=y.gen id
 same: ∀id,id<x.n->y.gen id=x.gen id->y.io id=x.io id/\y.cap id=x.cap id
variable {N s:Nat}{a:TypeId}{w A:World}{P:Program}{b B:Value}{c:Nat→Prop}{d G:List AY}{e n D:AY}{f:Cx}{i:Array Value}{j:Act}{k:Option (List Deferred)}{m:Operand}{o:Oper}{X:Nat->Prop}{p:List Nat}{q:Code}{r:Bool}{u:Nat×Nat}{v:Nat->Nat}{y:IntKind}{z:FuncId}{C:BinOp}{E:Func}{F:Obj}
theorem jj(h:A.heap[N]? =w.heap[N]?)(a:Nat):A.cell? ⟨N,a,none⟩=w.cell? ⟨N,a,none⟩:=by grind[World.cell?]
theorem Bi.later{x y:Cx}(h:x.Later y)(r:Bi x e b):Bi y e b:=by
 induction r with
 |bool c=>exact .bool c
 |int k n=>exact .int k n
 |str t J=>exact .str t J
 |nilp=>exact .nilp
 |ptr a w d m=>refine .ptr (DO a h.n) (EB w (h.gen _ a)) d λv=>?_;have d:=h.gen _ a;have l:=h.same _ a o!;grind
 |vptr f q g m K p=>refine .vptr f (λo=>q (h.own _ g o)) (DO g h.size) (λj e H=>?_) p;rw[h.keep _ g q];grind
 |nils=>exact .nils
 |vs f s C u G K p=>refine .vs f s C u (λA=>?_) p;obtain⟨B,F,v,q,g,m⟩:=G A;refine⟨B,F,v,(λo=>q (h.own _ g o)),DO g h.size,λj v i e H N=>?_⟩;rw[h.keep _ g q];grind
 |sl a w d m=>refine .sl (DO a h.n) (EB w (h.gen _ a)) d λv=>?_;have d:=h.gen _ a;have l:=h.same _ a o!;grind
 |fn d l _ _ D E=>exact .fn d l D E
 |yf a d m=>refine .yf (DO a h.n) d λv=>?_;have d:=h.gen _ a;have l:=h.same _ a o!;grind
 |mp a d m=>refine .mp (DO a h.n) d λv=>?_;have d:=h.gen _ a;have l:=h.same _ a o!;grind
 |itp a z d m=>refine .itp (DO a h.n) (DO z h.n) d λv=>?_;have d:=h.gen _ a;have l:=h.same _ a o!;obtain⟨B,g,I,O⟩:=m o!;refine⟨B,l.1.trans g,I,λv=>?_⟩;have L:=h.gen _ z;have M:=h.same _ z o!;grind
 |nilf=>exact .nilf
 |agg h d _ p=>exact .agg h d p
 |tup h _ p=>exact .tup h p
 |any b=>exact .any b
abbrev Env:=List (Nat×AY)
structure jc where
 n:Nat
 env:Env
 params:Array Tmp
 assign:Code
 body:Code
 state:LoopState
 pending:Option Code
inductive Eo where
 |dead
 |live (g:Nat) (cells:List AY)
 |lp (L:jc)
 |bld (T e row:Nat) (l:Option (List UInt8))
 |brow (o:Nat)
 |mp (k:IntKind) (es:List (Int×AY))
 |it (n:Nat) (seen:List Nat)
 deriving Inhabited
def Eo.isB:Eo->Bool
 | .bld .. =>true
 | .brow _=>true
 | .mp _ _=>true
 | .it _ _=>true
 |_=>false
abbrev Ar:=List Eo
structure Gh where
 io:Nat->Option Nat
 gen:Nat->Nat
 cap:Nat->Nat
def owned(h:Gh)(H:Ar)(B:Nat):Prop:= ∃id e,H[id]? =some e/\e≠Eo.dead/\h.io id=some B
def cx(X:Nat->Prop)(h:Gh)(H:Ar)(w:World):Cx:=⟨w,H.length,h.io,h.gen,h.cap,λB=>X B\/owned h H B⟩
def xo(x:Cx)(id g:Nat)(cs:List AY):Prop:=
 x.gen id=g/\((x.io id=none/\cs=[])\/ ∃(B:Nat) (arr:Array Value) (T:TypeId) (fz:Nat×Nat) (f:Nat->Value),x.io id=some B/\x.w.heap[B]? =some (.cells arr T fz)/\arr.size=x.cap id/\
  cs.length<=arr.size/\(∀i,i<arr.size->(decide (fz.1<=i)&&decide (i<fz.2))=false)/\
  ∀(j:Nat) (v:AY),cs[j]? =some v->arr[j]? =some (f j)/\(f j).oneCell'=true/\Bi x v (f j))
def tF(x:Cx)(id:Nat)(L:jc):Prop:=
 x.gen id=0/\ ∃(B:Nat) (r:Loop),x.io id=some B/\x.w.heap[B]? =some (.loop r)/\r.state=L.state/\r.pending=L.pending/\r.params=L.params/\r.assign=L.assign/\r.body=L.body/\r.tmps.size=L.n/\
  ∀t v,(t,v)∈L.env->t<L.n/\Bi x v (r.tmps.getD t undef)
def BAt(h:Gh)(H:Ar)(w:World)(id:Nat):Eo->Prop
 | .bld T e row l=> ∃(B:Nat) (p v:Value),h.io id=some B∧w.heap[B]? =some (.cells #[p,v] T (0,0))∧(p= .pointer none∨p= .pointer (some ⟨B,0,none⟩))∧h.gen id=0∧(l=none→p= .pointer none∧v= .slice none 0 0)∧
   (H[row]? =some (.brow id)->w.ownsRowF 0 e 1 v (l.getD []).length (Lib.byteCells (l.getD []))/\v.ownBlock=h.io row)
 | .brow _=> ∀B,h.io id=some B-> ∃arr T fz,w.heap[B]? =some (.cells arr T fz)
 | .mp k es=> ∃(B:Nat) (arr:Array MapEntry),h.io id=some B∧h.gen id=0∧w.heap[B]? =some (.map arr arr.size)∧arr.size=es.length∧
   ∀(j:Nat) (p:Int×AY),es[j]? =some p-> ∃e:MapEntry,arr[j]? =some e/\e.born=j/\e.key= .int k p.1/\ ∀x,Bi x p.2 e.val
 | .it n seen=> ∃B,h.io id=some B/\h.gen id=0/\w.heap[B]? =some (.mapIter (some (h.cap id)) n seen.toArray n)
 |_=>True
structure JE(X:Nat->Prop)(h:Gh)(H:Ar)(w:World):Prop where
 out: ∀B,X B->B<w.heap.size/\ ¬owned h H B
 live: ∀(id g:Nat) (cs:List AY),H[id]? =some (Eo.live g cs)->xo (cx X h H w) id g cs
 lp: ∀(id:Nat) (L:jc),H[id]? =some (Eo.lp L)->tF (cx X h H w) id L
 inj: ∀(id id':Nat) (e e':Eo) (B:Nat),H[id]? =some e->H[id']? =some e'->e≠ .dead->e'≠ .dead->h.io id=some B->h.io id'=some B->id=id'
 bld: ∀(id:Nat) (e:Eo),H[id]? =some e->e.isB=true->BAt h H w id e
variable {H J:Ar}{h I:Gh}{g:Env}{l:Eo}{K:AY->Ar->Prop}{t:AY→Ar→Prop}
def JE.bldKeep(s:JE c h H w)
  (key: ∀(id:Nat) (e:Eo),J[id]? =some e->e.isB=true->H[id]? =some e/\I.io id=h.io id/\I.gen id=h.gen id/\I.cap id=h.cap id/\ ∀B (o:Obj),h.io id=some B->w.heap[B]? =some o->(∀z,o≠ .deferred z)->A.heap[B]? =w.heap[B]?):
  ∀(id:Nat) (e:Eo),J[id]? =some e->e.isB=true->BAt I J A id e:=by
 intro id e N u;obtain⟨C,d,K,m,t⟩:=key id e N u;have b:=s.bld id e C u;cases e with
 |bld T R F l=>obtain⟨B,p,v,a,j,i,r,M,L⟩:=b;refine⟨B,p,v,d.trans a,(t B _ a j (λz=>k!)).trans j,i,K.trans r,M,λhr=>?_⟩;obtain⟨D,E,_,_,Q⟩:=key F (.brow id) hr rfl;obtain⟨q1,q2⟩:=L D;refine⟨⟨q1.1,?_⟩,q2.trans E.symm⟩;rcases q1.2 with q|⟨g,cap,x,y,rfl,O,X,P⟩;exact .inl q;refine .inr ⟨g,cap,x,y,rfl,O,(Q g _ ?_ X (λz=>k!)).trans X,P⟩;simpa[Value.ownBlock]using q2.symm
 |brow o=>intro B G;obtain⟨f,T,y,a⟩:=b B (d▸G);exact⟨f,T,y,(t B _ (d▸G) a (λz=>k!)).trans a⟩
 |mp k S=>obtain⟨B,f,a,j,i,r⟩:=b;exact⟨B,f,d.trans a,K.trans j,(t B _ a i (λz=>k!)).trans i,r⟩
 |it n seen=>obtain⟨B,a,j,i⟩:=b;exact⟨B,d.trans a,K.trans j,by rw[m];exact(t B _ a i (λz=>k!)).trans i⟩
 |_=>trivial
def NZ(x:Cx)(env:Env)(a:Act):Prop:= ∀t v,(t,v)∈env->t<a.tmps.size/\Bi x v (a.tmps.getD t undef)
structure St(X:Nat->Prop)(h:Gh)(N:Nat)(env:Env)(H:Ar)(a:Act)(w:World):Prop where
 sim:JE X h H w
 env:NZ (cx X h H w) env a
 size:a.tmps.size=N
structure HP(h:Gh)(H:Ar)(w:World)(h':Gh)(H':Ar)(w':World):Prop where
 os:w'.os=w.os
 tape:w'.tape=w.tape
 output:w'.output=w.output
 size:w.heap.size<=w'.heap.size
 keep: ∀B,B<w.heap.size-> ¬owned h H B->w'.heap[B]? =w.heap[B]?
 n:H.length<=H'.length
 gen: ∀id,id<H.length->h.gen id<=h'.gen id
 same: ∀id,id<H.length->h'.gen id=h.gen id->h'.io id=h.io id/\h'.cap id=h.cap id
 fresh: ∀B,owned h' H' B->owned h H B\/w.heap.size<=B
 loops: ∀(B:Nat) (r:Loop),w.heap[B]? =some (.loop r)-> ∃r':Loop,w'.heap[B]? =some (.loop r')
def HP.refl(h:Gh)(H:Ar)(w:World):HP h H w h H w:=⟨rfl,rfl,rfl,Ai _,λ_ _ _=>rfl,Ai _,λ_ _=>Ai _,λ_ _ _=>⟨rfl,rfl⟩,λ_ h=>.inl h,λ_ r h=>⟨r,h⟩⟩
theorem HP.trans{c j k:Gh}{f g i:Ar}{l m o:World}(a:HP c f l j g m)(b:HP j g m k i o):HP c f l k i o where
 os:=b.os.trans a.os
 tape:=b.tape.trans a.tape
 output:=b.output.trans a.output
 size:=EB a.size b.size
 keep B hB hn:=(b.keep B (DO hB a.size) λd=>by rcases a.fresh B d with h|h;grind;omega).trans (a.keep B hB hn)
 n:=EB a.n b.n
 gen id hid:=EB (a.gen id hid) (b.gen id (DO hid a.n))
 same id hid e:=by have q:=a.gen id hid;have s:=b.gen id (DO hid a.n);have u:=a.same id hid o!;have v:=b.same id (DO hid a.n) o!;grind
 fresh B d:=by rcases b.fresh B d with h|h;exact a.fresh B h;exact .inr (EB a.size h)
 loops B r h:=by obtain⟨p,c⟩:=a.loops B r h;exact b.loops B p c
def HP.later{h c:Gh}{H b:Ar}{w d:World}(e:HP h H w c b d)(X:Nat->Prop):(cx X h H w).Later (cx X c b d)where
 size:=e.size
 keep B hB hO off:=jj (e.keep B hB λa=>hO (.inr a)) off
 own B hB a:=by rcases a with a|a;exact .inl a;rcases e.fresh B a with h|h;exact .inr h;simp only[cx]at hB;omega
 n:=e.n
 gen:=e.gen
 same:=e.same
def NZ.later{x y:Cx}(l:x.Later y)(h:NZ x g j):NZ y g j:=λt v m=>⟨(h t v m).1,(h t v m).2.later l⟩
def Ee(P:Program)(F:FuncId)(args:List AY)(H:Ar)(Q:AY->Ar->Prop):Prop:=
 ∀(X:Nat->Prop) (h:Gh) (w:World) (cargs:Array Value),JE X h H w->cargs.size=args.length->
  (∀(j:Nat) (v:AY) (c:Value),args[j]? =some v->cargs[j]? =some c->Bi (cx X h H w) v c)->
  Calls P F cargs w λe w'=> ∃c v h' H',e= .returned c/\Q v H'/\JE X h' H' w'/\Bi (cx X h' H' w') v c/\HP h H w h' H' w'
def FR(r:Option Nat):Fence:={Fence.wide with round:=r}
def Ys(a:Act)(w:World)(a':Act)(w':World):Prop:=
 ∃ds,a'.defers=ds++a.defers/\ds.Nodup/\ ∀d∈ds,∃D,d={target:=.collected D,args:= #[]}/\w.heap.size<=D/\w'.heap[D]? =some (.deferred (some []))
def km(r:Option Nat)(w:World):Prop:= ∀l,r=some l-> ∃x:Loop,w.heap[l]? =some (.loop x)
def Ys.same{b:Act}{w c:World}(h:b.defers=j.defers):Ys j w b c:=⟨[],by simp[h],.nil,λ_ h=>by cases h⟩
def JE.deferred(s:JE X h H w)(i:w.heap[N]? =some (.deferred k)): ¬owned h H N:=by
 rintro⟨id,e,j,t,b⟩;cases e with
 |dead=>exact t rfl
 |live g u=>rcases(s.live id g u j).2 with⟨hn,_⟩|⟨B,m,T,y,f,a,q,_⟩;rw[show(cx X h H w).io id=h.io id from rfl,b]at hn;cases hn;rw[show(cx X h H w).io id=h.io id from rfl,b]at a;injection a with e;subst e;rw[show(cx X h H w).w.heap=w.heap from rfl,i]at q;cases q
 |lp L=>obtain⟨_,B,r,a,q,_⟩:=s.lp id L j;rw[show(cx X h H w).io id=h.io id from rfl,b]at a;injection a with e;subst e;rw[show(cx X h H w).w.heap=w.heap from rfl,i]at q;cases q
 |bld T A z l=>obtain⟨B,p,v,d,c,_⟩:=s.bld id _ j rfl;rw[b]at d;injection d with e;subst e;rw[i]at c;cases c
 |brow o=>obtain⟨m,T,y,c⟩:=s.bld id _ j rfl N b;rw[i]at c;cases c
 |mp D C=>obtain⟨B,m,d,_,c,_⟩:=s.bld id _ j rfl;rw[b]at d;injection d with e;subst e;rw[i]at c;cases c
 |it n seen=>obtain⟨B,d,_,c⟩:=s.bld id _ j rfl;rw[b]at d;injection d with e;subst e;rw[i]at c;cases c
theorem oh(h:w.heap[N]? =some F):N<w.heap.size:=q!
def HP.defs(x:HP h H w I J A)(s:JE X h H w)(a:w.heap[N]? =some (.deferred k)):A.heap[N]? =some (.deferred k):=(x.keep N (oh a) (s.deferred a)).trans a
theorem Ys.trans{X:Nat->Prop}{h j b:Gh}{H f n:Ar}{a a1 a2:Act}{w e m:World}(o:Ys a w a1 e)(s:JE X j f e)(z:HP h H w j f e)(x:HP j f e b n m)(p:Ys a1 e a2 m):Ys a w a2 m:=by obtain⟨g,B,t,v⟩:=o;obtain⟨i,C,u,y⟩:=p;refine⟨i++g,q!,P4.2 ⟨u,t,λd r A q E=>?_⟩,λd c=>?_⟩;grind;rcases An.1 c with c|c;obtain⟨D,k,b,l⟩:=y d c;exact⟨D,k,EB z.size b,l⟩;obtain⟨D,k,b,l⟩:=v d c;exact⟨D,k,b,x.defs s l⟩
def km.later{r:Option Nat}{h c:Gh}{H b:Ar}{w a:World}(k:km r w)(x:HP h H w c b a):km r a:=λl e=>by obtain⟨y,d⟩:=k l e;exact x.loops l y d
def Mf(P:Program)(N:Nat)(c:Code)(env:Env)(H:Ar)(Q:Exit->Env->Ar->Prop):Prop:=
 ∀(r:Option Nat) (X:Nat->Prop) (h:Gh) (a:Act) (w:World),St X h N env H a w->km r w->
  c.wpIn (FR r) 0 P (λe a' w'=> ∃h' env' H',Q e env' H'/\St X h' N env' H' a' w'/\HP h H w h' H' w'/\Ys a w a' w') a w
def Ee.mono{P:Program}{F:FuncId}{H:Ar}{Q:AY->Ar->Prop}(h:Ee P F d H K)(i: ∀v b,K v b->Q v b):Ee P F d H Q:=λX g w a s j hr=>(h X g w a s j hr).mono λ_ _ ⟨c,v,f,b,e,q,r⟩=>⟨c,v,f,b,e,i _ _ q,r⟩
def Mf.mono{P:Program}{N:Nat}{H:Ar}{Q f:Exit->Env->Ar->Prop}(h:Mf P N q g H Q)(j: ∀e b d,Q e b d->f e b d):Mf P N q g H f:=λr X c a w s k=>wpIn_mono (h r X c a w s k) λ_ _ _ ⟨i,b,d,l,r⟩=>⟨i,b,d,j _ _ _ l,r⟩
def tC(K:Env->Ar->Prop)(Q:Exit->Env->Ar->Prop):Exit->Env->Ar->Prop
 | .normal,env,H=>K env H
 |e,env,H=>Q e env H
def ma(id:Nat)(Q:Exit->Env->Ar->Prop):Exit->Env->Ar->Prop
 | .exit id',env,H=>if id'=id then Q .normal env H else Q (.exit id') env H
 |e,env,H=>Q e env H
section rules
variable {P:Program} {N:Nat} {env:Env} {H:Ar} {Q:Exit->Env->Ar->Prop}
def Mf.skip(h:Q .normal env H):Mf P N .skip env H Q:=λ_ _ _ _ _ s _=>wpIn_skip ⟨_,_,_,h,s,HP.refl _ _ _,.same rfl⟩
def Mf.ret(h:Q .ret env H):Mf P N .ret env H Q:=λ_ _ _ _ _ s _=>wpIn_ret ⟨_,_,_,h,s,HP.refl _ _ _,.same rfl⟩
def Mf.exit(h:Q (.exit s) env H):Mf P N (.exit s) env H Q:=λ_ _ _ _ _ a _=>wpIn_exit ⟨_,_,_,h,a,HP.refl _ _ _,.same rfl⟩
def Mf.seq{x y:Code}(h:Mf P N x env H (tC (λb d=>Mf P N y b d Q) Q)):Mf P N (.seq x y) env H Q:=by
 intro r X g a w s k;refine wpIn_seq (wpIn_mono (h r X g a w s k) ?_);rintro e n u ⟨j,b,d,q,f,c,i⟩;cases e with
 |normal=>apply wpIn_mono (q r X j n u f (k.later c));rintro e a2 v ⟨p,env2,m,q2,t,l,o⟩;exact⟨p,env2,m,q2,t,c.trans l,i.trans f.sim c l o⟩
 |_=>exact⟨j,b,d,q,f,c,i⟩
theorem Mf.block{id:Nat}(h:Mf P N q env H (ma id Q)):Mf P N (.block id q) env H Q:=by intro r X g a w s k;refine wpIn_block (wpIn_mono (h r X g a w s k) ?_);rintro e f j ⟨i,b,d,c,r⟩;cases e<;>grind[ma,Exit.inBlock]
def GC(N n0:Nat)(env:Env)(H:Ar)(env2:Env)(H2:Ar):Prop:=
 n0<=H2.length/\ ∀(X:Nat->Prop) (h:Gh) (a:Act) (w:World),St X h N env H a w->
  ∃h2,St X h2 N env2 H2 a w/\(∀id,id<n0->h2.gen id=h.gen id/\h2.io id=h.io id/\h2.cap id=h.cap id)/\ ∀B,owned h2 H2 B->owned h H B
def GC.ext{n0:Nat}{d:Gh}{f:Ar}(hn:f.length=n0)(m:n0≤J.length)
  (j: ∀id,id<n0->d.gen id=h.gen id/\d.io id=h.io id/\d.cap id=h.cap id) (l: ∀B,owned d J B->owned h H B) (x:HP I f A h H w):HP I f A d J w where
 os:=x.os
 tape:=x.tape
 output:=x.output
 size:=x.size
 keep:=x.keep
 n:=o!
 gen id hid:=by rw[(j id o!).1];exact x.gen id hid
 same id hid e:=by obtain⟨a,b,c⟩:=j id o!;rw[a]at e;rw[b,c];exact x.same id hid e
 fresh B hB:=x.fresh B (l B hB)
 loops:=x.loops
theorem GC.refl(N:Nat)(env:Env)(H:Ar):GC N H.length env H env H:=⟨Ai _,λ_ h _ _ s=>⟨h,s,λ_ _=>⟨rfl,rfl,rfl⟩,λ_ h=>h⟩⟩
def Mf.weak(f:GC N H.length env H g J)(h:Mf P N q g J Q):Mf P N q env H Q:=by intro r X c a w s k;obtain⟨m,t,n,o⟩:=f.2 X c a w s;apply wpIn_mono (h r X m a w t k);rintro e v x ⟨l,b,i,d,p,u,j⟩;exact⟨l,b,i,d,p,(GC.ext rfl f.1 n o (HP.refl c H w)).trans u,j⟩
end rules
def Env.get:Env->Nat->AY
 |[],_=>.any
 |(k,v)::r,t=>if k=t then v else Env.get r t
def Env.put(env:Env)(t:Nat)(v:AY):Env:=(t,v)::env.filter λp=>decide (p.1≠t)
def Env.putO(env:Env):Option Nat->AY->Env
 |some t,v=>env.put t v
 |none,_=>env
theorem Nj{env:Env}{t:Nat}:Env.get env t= .any\/(t,Env.get env t)∈env:=by induction env<;>grind[Env.get]
def nr:Value->AY
 | .bool b=>.bool b
 | .int k n=>.int k n
 | .string s=>.str s.data.toList
 | .pointer none=>.nilp
 | .slice none 0 0=>.nils
 | .nilFunc=>.nilf
 |_=>.any
def zS:Value->AY
 | .agg cs=>if cs.toList.all (·.oneCell')then .agg (cs.toList.map nr)else .any
 |v=>nr v
theorem mo(x:Cx)(v:Value):Bi x (nr v) v:=by unfold nr;split;exact .bool _;exact .int _ _;exact .str _ rfl;exact .nilp;exact .nils;exact .nilf;exact .any _
theorem vH(x:Cx)(v:Value):Bi x (zS v) v:=by unfold zS;split;rename_i b;split;rename_i h;refine .agg k! (λj c a=>?_) λj v c a d=>?_;grind;grind[mo];exact .any _;exact mo x _
def BH(env:Env):Operand->AY
 | .tmp t=>env.get t
 | .const v=>zS v
 | .global _=>.any
 | .func f=>.fn (.func f) [] []
def C8(h:NZ f g j)(o:Operand):Bi f (BH g o) (j.eval o):=by
 cases o with
 |tmp t=>rcases Nj (env:=g) (t:=t)with e|m;simp only[BH,e];exact .any _;exact(h _ _ m).2
 |const v=>exact vH f v
 |global a=>exact .any _
 |func x=>exact .fn rfl rfl (λ_ _ _ h=>by simp at h) (λ_ _ _ h=>by simp at h)
theorem NZ.put(h:NZ f g j){d:Nat}{v:AY}(i:d<j.tmps.size)(x:Bi f v b):NZ f (g.put d v) (j.put (some d) b):=by
 intro t u m;simp only[Act.put];rcases A3.1 m with e|m;simp_all;rw[Bc]at m;obtain⟨m,a⟩:=m;have a:t≠d:=q!
 obtain⟨c,k⟩:=h t u m;have:(j.tmps.setIfInBounds d b).getD t undef=j.tmps.getD t undef:=by rw[QA,QA,rW (λe=>a e.symm)]
 grind
def NZ.putO(h:NZ f g j){d:Option Nat}{v:AY}{c:Value}(b: ∀t,d=some t->t<j.tmps.size)(e:Bi f v c):NZ f (g.putO d v) (j.put d c):=by
 cases d with
 |none=>exact h
 |some d=>exact h.put (b d rfl) e
def Xk(a:Act)(d:Option Nat)(c:Value):(a.put d c).tmps.size=a.tmps.size:=by cases d<;>simp[Act.put]
def JT(P:Program)(N:Nat)(o:Oper)(env:Env)(H:Ar)(K:AY->Ar->Prop):Prop:=
 ∀(r:Option Nat) (X:Nat->Prop) (h:Gh) (a:Act) (w:World),St X h N env H a w-> ∀Q:Exit->Act->World->Prop,
  Oper.wpIn (FR r) 0 P o a w (λa' w'=> ∃c v h' H',a'=a.put o.dst c/\K v H'/\Bi (cx X h' H' w') v c/\JE X h' H' w'/\HP h H w h' H' w') Q
def JT.mono{P:Program}{N:Nat}{H:Ar}{d:AY->Ar->Prop}(h:JT P N o g H K)(i: ∀v b,K v b->d v b):JT P N o g H d:=λr X j a w s Q=>Oper.wpIn_mono (λ_ _ ⟨c,v,f,b,e,k,r⟩=>⟨c,v,f,b,e,i _ _ k,r⟩) (h r X j a w s Q)
def Op.plain:Op->Bool
 | .defer _=>false
 |_=>true
def Cy(n:Op.plain o.op=true)(h: ∀(X:Nat→Prop) (h:Gh) (a:Act) (w:World),St X h N g H a w→ ∀Q:Exit→Act→World→Prop,
  Oper.wp P o a w (λp b=> ∃c v i e,p=a.put o.dst c/\t v e/\Bi (cx X i e b) v c/\JE X i e b/\HP h H w i e b) Q):JT P N o g H t:=by
 intro r X z a w s Q;have d:=h X z a w s Q;refine⟨λ_ _=>trivial,?_⟩;rw[Oper.semAt_eq _ _ _ (λc j=>by rw[j]at n;cases n)];unfold Oper.wp at d;generalize (execOp a.eval o).run P w=res at d;have j: ∀{f:FuncId} {args:Array Value} {b:World} {R:Ending->World->Prop},Calls P f args b R->CallsIn (FR r) (0-1) P f args b R:=by
  intro f args b R K;have m:CallsIn Fence.wide (0-1) P f args b R:=callsIn_wide.2 K;cases r with
  |none=>exact m
  |some l=>exact m
 cases res with
 |ok v b=>
  cases v with
  |enter f args=>exact⟨(λh=>by cases h),j d⟩
  |row row args=>refine⟨(λh=>by cases h),λc q _=>?_⟩;obtain⟨v,k,u,y⟩:=d c q;exact⟨v,k,u,stepsIn_wide.2 y⟩
  |round l f tmps assign body=>exact d.elim
  |_=>exact d
 |halt x b=>cases x<;>exact d
def Vg(ops:Array Oper)(env:Env)(j:Nat):AY:=
 match (ops[j]?).bind (·.dst)with
 |some d=>env.get d
 |none=>.any
def Wq(ops:Array Oper)(g:Option (Nat×Bool))(env:Env)(A B:Prop):Prop:=
 match g with
 |none=>A
 |some (j,want)=>
  match Vg ops env j with
  | .bool b=>(b=want->A)/\(b=(!want)->B)
  | .tup []=>B
  |_=>False
def Kt(n:Nat)(ops:List Oper):Bool:=ops.all λo=>match o.dst with|some d=>decide (d<n)|none=>true
theorem vU{x:Array Oper}(s:NZ f g j){A B:Prop}(h:Wq x o.guard g A B):
  (Region.wanted o (yielded x j.tmps)=true/\A)\/(Region.wanted o (yielded x j.tmps)=false/\B):=by
 unfold Wq at h;unfold Region.wanted;cases v:o.guard with
 |none=>grind
 |some p=>
  obtain⟨a,k⟩:=p;rw[v]at h;simp only at h⊢;cases y:Vg x g a with
  |bool b=>
   rw[y]at h;simp only at h;have r:yielded x j.tmps a=some b:=by
    unfold Vg at y;unfold yielded;cases n:(x[a]?).bind (·.dst)with
    |none=>grind
    |some d=>
     rw[n]at y;simp only at y;simp only[AE];rcases Nj (env:=g) (t:=d)with e|m;grind;rw[y]at m;obtain⟨q,hr⟩:=s _ _ m;have:j.tmps[d]? =some (.bool b):=by
      have i:j.tmps.getD d undef= .bool b:=by generalize j.tmps.getD d undef=c at hr;cases hr;rfl
      rw[QA]at i;grind[Array.getElem?_eq_getElem]
     rw[this]
   rw[r];by_cases u:b=k;grind;refine .inr ⟨by simp[u],h.2 ?_⟩;cases b<;>cases k<;>simp_all
  |tup w=>
   cases w with
   |cons _ _=>grind
   |nil=>
    rw[y]at h;simp only at h;refine .inr ⟨?_,h⟩;have r:yielded x j.tmps a=none:=by
     unfold Vg at y;unfold yielded;cases n:(x[a]?).bind (·.dst)with
     |none=>rfl
     |some d=>
      rw[n]at y;simp only at y;simp only[AE];rcases Nj (env:=g) (t:=d)with e|m;grind;rw[y]at m;obtain⟨q,hr⟩:=s _ _ m;have i: ∃l,j.tmps.getD d undef= .tuple l:=by generalize j.tmps.getD d undef=c at hr;cases hr;exact⟨_,rfl⟩
      obtain⟨l,i⟩:=i;have:j.tmps[d]? =some (.tuple l):=t!
      rw[this]
    rw[r];rfl
  |_=>grind
section
variable {P:Program} {N:Nat} {env:Env} {H:Ar} {Q:Exit->Env->Ar->Prop}
def Mf.cond{x y:Code}{b:Bool}(d:BH env m= .bool b)(h:b=true->Mf P N x env H Q)(f:b=false->Mf P N y env H Q):Mf P N (.cond m x y) env H Q:=by
 intro r X g a w s k;have hr:=C8 s.env m;rw[d]at hr;have e:a.eval m= .bool b:=by generalize a.eval m=v at hr;cases hr;rfl
 apply wpIn_cond e;cases b;exact f rfl r X g a w s k;exact h rfl r X g a w s k
end
mutual
def AY.idsAll(p:Nat->Bool):AY->Bool
 | .ptr id _ _=>p id
 | .sl id _ _ _ _=>p id
 | .yf id=>p id
 | .mp id=>p id
 | .itp id m=>p id&&p m
 | .vptr cs=>AY.idsAllL p cs
 | .vs _ rows=>AY.idsAllL p rows
 | .fn _ a b=>AY.idsAllL p a&&AY.idsAllL p b
 | .agg cs=>AY.idsAllL p cs
 | .tup cs=>AY.idsAllL p cs
 | .bool _| .int _ _| .str _| .nilp| .nils| .nilf| .any=>true
def AY.idsAllL(p:Nat->Bool):List AY->Bool
 |[]=>true
 |v::r=>AY.idsAll p v&&AY.idsAllL p r
end
mutual
def AY.ren(ρ:Nat->Nat):AY->AY
 | .ptr id g off=>.ptr (ρ id) g off
 | .sl id g sz off len=>.sl (ρ id) g sz off len
 | .yf id=>.yf (ρ id)
 | .mp id=>.mp (ρ id)
 | .itp id m=>.itp (ρ id) (ρ m)
 | .vptr cs=>.vptr (AY.renL ρ cs)
 | .vs sz rows=>.vs sz (AY.renL ρ rows)
 | .fn f a b=>.fn f (AY.renL ρ a) (AY.renL ρ b)
 | .agg cs=>.agg (AY.renL ρ cs)
 | .tup cs=>.tup (AY.renL ρ cs)
 | .bool b=>.bool b
 | .int k n=>.int k n
 | .str s=>.str s
 | .nilp=>.nilp
 | .nils=>.nils
 | .nilf=>.nilf
 | .any=>.any
def AY.renL(ρ:Nat->Nat):List AY->List AY
 |[]=>[]
 |v::r=>AY.ren ρ v::AY.renL ρ r
end
theorem OF(a:Nat->Nat)(l:List AY):AY.renL a l=l.map (AY.ren a):=by induction l<;>grind[AY.renL]
theorem De(p:Nat->Bool)(l:List AY):AY.idsAllL p l=true↔ ∀v∈l,v.idsAll p=true:=by induction l<;>grind[AY.idsAllL]
theorem Md{p:Nat->Bool}(h:AY.idsAllL p d=true)(a:d[N]? =some e):e.idsAll p=true:=by grind[De]
theorem ss(a:Nat->Nat)(v:AY):(v.ren a).cells=v.cells.map (AY.ren a):=by cases v<;>simp[AY.ren,AY.cells,OF]
def UI{p:Nat->Bool}(h:e.idsAll p=true): ∀u∈e.cells,u.idsAll p=true:=by
 cases e<;>simp only[AY.cells,BA]<;>first
  |(intro u a;subst a;exact h)
  |(simp only[AY.idsAll]at h;exact(De _ _).1 h)
theorem Bi.ren{x y:Cx}{p:Nat→Bool}{ρ:Nat→Nat}(F: ∀id,p id=true→id<x.n→ρ id<y.n∧y.gen (ρ id)=x.gen id∧y.io (ρ id)=x.io id∧y.cap (ρ id)=x.cap id)
  (Y:y.w=x.w) (hO: ∀B,y.O B->x.O B) {v:AY}  (r:Bi x v b):v.idsAll p=true->Bi y (v.ren ρ) b:=by
 induction r with
 |bool c=>exact λ_=>.bool c
 |int k n=>exact λ_=>.int k n
 |str t L=>exact λ_=>.str t L
 |nilp=>exact λ_=>.nilp
 | @ptr id g H b A T E z=>intro q;obtain⟨a,c,d,e⟩:=F id q A;refine .ptr a (by rw[c];exact T) E λC=>?_;rw[c]at C;rw[d];exact z C
 | @vptr cs B H f K S z X M=>intro q;simp only[AY.idsAll]at q;simp only[AY.ren,OF];refine .vptr f (λo=>K (hO B o)) (by rw[Y];exact S) (λj v l=>?_) λj v l=>?_;grind;grind[Option.some.injEq,Md]
 |nils=>exact λ_=>.nils
 | @vs sz D a cap f P W al ha X M=>
  intro q;simp only[AY.idsAll]at q;simp only[AY.ren,OF];have I: ∀{j:Nat} {e:AY},(D.map (AY.ren ρ))[j]? =some e-> ∃u,D[j]? =some u/\e=u.ren ρ:=by grind[Option.some.injEq]
  have G: ∀{u:AY} {i:Nat} {v:AY},(u.ren ρ).cells[i]? =some v-> ∃t,u.cells[i]? =some t/\v=t.ren ρ:=by grind[ss,Option.some.injEq]
  have J:(D.map (AY.ren ρ)).length=D.length:=k!
  rw[<-J];refine .vs f (by rw[J];exact P) W (λj e l=>?_) (λV=>?_) λj e i v l U=>?_;grind[ss,List.length_map];obtain⟨B,H,e,K,S,z⟩:=ha (by simpa using V);refine⟨B,H,e,λo=>K (hO B o),by rw[Y];exact S,λj e i v l U=>?_⟩;obtain⟨u,s,rfl⟩:=I l;obtain⟨t,L,rfl⟩:=G U;rw[Y];exact z j u i t s L;obtain⟨u,s,rfl⟩:=I l;obtain⟨t,L,rfl⟩:=G U;exact M j u i t s L (UI (Md q s) _ (BM L))
 | @sl id g sz H len b A T E z=>intro q;obtain⟨a,c,d,e⟩:=F id q A;refine .sl a (by rw[c];exact T) E λC=>?_;rw[c]at C;rw[d,e];exact z C
 | @fn f first N Q R E h2 ap ar Z ad=>
  intro q;simp only[AY.idsAll,BP]at q;simp only[AY.ren,OF];refine .fn (by simpa using E) (by simpa using h2) (λj v b l z=>?_) λj v b l z=>?_;rw[CO]at l;cases s:first[j]? with
  |none=>rw[s]at l;cases l
  |some u=>rw[s]at l;simp only[Bp,Al]at l;subst l;exact Z j u b s z (Md q.1 s)
  rw[CO]at l;cases s:N[j]? with
  |none=>rw[s]at l;cases l
  |some u=>rw[s]at l;simp only[Bp,Al]at l;subst l;exact ad j u b s z (Md q.2 s)
 | @yf id b A E z=>intro q;obtain⟨a,c,d,e⟩:=F id q A;refine .yf a E λC=>?_;rw[c]at C;rw[d];exact z C
 | @mp id b A E z=>intro q;obtain⟨a,c,d,e⟩:=F id q A;refine .mp a E λC=>?_;rw[c]at C;rw[d];exact z C
 | @itp id m b A hm E z=>intro q;simp only[AY.idsAll,BP]at q;obtain⟨a,c,d,e⟩:=F id q.1 A;obtain⟨a2,b2,d2,e2⟩:=F m q.2 hm;refine .itp a a2 E λC=>?_;rw[c]at C;rw[d,b2,d2,e];exact z C
 |nilf=>exact λ_=>.nilf
 | @agg cs ao h E X M=>
  intro q;simp only[AY.idsAll]at q;simp only[AY.ren,OF];refine .agg (by simpa using h) E λj v b l z=>?_;rw[CO]at l;cases s:cs[j]? with
  |none=>rw[s]at l;cases l
  |some u=>rw[s]at l;simp only[Bp,Al]at l;subst l;exact M j u b s z (Md q s)
 | @tup vs ax h X M=>
  intro q;simp only[AY.idsAll]at q;simp only[AY.ren,OF];refine .tup (by simpa using h) λj v b l z=>?_;rw[CO]at l;cases s:vs[j]? with
  |none=>rw[s]at l;cases l
  |some u=>rw[s]at l;simp only[Bp,Al]at l;subst l;exact M j u b s z (Md q s)
 |any b=>exact λ_=>.any b
mutual
theorem xZ{p:Nat->Bool}{d:Nat->Nat}(c: ∀id,p id=true->d id=id): ∀v:AY,v.idsAll p=true->v.ren d=v
 | .ptr id g off,h=>by simp only[AY.ren,c id h]
 | .sl id g sz off len,h=>by simp only[AY.ren,c id h]
 | .yf id,h=>by simp only[AY.ren,c id h]
 | .mp id,h=>by simp only[AY.ren,c id h]
 | .itp id m,h=>by simp only[AY.idsAll,BP]at h;simp only[AY.ren,c id h.1,c m h.2]
 | .vptr cs,h=>by simp only[AY.ren,Wc c cs h]
 | .vs sz rows,h=>by simp only[AY.ren,Wc c rows h]
 | .fn f a b,h=>by simp only[AY.idsAll,BP]at h;simp only[AY.ren,Wc c a h.1,Wc c b h.2]
 | .agg cs,h=>by simp only[AY.ren,Wc c cs h]
 | .tup cs,h=>by simp only[AY.ren,Wc c cs h]
 | .bool _,_=>rfl
 | .int _ _,_=>rfl
 | .str _,_=>rfl
 | .nilp,_=>rfl
 | .nils,_=>rfl
 | .nilf,_=>rfl
 | .any,_=>rfl
theorem Wc{p:Nat->Bool}{b:Nat->Nat}(a: ∀id,p id=true->b id=id): ∀l:List AY,AY.idsAllL p l=true->AY.renL b l=l
 |[],_=>rfl
 |v::r,h=>by simp only[AY.idsAllL,BP]at h;simp only[AY.renL,xZ a v h.1,Wc a r h.2]
end
def tI(P:Program)(t:TypeId):Option (Bool×Nat):=
 match P.info? t,P.underlying t with
 |some i,some d=>some ((match d with| .struct _| .array _ _=>true|_=>false),i.size)
 |_,_=>none
def Wm(h:tI P a=some (r,N))(w:World):(isAgg a).run P w= .ok r w:=by unfold tI at h;split at h;rename_i i d c t;unfold isAgg;simp only[Sem.run_bind,run_underlying t,Result.andThen_ok];split<;>simp_all;cases h
def K5{P:Program}(h:tI P a=some (r,N))(w:World):(sizeOf a).run P w= .ok N w:=by unfold tI at h;split at h;rename_i i d t c;simp at h;simp[sizeOf,typeInfo,t,h.2];cases h
def Pd(H:Ar):AY->Nat->Option (List AY)
 | .ptr id g off,n=>
  match H[id]? with
  |some (.live g' cs)=>if g=g'/\off+n<=cs.length then some ((cs.drop off).take n)else none
  |_=>none
 | .vptr cs,n=>if n<=cs.length then some (cs.take n)else none
 |_,_=>none
def js(x:Cx)(vs:List AY)(cs:List Value):Prop:=cs.length=vs.length/\ ∀(j:Nat) (v:AY) (c:Value),vs[j]? =some v->cs[j]? =some c->Bi x v c
theorem OQ(B a j:Nat):(⟨B,a,none⟩:Addr).add j=⟨B,a+j,none⟩:=by grind[Addr.add]
theorem PN{w:World}(h:w.heap[N]? =some (.cells i a u))(b:Nat):w.cell? ⟨N,b,none⟩=i[b]? :=by grind[World.cell?]
theorem qf(s:JE c h H w)(r:Bi (cx c h H w) e b)(hr:Pd H e N=some G):
  ∃(B a:Nat) (k:List Value),b= .pointer (some ⟨B,a,none⟩)/\k.length=N/\(∀j u,k[j]? =some u->w.cell? ((⟨B,a,none⟩:Addr).add j)=some u/\u.oneCell'=true)/\js (cx c h H w) G k:=by
 cases r with
 | @ptr id g a b O Z V x=>
  simp only[Pd]at hr;split at hr;rename_i U k L;split at hr;rename_i m;obtain⟨rfl,F⟩:=m;simp only[Al]at hr;subst hr;obtain⟨t,q⟩:=s.live id g k L;obtain⟨B,o,rfl⟩:=x t;rcases q with⟨hn,_⟩|⟨D,I,T,S,f,l,K,E,A,M,i⟩;rw[hn]at o;cases o;have:D=B:=by rw[show(cx c h H w).io id=some B from o]at l;injection l with v;exact v.symm
  subst this;refine⟨D,a,(List.range N).map (λj=>f (a+j)),rfl,k!,?_,?_,?_⟩;intro j u p;have n:j<N:=by grind[Nat.lt_or_ge,List.getElem?_eq_none]
  have Q:u=f (a+j):=by grind[List.getElem?_range]
  subst Q;have y:k[a+j]? =some (k[a+j]' o!):=At o!;obtain⟨J,P,_⟩:=i _ _ y;rw[OQ,PN (w:=w) K];exact⟨J,P⟩;grind[List.length_map,List.length_range,List.length_take,List.length_drop];grind[Nat.lt_or_ge,List.getElem?_eq_none,List.getElem?_range,Option.some.injEq];cases hr;cases hr
 | @vptr k B a f Y W x R=>
  simp only[Pd]at hr;split at hr;rename_i A;simp only[Al]at hr;subst hr;refine⟨B,a,(List.range N).map f,rfl,k!,?_,?_,?_⟩;intro j u p;have n:j<N:=by grind[Nat.lt_or_ge,List.getElem?_eq_none]
  rw[CO,Sp n]at p;simp only[Bp,Al]at p;subst p;rw[OQ];exact x j _ (At o!);grind[List.length_map,List.length_range,List.length_take];intro j u d p z;have n:j<N:=by rcases Aq j N with C|X;exact C;simp_all[Cj]
  rw[aG,if_pos n]at p;rw[CO,Sp n]at z;simp only[Bp,Al]at z;subst z;exact R j u p;cases hr
 |_=>simp only[Pd]at hr;cases hr
def fG(P:Program)(t:TypeId)(H:Ar)(v:AY):Option AY:=
 match tI P t with
 |some (true,n)=>(Pd H v n).map AY.agg
 |some (false,_)=>(Pd H v 1).bind List.head?
 |none=>none
theorem vi(s:JE c h H w)(r:Bi (cx c h H w) e b)(t:fG P a H e=some n):
  ∃B v l,b= .pointer (some ⟨B,v,none⟩)/\(loadVar a ⟨B,v,none⟩).run P w= .ok l w/\Bi (cx c h H w) n l:=by
 unfold fG at t;split at t;rename_i u g;cases hr:Pd H e u with
 |none=>grind
 |some o=>rw[hr]at t;simp at t;subst t;obtain⟨B,v,f,rfl,d,k,X⟩:=qf s r hr;refine⟨B,v,.agg f.toArray,rfl,?_,?_⟩;unfold loadVar;simp only[Sem.run_bind,Wm g,Result.andThen_ok,if_true,K5 g];subst d;rw[run_loadCells_list w ⟨B,v,none⟩ f λj e i=>(k j e i).1];rfl;refine .agg (by simpa using X.1) (λj b i=>?_) λj e b i p=>?_;grind;exact X.2 j e b i q!
 rename_i u g;cases hr:Pd H e 1 with
 |none=>grind
 |some o=>
  rw[hr]at t;simp at t;obtain⟨B,v,f,rfl,d,k,X⟩:=qf s r hr;match f,d with
  |[c0],_=>
   match o,X.1 with
   |[u0],_=>simp at t;subst t;refine⟨B,v,c0,rfl,?_,X.2 0 _ _ rfl rfl⟩;unfold loadVar;have m:=(k 0 c0 rfl).1;simp only[Addr.add,if_true]at m;simp[Wm g,m]
 cases t
def kX(P:Program)(env:Env)(H:Ar):ResultVar->Option AY
 | .tmp t=>some (env.get t)
 | .cell a t=>fG P t H (env.get a)
def SJ(P:Program)(env:Env)(H:Ar):List ResultVar->Option (List AY)
 |[]=>some []
 |r::rs=>
  match kX P env H r,SJ P env H rs with
  |some v,some vs=>some (v::vs)
  |_,_=>none
def bw(P:Program)(fn:Func)(env:Env)(H:Ar):Option AY:=
 match SJ P env H fn.results.toList with
 |some [v]=>some v
 |some vs=>some (.tup vs)
 |none=>none
def gU(h:NZ f g j)(t:Nat):Bi f (g.get t) (j.tmps.getD t undef):=C8 h (.tmp t)
def qi(tmps:Array Value):ResultVar->Sem Value
 | .tmp t=>pure (tmps.getD t undef)
 | .cell a t=>do loadVar t (<-asAddr (tmps.getD a undef))
def qj(b:Func)(tmps:Array Value):results b tmps=(do
  let a<-b.results.mapM (qi tmps);pure (if h:a.size=1 then a[0]else .tuple a)):=rfl
theorem oL{P:Program}{N:Nat}{X:Nat→Prop}{h:Gh}{env:Env}{H:Ar}{a:Act}{w:World}(s:St X h N env H a w): ∀(g:List ResultVar) (i:List AY),SJ P env H g=some i→
  ∃f,Sem.run P (g.mapM (qi a.tmps)) w= .ok f w/\js (cx X h H w) i f
 |[],i,hv=>by simp only[SJ,Al]at hv;subst hv;exact⟨[],rfl,rfl,λ_ _ _ h=>by cases h⟩
 |r::g,i,hv=>by
  simp only[SJ]at hv;split at hv;rename_i v l k n;simp at hv;subst hv;obtain⟨f,o,b⟩:=oL s g l n;have e: ∃c,Sem.run P (qi a.tmps r) w= .ok c w/\Bi (cx X h H w) v c:=by
   cases r with
   |tmp t=>simp only[kX,Al]at k;subst k;exact⟨_,rfl,gU s.env t⟩
   |cell x t=>obtain⟨B,y,m,p,q,hr⟩:=vi s.sim (gU s.env x) k;refine⟨m,?_,hr⟩;simp only[qi,p];simp[asAddr,q]
  obtain⟨c,z,hr⟩:=e;refine⟨c::f,?_,by simpa using b.1,?_⟩;simp_all;intro j u d C A;cases j with
  |zero=>grind
  |succ j=>exact b.2 j u d q! q!
  cases hv
theorem zz(s:St c h N g H j w)(d:bw P E g H=some e):
  ∃v,(results E j.tmps).run P w= .ok v w/\Bi (cx c h H w) e v:=by
 unfold bw at d;cases X:SJ P g H E.results.toList with
 |none=>grind
 |some l=>
  rw[X]at d;obtain⟨f,m,b⟩:=oL s _ l X;have n:Sem.run P (E.results.mapM (qi j.tmps)) w= .ok f.toArray w:=by grind[Array.mapM_eq_mapM_toList,Sem.run_map,Result.andThen_ok]
  rw[qj];simp only[Sem.run_bind,n];simp only[Result.andThen_ok,Sem.run_pure,Result.ok.injEq,and_true,exists_eq_left'];match l,b with
  |[],b=>simp at d;subst d;have:f=[]:=Eg (by simpa using b.1);subst this;exact .tup rfl λa e v i _=>by cases i
  |[v0],b=>
   simp at d;subst d;match f,b.1 with
   |[c0],_=>exact b.2 0 _ _ rfl rfl
  |v0::v1::r,b=>
   simp at d;subst d;have k:f.toArray.size≠1:=by rw[cJ,b.1];simp
   rw[dif_neg k];exact .tup (by simpa using b.1) λa e v i o=>b.2 a e v i q!
def NK(n0:Nat)(v:AY)(H:Ar)(v2:AY)(H2:Ar):Prop:=
 n0<=H2.length/\ ∀(X:Nat->Prop) (h:Gh) (w:World) (c:Value),JE X h H w->Bi (cx X h H w) v c->
  ∃h2,JE X h2 H2 w/\Bi (cx X h2 H2 w) v2 c/\(∀id,id<n0->h2.gen id=h.gen id/\h2.io id=h.io id/\h2.cap id=h.cap id)/\ ∀B,owned h2 H2 B->owned h H B
def NK.refl(v:AY)(H:Ar)(hn:N<=H.length):NK N v H v H:=⟨hn,λ_ h _ _ s r=>⟨h,s,r,λ_ _=>⟨rfl,rfl,rfl⟩,λ_ h=>h⟩⟩
def AGH(P:Program)(fn:Func)(n0:Nat)(Q:AY->Ar->Prop):Exit->Env->Ar->Prop
 | .normal,env,H| .ret,env,H=> ∃v v2 H2,bw P fn env H=some v/\NK n0 v H v2 H2/\Q v2 H2
 |_,_,_=>False
def env0:Nat->List AY->Env
 |_,[]=>[]
 |i,v::r=>(i,v)::env0 (i+1) r
theorem pe{t:Nat}{v:AY}: ∀{i:Nat} {l:List AY},(t,v)∈env0 i l->i<=t/\l[t-i]? =some v
 |i,u::r,h=>by simp only[env0,A3]at h;rcases h with⟨rfl,rfl⟩|h;simp;obtain⟨a,b⟩:=pe h;grind
theorem jT{y:Option (List Deferred)}(b:w.heap[N]? =some (.deferred k))(B a:Nat):(w.putObj N (.deferred y)).cell? ⟨B,a,none⟩=w.cell? ⟨B,a,none⟩:=by grind[World.cell?,World.putObj_heap_same,World.putObj_heap_other]
def JE.shut(s:JE c h H w){x y:Option (List Deferred)}(J:w.heap[N]? =some (.deferred x)):
  (cx c h H w).Later (cx c h H (w.putObj N (.deferred y)))/\JE c h H (w.putObj N (.deferred y)):=by
 have C:(cx c h H w).Later (cx c h H (w.putObj N (.deferred y))):=⟨by simp[cx],λB _ _ G=>jT J B G,λ_ _ h=>h,Ai _,λ_ _=>Ai _,λ_ _ _=>⟨rfl,rfl⟩⟩
 have d: ∀{B:Nat} {o:Obj},w.heap[B]? =some o->(∀z,o≠ .deferred z)->(w.putObj N (.deferred y)).heap[B]? =some o:=by intro B o a F;by_cases i:B=N;subst i;rw[J]at a;injection a with e;exact(F x e.symm).elim;rw[World.putObj_heap_other i,a]
 refine⟨C,λB a=>⟨by simpa using(s.out B a).1,(s.out B a).2⟩,λid g K l=>?_,λid L l=>?_,s.inj,s.bldKeep λid e l _=>⟨l,rfl,rfl,rfl,λB o _ a F=>(d a F).trans a.symm⟩⟩;obtain⟨A,n⟩:=s.live id g K l;refine⟨A,?_⟩;rcases n with⟨hn,rfl⟩|⟨B,p,T,M,f,D,q,k,E,u,b⟩;exact .inl ⟨hn,rfl⟩;refine .inr ⟨B,p,T,M,f,D,d q (λz=>k!),k,E,u,λj v U=>?_⟩;obtain⟨V,W,Y⟩:=b j v U;exact⟨V,W,Y.later C⟩;obtain⟨A,B,r,D,q,X,O,P,Q,R,S,I⟩:=s.lp id L l;exact⟨A,B,r,D,d q (λz=>k!),X,O,P,Q,R,S,λt v m=>⟨(I t v m).1,(I t v m).2.later C⟩⟩
theorem HP.shut(x:HP h H w I J A){y z:Option (List Deferred)}(d:w.heap.size<=N)(e:A.heap[N]? =some (.deferred z)):HP h H w I J (A.putObj N (.deferred y))where
 os:=x.os
 tape:=x.tape
 output:=x.output
 size:=by simpa using x.size
 keep B hB hn:=by rw[World.putObj_heap_other o!];exact x.keep B hB hn
 n:=x.n
 gen:=x.gen
 same:=x.same
 fresh:=x.fresh
 loops B r hB:=by obtain⟨f,I⟩:=x.loops B r hB;grind[World.putObj_heap_other]
def eQ{P:Program}{A:Func}{N:Nat}{X:Nat→Prop}{g h:Gh}{H b p:Ar}{z:World}{v t:AY}{f:Env}{a:Act}{Q:AY→Ar→Prop}(o:bw P A f b=some v)(j:NK H.length v b t p)(B:Q t p):
  ∀(i:List Deferred) (w:World),i.Nodup->(∀d∈i,∃D,d={target:=.collected D,args:= #[]}/\z.heap.size<=D/\w.heap[D]? =some (.deferred (some [])))->
   St X h N f b a w->HP g H z h b w->
   LeavesInM Fence.wide 0 P A a.tmps (λe u=> ∃c v h b,e= .returned c/\Q v b/\JE X h b u/\Bi (cx X h b u) v c/\HP g H z h b u) i .returning w
 |[],w,_,_,s,x=>by obtain⟨c,m,l⟩:=zz s o;obtain⟨J,n,r,I,K⟩:=j.2 X h w c s.sim l;exact⟨c,m,c,t,J,p,rfl,B,n,r,GC.ext rfl j.1 I K x⟩
 |d::i,w,hnd,hds,s,x=>by obtain⟨D,rfl,G,q⟩:=hds d k!;simp only[GN]at hnd;refine⟨k!,.inl ⟨D,_,rfl,run_takeDeferred q,?_⟩⟩;have C:=s.sim.shut (y:=none) q;refine eQ o j B i _ hnd.2 (λF k=>?_) ⟨C.2,s.env.later C.1,s.size⟩ (x.shut G q);obtain⟨E,rfl,o,j⟩:=hds F (CV _ k);refine⟨E,rfl,o,?_⟩;rw[World.putObj_heap_other,j];rintro rfl;exact hnd.1 k
theorem J6(c:P.funcs[z]? =some E)(C:E.body=some q)(hn:d.length≤E.ntmps)
  (I:Mf P E.ntmps q (env0 0 d) H (AGH P E H.length t)):Ee P z d H t:=by
 intro X g w a s M hr;have D:NZ (cx X g H w) (env0 0 d) {tmps:=a++Array.replicate (E.ntmps-a.size) undef,defers:=[]}:=by
  intro b v m;obtain⟨_,N⟩:=pe m;have G:b<d.length:=q!
  have L:a[b]? =some (a[b]' o!):=O5 o!;have:(a++Array.replicate (E.ntmps-a.size) undef).getD b undef=a[b]' o!:=by simp_all[aA]
  grind
 refine(callsIn_wide (n:=0)).1 (callsIn_of_wp_marks c C trivial (wpIn_mono (I none X g {tmps:=a++Array.replicate (E.ntmps-a.size) undef,defers:=[]} w ⟨s,D,w!⟩ (λl e=>by cases e)) ?_));rintro e Q i ⟨u,j,F,O,J,K,A,B,y,x⟩;have k: ∀v h f,bw P E j F=some v->NK H.length v F h f->t h f->LeavesInM Fence.wide 0 P E Q.tmps (λe i=> ∃q v u F,e= .returned q/\t v F/\JE X u F i/\Bi (cx X u F i) v q/\HP g H w u F i) Q.defers .returning i:=by intro v h f o p r;rw[B,Dr];exact eQ o p r A i y x J K
 cases e with
 |normal=>obtain⟨v,h,f,o,p,r⟩:=O;exact k v h f o p r
 |ret=>obtain⟨v,h,f,o,p,r⟩:=O;exact k v h f o p r
 |_=>exact O.elim
def Enters(P:Program)(F:FuncId):Bool:=
 match P.funcs[F]? with
 |some fn=>fn.body.isSome&& !(fn.name== "runtime.NumGoroutine")
 |none=>false
def Wd(h:Enters P z=true)(args:Array Value)(w:World):(callFunc z args).run P w= .ok (.enter z args) w:=by unfold Enters at h;split at h;rename_i a c;unfold callFunc;cases b:a.body<;>simp_all;cases h
def Eo.ren(ρ:Nat->Nat):Eo->Eo
 | .dead=>.dead
 | .live g cs=>.live g (AY.renL ρ cs)
 | .lp L=>.lp {L with env:=L.env.map λp=>(p.1,p.2.ren ρ)}
 | .bld T e row l=>.bld T e (ρ row) l
 | .brow o=>.brow (ρ o)
 | .mp k es=>.mp k es
 | .it n s=>.it n s
def Eo.idsAll(p:Nat->Bool):Eo->Bool
 | .dead=>true
 | .live _ cs=>AY.idsAllL p cs
 | .lp L=>L.env.all λq=>q.2.idsAll p
 | .bld _ _ row _=>p row
 | .brow o=>p o
 | .mp _ _=>true
 | .it _ _=>true
def YS(H:Ar)(bs:List Nat):Ar:=bs.map λb=>(H.getD b .dead).ren (bs.idxOf ·)
def Nd(H:Ar)(bs:List Nat)(j:Nat):Nat:=if j<bs.length then bs.getD j 0 else H.length+(j-bs.length)
def Z4(ρ:Nat->Nat):Ar->List Nat->Ar->Ar
 |H,b::bs,e::es=>Z4 ρ (H.set b (e.ren ρ)) bs es
 |H,_,_=>H
def Se(H:Ar)(bs:List Nat)(Hc:Ar):Ar:=Z4 (Nd H bs) H bs Hc++(Hc.drop bs.length).map (Eo.ren (Nd H bs))
def R7(c:Nat->Nat): ∀(bs:List Nat) (H a:Ar),(Z4 c H bs a).length=H.length
 |[],H,a=>by cases a<;>rfl
 |b::bs,H,[]=>rfl
 |b::bs,H,e::es=>by simp only[Z4];rw[R7 c bs];simp
def eV(c:Nat->Nat){id:Nat}: ∀(bs:List Nat) (H a:Ar),id∉bs->(Z4 c H bs a)[id]? =H[id]?
 |[],H,a,_=>by cases a<;>rfl
 |b::bs,H,[],_=>rfl
 |b::bs,H,e::es,h=>by simp only[A3,not_or]at h;simp only[Z4];rw[eV c bs _ _ h.2,EA (λe=>h.1 e.symm)]
def s9(a:Nat->Nat): ∀(bs:List Nat) (H c:Ar) (j b:Nat),bs.Nodup->bs[j]? =some b->b<H.length->bs.length<=c.length->(Z4 a H bs c)[b]? =(c[j]?).map (Eo.ren a)
 |[],_,_,_,_,_,hj,_,_=>by simp at hj
 |b0::bs,H,[],_,_,_,_,_,hl=>by simp at hl
 |b0::bs,H,e::es,j,b,hnd,hj,hb,hl=>by
  simp only[GN]at hnd;simp only[Z4];cases j with
  |zero=>simp at hj;subst hj;rw[eV a bs _ _ hnd.1];simp[hb]
  |succ j=>simp at hj;rw[s9 a bs _ es j b hnd.2 hj (by simpa using hb) (by simpa using hl)];simp
theorem gu(h:N∈p):p.idxOf N<p.length:=List.idxOf_lt_length_of_mem h
theorem Xh(h:N∈p):p[p.idxOf N]? =some N:=q!
theorem bo(a:p.Nodup)(h:p[N]? =some s):p.idxOf s=N:=q!
section
variable {X:Nat->Prop} {h:Gh} {H:Ar} {w:World} {bs:List Nat}
mutual
theorem oA: ∀v:AY,v.idsAll (λ_=>true)=true
 | .itp _ _=>rfl
 | .ptr _ _ _=>rfl
 | .sl _ _ _ _ _=>rfl
 | .yf _=>rfl
 | .mp _=>rfl
 | .vptr c=>O1 c
 | .vs _ d=>O1 d
 | .fn _ a b=>by simp only[AY.idsAll,O1 a,O1 b,Sm]
 | .agg c=>O1 c
 | .tup c=>O1 c
 | .bool _| .int _ _| .str _| .nilp| .nils| .nilf| .any=>rfl
theorem O1: ∀l:List AY,AY.idsAllL (λ_=>true) l=true
 |[]=>rfl
 |v::r=>by simp only[AY.idsAllL,oA v,O1 r,Sm]
end
def Xs(X:Nat->Prop)(h:Gh)(H:Ar)(bs:List Nat)(B:Nat):Prop:=X B\/ ∃id e,id∉bs/\H[id]? =some e/\e≠Eo.dead/\h.io id=some B
def VI(h:Gh)(bs:List Nat):Gh:=⟨λj=>(bs[j]?).bind h.io,λj=>((bs[j]?).map h.gen).getD 0,λj=>((bs[j]?).map h.cap).getD 0⟩
def wE:l.ren v= .dead↔l= .dead:=by cases l<;>simp[Eo.ren]
theorem eY(d:(YS H bs)[N]? =some l)(c:l≠ .dead): ∃b a,bs[N]? =some b/\H[b]? =some a/\a≠ .dead/\l=a.ren (bs.idxOf ·):=by grind[YS,Eo.ren]
theorem AB5(e:(YS H bs)[N]? =some (Eo.live s d)): ∃b a,bs[N]? =some b/\H[b]? =some (Eo.live s a)/\d=AY.renL (bs.idxOf ·) a:=by obtain⟨b,j,h,f,_,i⟩:=eY e k!;cases j<;>grind[Eo.ren]
theorem bv(d:owned (VI h bs) (YS H bs) N): ∃b e,b∈bs/\H[b]? =some e/\e≠Eo.dead/\h.io b=some N:=by obtain⟨j,e,f,c,a⟩:=d;grind[eY,VI]
theorem ud(x:Nat)(c:decide (x∈bs)=true)(_:x<(cx X h H w).n):
  bs.idxOf x<(cx (Xs X h H bs) (VI h bs) (YS H bs) w).n/\(cx (Xs X h H bs) (VI h bs) (YS H bs) w).gen (bs.idxOf x)=(cx X h H w).gen x/\(cx (Xs X h H bs) (VI h bs) (YS H bs) w).io (bs.idxOf x)=(cx X h H w).io x/\(cx (Xs X h H bs) (VI h bs) (YS H bs) w).cap (bs.idxOf x)=(cx X h H w).cap x:=by
 have a:x∈bs:=q!
 have b:=Xh a;refine⟨by simpa[cx,YS]using gu a,?_,?_,?_⟩<;>simp[cx,VI,b]
def AB6(B:Nat)(a:(cx (Xs X h H bs) (VI h bs) (YS H bs) w).O B):(cx X h H w).O B:=by rcases a with(a|⟨id,e,_,d,c,f⟩)|a;exact .inl a;exact .inr ⟨id,e,d,c,f⟩;obtain⟨b,e,_,d,c,f⟩:=bv a;exact .inr ⟨b,e,d,c,f⟩
theorem Nf{w:World}(h:w.heap[N]? =some F):N<w.heap.size:=q!
theorem JE.io_at(B:JE X h H w)(c:H[N]? =some l)(x:l≠ .dead)(b:h.io N=some s):s<w.heap.size:=by
 cases l with
 |dead=>grind
 |live g t=>obtain⟨_,hn|⟨i,d,T,u,f,a,m,_⟩⟩:=B.live N g t c;rw[show(cx X h H w).io N=h.io N from rfl,b]at hn;grind;rw[show(cx X h H w).io N=h.io N from rfl,b]at a;injection a with l;subst l;exact Nf m
 |lp L=>obtain⟨_,i,r,a,m,_⟩:=B.lp N L c;rw[show(cx X h H w).io N=h.io N from rfl,b]at a;injection a with l;subst l;exact Nf m
 |bld T z y e=>obtain⟨i,p,v,q,j,_⟩:=B.bld N _ c rfl;grind[Nf]
 |brow o=>obtain⟨d,T,u,j⟩:=B.bld N _ c rfl s b;grind
 |mp k A=>obtain⟨i,d,q,_,j,_⟩:=B.bld N _ c rfl;grind[Nf]
 |it n seen=>obtain⟨i,q,_,j⟩:=B.bld N _ c rfl;grind[Nf]
def bF:(l.ren v).isB=l.isB:=by cases l<;>rfl
def BAt.ren{h h':Gh}{H H':Ar}{w w':World}{id id':Nat}{ρ:Nat→Nat}(b:BAt h H w id l)(f:h'.io id'=h.io id)(d:h'.gen id'=h.gen id)(r:h'.cap id'=h.cap id)(s: ∀B (o:Obj),h.io id=some B→w.heap[B]? =some o→w'.heap[B]? =w.heap[B]?)
  (hr: ∀T u a e,l= .bld T u a e->H'[ρ a]? =some (.brow id')->H[a]? =some (.brow id)/\h'.io (ρ a)=h.io a/\ ∀B (o:Obj),h.io a=some B->w.heap[B]? =some o->w'.heap[B]? =w.heap[B]?):BAt h' H' w' id' (l.ren ρ):=by
 cases l with
 |bld T u a e=>obtain⟨B,p,v,c,m,j,y,G,F⟩:=b;refine⟨B,p,v,f.trans c,(s B _ c m).trans m,j,d.trans y,G,λA=>?_⟩;obtain⟨z,C,K⟩:=hr T u a e rfl A;obtain⟨q1,q2⟩:=F z;refine⟨⟨q1.1,?_⟩,q2.trans C.symm⟩;rcases q1.2 with q|⟨g,cap,t,x,rfl,I,E,J⟩;exact .inl q;refine .inr ⟨g,cap,t,x,rfl,I,(K g _ ?_ E).trans E,J⟩;simpa[Value.ownBlock]using q2.symm
 |brow o=>intro B D;obtain⟨i,T,x,c⟩:=b B (f▸D);exact⟨i,T,x,(s B _ (f▸D) c).trans c⟩
 |mp k L=>obtain⟨B,i,c,m,j,y⟩:=b;exact⟨B,i,f.trans c,d.trans m,(s B _ c j).trans j,y⟩
 |it n seen=>obtain⟨B,c,m,j⟩:=b;exact⟨B,f.trans c,d.trans m,by rw[r];exact(s B _ c j).trans j⟩
 |_=>trivial
theorem JE.sub(s:JE X h H w)(U:bs.Nodup)(hb: ∀b∈bs,((H.getD b .dead).idsAll λid=>decide (id∈bs))=true):JE (Xs X h H bs) (VI h bs) (YS H bs) w where
 out B A:=by have V: ¬(∃b e,b∈bs/\H[b]? =some e/\e≠Eo.dead/\h.io b=some B)-> ¬owned (VI h bs) (YS H bs) B:=λhn ho=>hn (bv ho);rcases A with A|⟨id,e,a0,c,C,n⟩;exact⟨(s.out B A).1,V λ⟨b,e,_,c,C,n⟩=>(s.out B A).2 ⟨b,e,c,C,n⟩⟩;exact⟨s.io_at c C n,V λ⟨b,e',hm,D,K,M⟩=>a0 (s.inj id b e e' B c D C K n M▸hm)⟩
 live j g cs hj:=by
  obtain⟨b,J,a,N,rfl⟩:=AB5 hj;obtain⟨G,S⟩:=s.live b g J N;refine⟨by simpa[cx,VI,a]using G,?_⟩;rcases S with⟨hn,rfl⟩|⟨B,W,T,fz,f,F,k,R,a1,ax,x⟩;exact .inl ⟨by simpa[cx,VI,a]using hn,rfl⟩;refine .inr ⟨B,W,T,fz,f,by simpa[cx,VI,a]using F,k,by simpa[cx,VI,a]using R,by rw[OF,Ds];exact a1,ax,?_⟩;intro i v I;rw[OF,CO]at I;cases hu:J[i]? with
  |none=>rw[hu]at I;cases I
  |some u=>rw[hu]at I;simp only[Bp,Al]at I;subst I;obtain⟨c,n,D⟩:=x i u hu;refine⟨c,n,Bi.ren (p:=λid=>decide (id∈bs)) (λid=>ud id) rfl AB6 D ?_⟩;have:=hb b (BM a);grind[Md,Eo.idsAll]
 lp j L hj:=by
  obtain⟨b,Z,a,N,C,y⟩:=eY hj k!;cases Z with
  |dead=>exact(C rfl).elim
  |live g cs=>simp[Eo.ren]at y
  |bld=>simp[Eo.ren]at y
  |brow=>simp[Eo.ren]at y
  |mp=>simp[Eo.ren]at y
  |it=>simp[Eo.ren]at y
  |lp L0=>simp only[Eo.ren,Eo.lp.injEq]at y;subst y;obtain⟨G,B,r,F,k,c,n,D,M,h5,h6,h7⟩:=s.lp b L0 N;refine⟨by simpa[cx,VI,a]using G,B,r,by simpa[cx,VI,a]using F,k,c,n,D,M,h5,h6,λt v m=>?_⟩;obtain⟨q,hq,e⟩:=B0.1 m;simp only[D6]at e;obtain⟨rfl,rfl⟩:=e;refine⟨(h7 q.1 q.2 hq).1,Bi.ren (p:=λid=>decide (id∈bs)) (λid=>ud id) rfl AB6 (h7 q.1 q.2 hq).2 ?_⟩;have:=hb b (BM a);grind[Eo.idsAll,List.all_eq_true]
 inj i i' e e' B c n hn1 hn2 D M:=by obtain⟨b,c0,P,al,ap,_⟩:=eY c hn1;obtain⟨b',Y,Q,ao,ar,_⟩:=eY n hn2;have e:=s.inj b b' c0 Y B al ao ap ar (by simpa[VI,P]using D) (by simpa[VI,Q]using M);subst e;rw[<-bo U P,<-bo U Q]
 bld j e hj A:=by
  obtain⟨b,Z,a,N,C,rfl⟩:=eY hj (by rintro rfl;cases A);rw[bF]at A;refine(s.bld b Z N A).ren (by simp[VI,a]) (by simp[VI,a]) (by simp[VI,a]) (λ_ _ _ _=>rfl) λT e1 z l y hr=>?_;subst y;obtain⟨b',ad,d,O,K,E⟩:=eY hr k!;have hm:z∈bs:=by grind[List.mem_of_getElem?,Eo.idsAll]
  have G:bs[bs.idxOf z]? =some z:=by grind[List.getElem?_eq_getElem,gu]
  rw[G]at d;injection d with d;subst d;refine⟨?_,by simp[VI,G],λ_ _ _ _=>rfl⟩;cases ad with
  |brow o=>
   simp only[Eo.ren,Eo.brow.injEq]at E;have a2:o∈bs:=by have:=hb z hm;rw[Jd,O]at this;simpa[Eo.idsAll]using this
   have c:=Xh a2;rw[<-E,a]at c;injection c with c;rw[c];exact O
  |_=>simp[Eo.ren]at E
def MA(h:Gh)(H:Ar)(bs:List Nat)(hc:Gh):Gh:=
 let pick {α:Type} (f fc:Nat->α) (id:Nat):α:=if id∈bs then fc (bs.idxOf id)else if id<H.length then f id else fc (bs.length+(id-H.length))
 ⟨pick h.io hc.io,pick h.gen hc.gen,pick h.cap hc.cap⟩
def jn:(Se H bs J).length=H.length+(J.length-bs.length):=by simp[Se,R7]
def Sf(h:bs.Nodup)(k:bs.length≤J.length)(a:(Se H bs J)[N]? =some l):
  (N∉bs/\N<H.length/\H[N]? =some l)\/ ∃j f,N=Nd H bs j/\J[j]? =some f/\l=f.ren (Nd H bs):=by
 unfold Se at a;rcases Aq N H.length with b|b;rw[CK (by rw[R7];exact b)]at a;by_cases g:N∈bs;have i:=Xh g;rw[s9 _ bs H J _ N h i b k]at a;cases d:J[bs.idxOf N]? with
 |none=>rw[d]at a;cases a
 |some f=>rw[d]at a;simp only[Bp,Al]at a;refine .inr ⟨bs.idxOf N,f,?_,d,a.symm⟩;unfold Nd;rw[if_pos (gu g),Jd,i];rfl
 rw[eV _ bs H J g]at a;exact .inl ⟨g,b,a⟩;rw[Cb (by rw[R7];exact b),R7,CO,L6]at a;cases d:J[bs.length+(N-H.length)]? with
 |none=>rw[d]at a;cases a
 |some f=>rw[d]at a;simp only[Bp,Al]at a;refine .inr ⟨_,f,?_,d,a.symm⟩;unfold Nd;rw[if_neg o!];omega
theorem W6{hc:Gh}(f:bs.Nodup)(a: ∀b∈bs,b<H.length)(j:Nat)(g:j<J.length):
  Nd H bs j<(Se H bs J).length/\(MA h H bs hc).gen (Nd H bs j)=hc.gen j/\(MA h H bs hc).io (Nd H bs j)=hc.io j/\(MA h H bs hc).cap (Nd H bs j)=hc.cap j:=by
 rw[jn];unfold Nd;split;grind[MA];have c:H.length+(j-bs.length)∉bs:=λc=>by have:=a _ c;omega
 have e:bs.length+(H.length+(j-bs.length)-H.length)=j:=o!
 simp only[MA,c,if_false,show¬(H.length+(j-bs.length)<H.length)from by omega,e,and_true];omega
theorem kV(c:bs.Nodup)(k: ∀b∈bs,b<H.length)(r:bs.length≤J.length)(s:owned (MA h H bs I) (Se H bs J) N):
  (∃id e,id∉bs/\H[id]? =some e/\e≠Eo.dead/\h.io id=some N)\/owned I J N:=by
 obtain⟨id,e,o,l,a⟩:=s;rcases Sf c r o with⟨u,p,t⟩|⟨j,m,rfl,q,d⟩;grind[MA];have i:j<J.length:=q!
 rw[(W6 (h:=h) (hc:=I) c k j i).2.2.1]at a;exact .inr ⟨j,m,q,λn=>l (d.trans (wE.2 n)),a⟩
theorem HP.back(l:bs.Nodup)(k: ∀b∈bs,b<H.length)(x:HP (VI h bs) (YS H bs) w I J A):HP h H w (MA h H bs I) (Se H bs J) A:=by
 have r:bs.length<=J.length:=by have:=x.n;simpa[YS]using this
 refine⟨x.os,x.tape,x.output,x.size,λB p hn=>x.keep B p λa=>?_,?_,?_,?_,?_,x.loops⟩;obtain⟨b,e,_,g,f,i⟩:=bv a;exact hn ⟨b,e,g,f,i⟩;rw[jn];omega;intro id c;by_cases d:id∈bs;have q:=Xh d;have:=x.gen (bs.idxOf id) (by simpa[YS]using gu d);grind[MA,VI];simp[MA,d,c];intro id c;by_cases d:id∈bs;have q:=Xh d;have:=x.same (bs.idxOf id) (by simpa[YS]using gu d);grind[MA,VI];simp[MA,d,c];intro B a;rcases kV l k r a with⟨id,e,_,g,f,i⟩|a;exact .inl ⟨id,e,g,f,i⟩;rcases x.fresh B a with a|a;obtain⟨b,e,_,g,f,i⟩:=bv a;exact .inl ⟨b,e,g,f,i⟩;grind
def Bi.back(g:bs.Nodup)(f: ∀d∈bs,d<H.length)(l:bs.length≤J.length)
  (r:Bi (cx (Xs X h H bs) I J w) e b):Bi (cx X (MA h H bs I) (Se H bs J) w) (e.ren (Nd H bs)) b:=by
 refine Bi.ren (x:=cx (Xs X h H bs) I J w) (y:=cx X (MA h H bs I) (Se H bs J) w) (ρ:=Nd H bs) (p:=λ_=>true) (λj _ k=>W6 (h:=h) (hc:=I) g f j k) rfl (λB a=>?_) r (oA e);rcases a with a|a;exact .inl (.inl a);rcases kV g f l a with a|a;exact .inl (.inr a);exact .inr a
theorem pK(a:bs.Nodup)(f: ∀b∈bs,b<H.length)(e:Nd H bs N=Nd H bs s):N=s:=by unfold Nd at e;split at e<;>split at e;rename_i c d;rw[Jd,At c,Jd,At d]at e;simp at e;rw[<-bo a (At c),<-bo a (At d),e];grind[List.getElem_mem];grind[List.getElem_mem];omega
theorem JE.back(s:JE X h H w)(d:bs.Nodup)(y: ∀b∈bs,b<H.length)(x:HP (VI h bs) (YS H bs) w I J A)
  (sc:JE (Xs X h H bs) I J A):JE X (MA h H bs I) (Se H bs J) A:=by
 have W:bs.length<=J.length:=by have:=x.n;simpa[YS]using this
 have xb:=HP.back (h:=h) d y x;have K: ∀{id:Nat} {e:Eo} {B:Nat} {o:Obj},id∉bs->H[id]? =some e->e≠ .dead->h.io id=some B->w.heap[B]? =some o->A.heap[B]? =some o:=by intro id e B o n O a0 c k;refine(x.keep B (Nf k) λho=>?_).trans k;obtain⟨b,e',a6,Q,h0,h4⟩:=bv ho;exact n (s.inj id b e e' B O Q a0 h0 c h4▸a6)
 have lt: ∀{j:Nat} {E:Eo},J[j]? =some E->j<J.length:=by intro j E N;rcases Aq j J.length with D|D;exact D;grind[List.getElem?_eq_none]
 refine⟨λB Y=>⟨DO (s.out B Y).1 x.size,λho=>?_⟩,λid g cs he=>?_,λid L he=>?_,λid a7 e e' B P D ar ax Q h4=>?_,λid e he Y=>?_⟩;rcases kV d y W ho with⟨id,e,_,P,h0,D⟩|ho;exact(s.out B Y).2 ⟨id,e,P,h0,D⟩;exact(sc.out B (.inl Y)).2 ho;rcases Sf d W he with⟨n,p,O⟩|⟨j,E,rfl,N,a⟩;obtain⟨hg,S⟩:=s.live id g cs O;refine⟨by simpa[cx,MA,n,p]using hg,?_⟩;rcases S with⟨hn,rfl⟩|⟨B,ad,T,fz,f,c,k,R,ap,ao,C⟩;exact .inl ⟨by simpa[cx,MA,n,p]using hn,rfl⟩;refine .inr ⟨B,ad,T,fz,f,by simpa[cx,MA,n,p]using c,K n O k! c k,by simpa[cx,MA,n,p]using R,ap,ao,λi v Z=>?_⟩;obtain⟨P,D,Q⟩:=C i v Z;exact⟨P,D,Q.later (xb.later X)⟩;cases E with
 |dead=>simp[Eo.ren]at a
 |lp L=>simp[Eo.ren]at a
 |bld=>simp[Eo.ren]at a
 |brow=>simp[Eo.ren]at a
 |mp=>simp[Eo.ren]at a
 |it=>simp[Eo.ren]at a
 |live g0 al=>
  simp only[Eo.ren,Eo.live.injEq]at a;obtain⟨rfl,rfl⟩:=a;obtain⟨_,r1,r2,r3⟩:=W6 (h:=h) (hc:=I) d y j (lt N);obtain⟨hg,S⟩:=sc.live j g al N;refine⟨r1.trans hg,?_⟩;rcases S with⟨hn,rfl⟩|⟨B,ad,T,fz,f,c,k,R,ap,ao,C⟩;exact .inl ⟨r2.trans hn,rfl⟩;refine .inr ⟨B,ad,T,fz,f,r2.trans c,k,R.trans r3.symm,by rw[OF,Ds];exact ap,ao,λi v Z=>?_⟩;rw[OF,CO]at Z;cases hu:al[i]? with
  |none=>rw[hu]at Z;cases Z
  |some u=>rw[hu]at Z;simp only[Bp,Al]at Z;subst Z;obtain⟨P,D,Q⟩:=C i u hu;exact⟨P,D,Bi.back d y W Q⟩
 rcases Sf d W he with⟨n,p,O⟩|⟨j,E,rfl,N,a⟩;obtain⟨hg,B,r,c,k,P,D,Q,h4,h5,h6,h7⟩:=s.lp id L O;exact⟨by simpa[cx,MA,n,p]using hg,B,r,by simpa[cx,MA,n,p]using c,K n O k! c k,P,D,Q,h4,h5,h6,λt v m=>⟨(h7 t v m).1,(h7 t v m).2.later (xb.later X)⟩⟩;cases E with
 |dead=>simp[Eo.ren]at a
 |live g0 al=>simp[Eo.ren]at a
 |bld=>simp[Eo.ren]at a
 |brow=>simp[Eo.ren]at a
 |mp=>simp[Eo.ren]at a
 |it=>simp[Eo.ren]at a
 |lp L0=>simp only[Eo.ren,Eo.lp.injEq]at a;subst a;obtain⟨_,r1,r2,r3⟩:=W6 (h:=h) (hc:=I) d y j (lt N);obtain⟨hg,B,r,c,k,P,D,Q,h4,h5,h6,h7⟩:=sc.lp j L0 N;refine⟨r1.trans hg,B,r,r2.trans c,k,P,D,Q,h4,h5,h6,λt v m=>?_⟩;obtain⟨q,hq,e⟩:=B0.1 m;simp only[D6]at e;obtain⟨rfl,rfl⟩:=e;exact⟨(h7 q.1 q.2 hq).1,Bi.back d y W (h7 q.1 q.2 hq).2⟩
 have key: ∀{id:Nat} {e:Eo},(Se H bs J)[id]? =some e→e≠ .dead→(MA h H bs I).io id=some B→
   (id∉bs/\H[id]? =some e/\h.io id=some B)\/ ∃j E,id=Nd H bs j/\J[j]? =some E/\E≠ .dead/\I.io j=some B:=by
  intro id e he a0 c;rcases Sf d W he with⟨n,p,O⟩|⟨j,E,rfl,N,a⟩;exact .inl ⟨n,O,by simpa[MA,n,p]using c⟩;exact .inr ⟨j,E,rfl,N,λh0=>a0 (a.trans (wE.2 h0)),by rw[<-(W6 (h:=h) (hc:=I) d y j (lt N)).2.2.1];exact c⟩
 rcases key P ar Q with⟨m1,a1,b1⟩|⟨j1,g1,e1,a1,d1,b1⟩<;>rcases key D ax h4 with⟨m2,a2,b2⟩|⟨j2,g2,e2,a2,d2,b2⟩;exact s.inj _ _ _ _ B a1 a2 ar ax b1 b2;exact((sc.out B (.inr ⟨_,_,m1,a1,ar,b1⟩)).2 ⟨j2,g2,a2,d2,b2⟩).elim;exact((sc.out B (.inr ⟨_,_,m2,a2,ax,b2⟩)).2 ⟨j1,g1,a1,d1,b1⟩).elim;rw[e1,e2,sc.inj _ _ _ _ B a1 a2 d1 d2 b1 b2];rcases Sf d W he with⟨n,p,O⟩|⟨j,E,rfl,N,rfl⟩;have b:=s.bld id e O Y;have a:e.ren (λx=>x)=e:=by cases e<;>simp_all[Eo.ren,Eo.isB]
 have:=b.ren (h':=MA h H bs I) (H':=Se H bs J) (w':=A) (id':=id) (ρ:=λx=>x) (by simp[MA,n,p]) (by simp[MA,n,p]) (by simp[MA,n,p]) (λB o c hb=>(K n O (by rintro rfl;cases Y) c hb).trans hb.symm) λT e1 a3 l a4 hr=>?_;rwa [a]at this;rcases Sf d W hr with⟨F,V,M⟩|⟨j,E,rfl,N,z⟩;exact⟨M,by simp[MA,F,V],λB o c hb=>(K F M k! c hb).trans hb.symm⟩;exfalso;cases E with
 |brow o=>simp only[Eo.ren,Eo.brow.injEq]at z;unfold Nd at z;split at z;rename_i ho;exact n (by rw[z,Jd,At ho];simp);omega
 |_=>simp[Eo.ren]at z
 rw[bF]at Y;obtain⟨_,r1,r2,r3⟩:=W6 (h:=h) (hc:=I) d y j (lt N);refine(sc.bld j E N Y).ren r2 r1 r3 (λ_ _ _ _=>rfl) λT e1 a3 l a4 hr=>?_;rcases Sf d W hr with⟨F,V,M⟩|⟨j2,e2,a5,M,G⟩;exfalso;unfold Nd at F V;split at F;rename_i U;rw[Jd,At U]at F;exact F k!;rename_i U;rw[if_neg U]at V;omega;have:=pK d y a5;subst this;have a8:=(W6 (h:=h) (hc:=I) d y a3 (lt M)).2.2.1;refine⟨?_,a8,λ_ _ _ _=>rfl⟩;cases e2 with
 |brow o=>simp only[Eo.ren,Eo.brow.injEq]at G;rw[M,pK d y G]
 |_=>simp[Eo.ren]at G
end
def lK(env:Env)(c:Call)(first caps:List AY):List AY:=first++c.args.toList.map (BH env)++caps
def fI(P:Program)(s f:Nat):Option (Nat×TypeId×Nat):=
 match P.underlying s with
 |some (.struct fs)=>
  match fs[f]? with
  |some fd=>
   match tI P fd.type with
   |some (_,n)=>some (fd.offset,fd.type,n)
   |none=>none
  |none=>none
 |_=>none
def eI(P:Program)(t:TypeId):Option (Option Nat×TypeId×Nat):=
 match P.underlying t with
 |some (.array len e)=>(tI P e).map λi=>(some len,e,i.2)
 |some (.slice e)=>(tI P e).map λi=>(none,e,i.2)
 |_=>none
inductive Kd where
 |bool|int (k:IntKind)|str|bytes|other
 deriving DecidableEq
def kd(P:Program)(t:TypeId):Kd:=
 match P.underlying t with
 |some .bool=>.bool
 |some (.int k)=>.int k
 |some .string=>.str
 |some (.slice e)=>match P.underlying e with|some (.int .u8)=>.bytes|_=>.other
 |_=>.other
def Sg(H:Ar)(id g:Nat):Bool:=
 match H[id]? with
 |some (.live g' _)=>g'==g
 |_=>false
def JE.cur{w:World}(g:JE X h H w)(a:Sg H N s=true):h.gen N=s:=by unfold Sg at a;split at a;rename_i c b d;have:=(g.live N c b d).1;simp at a;exact this.trans a;cases a
def shift(H:Ar)(k:Nat):AY->Option AY
 | .ptr id g off=>if Sg H id g then some (.ptr id g (off+k))else none
 | .vptr cs=>if k<=cs.length then some (.vptr (cs.drop k))else none
 |_=>none
theorem tB(s:JE c h H w)(r:Bi (cx c h H w) e b)(k:shift H N e=some n):
  ∃B a,b= .pointer (some ⟨B,a,none⟩)/\Bi (cx c h H w) n (.pointer (some ((⟨B,a,none⟩:Addr).add N))):=by
 cases r with
 | @ptr id g a b X o t l=>simp only[shift]at k;split at k;rename_i d;simp at k;subst k;obtain⟨B,i,rfl⟩:=l (s.cur d);refine⟨B,a,rfl,.ptr X o rfl λ_=>⟨B,i,by rw[OQ]⟩⟩;cases k
 | @vptr q B a f v m l x=>simp only[shift]at k;split at k;simp at k;subst k;refine⟨B,a,rfl,?_⟩;rw[OQ];refine .vptr (λj=>f (N+j)) v m (λj e p=>?_) λj e p=>?_;grind;grind;cases k
 |_=>grind[shift]
def U8(P:Program)(H:Ar)(s f:Nat)(v:AY):Option AY:=
 match fI P s f with
 |some (off,_,n)=>if n=0 then none else shift H off v
 |none=>none
def rK(sim:JE c h H w)(r:Bi (cx c h H w) e b)(d:U8 P H s N e=some n):
  ∃i,(Instr.fieldAt s b N).run P w= .ok i w/\Bi (cx c h H w) n i:=by
 unfold U8 at d;split at d;rename_i k t v a;split at d;cases d;rename_i hn;obtain⟨B,o,rfl,hr⟩:=tB sim r d;unfold fI at a;split at a;rename_i p g;split at a;rename_i l X;split at a;rename_i f m j;obtain⟨rfl,rfl,rfl⟩:=a;refine⟨_,?_,hr⟩;simp[Instr.fieldAt,run_underlying g,X,Instr.sureAddr,fieldPlace,K5 j,hn];cases a;cases a;cases a;cases d
def VE(P:Program)(H:Ar)(t:TypeId)(v:AY)(i:AY):Option AY:=
 match eI P t,i with
 |some (some len,_,sz),.int _ i=>if 0<=i/\i<len then shift H (i.toNat*sz) v else none
 |some (none,_,sz),.int _ i=>
  match v with
  | .vs sz' rows=>if 0<=i/\sz=sz' then(rows[i.toNat]?).map λe=>.vptr e.cells else none
  | .sl id g sz' off len=>if 0<=i/\i<len/\sz=sz'/\Sg H id g=true then some (.ptr id g (off+i.toNat*sz))else none
  |_=>none
 |_,_=>none
theorem rQ(sim:JE c h H w)(r:Bi (cx c h H w) e b)(T:Bi (cx c h H w) n B)
  (l:VE P H a e n=some D): ∃O,(Instr.indexAt a b B).run P w= .ok O w/\Bi (cx c h H w) D O:=by
 unfold VE at l;split at l;rename_i len t sz k Q i;cases T;split at l;rename_i A;obtain⟨X,o,rfl,hr⟩:=tB sim r l;unfold eI at i;split at i;rename_i F y d;cases m:tI P y with
 |none=>rw[m]at i;cases i
 |some p=>rw[m]at i;simp only[Bp,Al,D6]at i;obtain⟨rfl,rfl,rfl⟩:=i;refine⟨_,?_,hr⟩;simp[Instr.indexAt,asIntOf,run_underlying d,Instr.sureAddr,A,K5 m]
 rename_i y d;cases m:tI P y<;>grind;cases i;cases l;rename_i t sz k Q i;cases T;have d: ∃n,P.underlying a=some (.slice t)/\tI P t=some n/\n.2=sz:=by
  unfold eI at i;split at i;rename_i F y d;cases m:tI P y with
  |none=>rw[m]at i;cases i
  |some p=>rw[m]at i;simp at i
  rename_i y d;cases m:tI P y with
  |none=>rw[m]at i;cases i
  |some p=>rw[m]at i;simp only[Bp,Al,D6]at i;obtain⟨_,rfl,rfl⟩:=i;exact⟨p,d,m,rfl⟩
  cases i
 obtain⟨p,d,m,rfl⟩:=d;cases r with
 | @vs N q v cap f C Y S W Z=>
  simp only at l;split at l;rename_i A;obtain⟨G,rfl⟩:=A;cases x:q[Q.toNat]? with
  |none=>rw[x]at l;cases l
  |some R=>
   rw[x]at l;simp only[Bp,Al]at l;subst l;have s:Q.toNat<q.length:=by rcases Aq Q.toNat q.length with I|I;exact I;rw[Cj I]at x;cases x
   obtain⟨X,z,rfl,V,U,J⟩:=W (by intro t;rw[t]at s;simp at s);refine⟨.pointer (some ⟨X,z+Q.toNat*p.2,none⟩),?_,.vptr (λj=>f Q.toNat j) V U (λj e M=>?_) λj e M=>Z _ R _ e x M⟩;have E:Q<q.length:=o!
   simp[Instr.indexAt,asIntOf,run_underlying d,G,E,K5 m,OQ];have:=J _ R j e x M;rw[cM];exact this
  cases l
 | @sl id g N z len b K x h1 J=>simp only at l;split at l;rename_i A;obtain⟨G,s,rfl,u⟩:=A;simp only[Al]at l;subst l;rcases J (sim.cur u)with⟨_,hl,_,_⟩|⟨X,cap,L,C,_,rfl⟩;omega;refine⟨.pointer (some ⟨X,z+Q.toNat*p.2,none⟩),?_,.ptr K x rfl λ_=>⟨X,L,rfl⟩⟩;simp[Instr.indexAt,asIntOf,run_underlying d,G,s,K5 m,OQ];cases l
 |_=>cases l
 cases l
def qZ(P:Program)(t:TypeId)(cs:List AY)(off:Nat):Option AY:=
 match tI P t with
 |some (true,n)=>if off+n<=cs.length then some (.agg ((cs.drop off).take n))else none
 |some (false,_)=>cs[off]?
 |none=>none
theorem vv{P:Program}{w:World}(l:i.size=d.length)(o: ∀(j:Nat) (c:Value),i[j]? =some c→c.oneCell'=true)
  (m: ∀(j:Nat) (v:AY) (c:Value),d[j]? =some v->i[j]? =some c->Bi f v c) (x:qZ P a d N=some e): ∃c,(part a i N).run P w= .ok c w/\Bi f e c:=by
 unfold qZ at x;split at x;rename_i n b;split at x;rename_i t;simp at x;subst x;refine⟨.agg (i.extract N (N+n)),by simp[part,Wm b,K5 b],.agg w! (λj c h=>?_) λj v c h g=>?_⟩;grind[Array.getElem?_extract];grind;cases x;rename_i n b;have k:N<d.length:=q!
 have g:i[N]? =some (i[N]' o!):=O5 o!;exact⟨_,by simp[part,Wm b,g],m N e _ x g⟩;cases x
def ph(P:Program)(s f:Nat)(v:AY):Option AY:=
 match fI P s f,v with
 |some (off,t,_),.agg cs=>qZ P t cs off
 |_,_=>none
def zW(r:Bi f e b)(d:ph P s N e=some n): ∃v,(Instr.field s b N).run P w= .ok v w/\Bi f n v:=by
 unfold ph at d;split at d;rename_i o t u i a;cases r with
 | @agg i j g k m=>obtain⟨v,l,hr⟩:=vv (P:=P) (w:=w) g k m d;unfold fI at a;split at a;rename_i q h;split at a;rename_i p x;split at a;simp at a;obtain⟨rfl,rfl,rfl⟩:=a;exact⟨v,by simp[Instr.field,run_underlying h,x,asAgg,l],hr⟩;cases a;cases a;cases a
 cases d
def gx(P:Program)(t:TypeId)(v i:AY):Option AY:=
 match v,i with
 | .agg cs,.int _ i=>
  match eI P t with
  |some (some len,e,sz)=>if 0<=i/\i<len then qZ P e cs (i.toNat*sz)else none
  |_=>none
 | .str s,.int _ i=>if kd P t= .str/\0<=i then(s[i.toNat]?).map λb=>.int .u8 b.toNat else none
 |_,_=>none
theorem qH{P:Program}(h:kd P a= .str):P.underlying a=some .string:=by unfold kd at h;grind
theorem AEv(h:kd P a= .int y):P.underlying a=some (.int y):=by unfold kd at h;grind
theorem zb(r:Bi f e b)(x:Bi f n B)(v:gx P a e n=some D): ∃c,(Instr.index a b B).run P w= .ok c w/\Bi f D c:=by
 unfold gx at v;split at v;rename_i C k q;cases x;split at v;rename_i len t sz d;split at v;rename_i g;cases r with
 | @agg C u m F J=>
  obtain⟨c,G,hr⟩:=vv (P:=P) (w:=w) m F J v;unfold eI at d;split at d;rename_i A E o;cases z:tI P E with
  |none=>grind
  |some p=>rw[z]at d;simp only[Bp,Al,D6]at d;obtain⟨rfl,rfl,rfl⟩:=d;exact⟨c,by simp[Instr.index,asIntOf,run_underlying o,g,K5 z,G],hr⟩
  simp_all;cases d
 cases v;cases v;rename_i s k q;cases x;cases r with
 | @str s h I=>
  split at v;rename_i g;subst I;cases y:h.data.toList[q.toNat]? with
  |none=>grind
  |some i=>
   rw[y]at v;simp only[Bp,Al]at v;subst v;have j:h[q.toNat]? =some i:=by
    obtain⟨H,d⟩:=U1.1 y;have l:q.toNat<h.size:=by simpa using H
    rw[getElem?_pos h q.toNat l];exact congrArg some d
   exact⟨.int .u8 i.toNat,by simp[Instr.index,asIntOf,run_underlying (qH g.1),g.2,j],.int _ _⟩
  cases v
 cases v
def AAD(P:Program)(g:TypeId->Option (List Kd)):List Field->Nat->Option (List Kd)
 |[],_=>some []
 |f::r,off=>
  if f.offset=off/\(f.name== "_")=false then
   match g f.type with
   |some ks=>if ks.length=P.cellsOf f.type then(AAD P g r (off+ks.length)).map (ks++ ·)else none
   |none=>none
  else none
def tT(P:Program):Nat->TypeId->Option (List Kd)
 |0,_=>none
 |d+1,t=>
  match P.underlying t with
  |some .bool=>some [.bool]
  |some (.int k)=>some [.int k]
  |some .string=>some [.str]
  |some (.array n e)=>
   match tT P d e with
   |some ks=>if ks.length=P.cellsOf e/\(P.info? e).isSome then some (List.replicate n ks).flatten else none
   |none=>none
  |some (.struct fs)=>if P.stoodInHeld t then none else AAD P (tT P d) fs.toList 0
  |_=>none
def xB:Kd->AY->Bool
 | .bool,.bool _=>true
 | .int k,.int k' _=>decide (k=k')
 | .str,.str _=>true
 |_,_=>false
def typed:List Kd->List AY->Bool
 |[],[]=>true
 |k::ks,v::vs=>xB k v&&typed ks vs
 |_,_=>false
def sEq:AY->AY->Bool
 | .bool a,.bool b=>a==b
 | .int _ a,.int _ b=>a==b
 | .str a,.str b=>a==b
 |_,_=>false
def rJ:List AY->List AY->Bool
 |[],[]=>true
 |a::as,b::bs=>sEq a b&&rJ as bs
 |_,_=>false
variable {x:List Kd}
def We{b:List Kd}: ∀{a:List AY},typed (x++b) a=true->typed x (a.take x.length)=true/\typed b (a.drop x.length)=true:=by
 induction x with
 |nil=>intro a h;exact⟨by simp[typed],by simpa using h⟩
 |cons k f e=>
  intro a h;cases a with
  |nil=>simp[typed]at h
  |cons v a=>simp only[aB,typed,BP]at h;obtain⟨c,d⟩:=e h.2;exact⟨by simp[typed,h.1,c],by simpa using d⟩
def Gm: ∀{a:List Kd} {b:List AY},typed a b=true->b.length=a.length
 |[],[],_=>rfl
 |_::_,_::_,h=>by simp only[typed,BP]at h;simp[Gm h.2]
 |[],_::_,h=>by simp[typed]at h
 |_::_,[],h=>by simp[typed]at h
def mu: ∀(n:Nat) (c bs:List AY),c.length=bs.length->rJ c bs=(rJ (c.take n) (bs.take n)&&rJ (c.drop n) (bs.drop n))
 |0,c,bs,_=>by simp[rJ]
 |n+1,[],[],_=>by simp[rJ]
 |n+1,a::c,b::bs,h=>by simp only[By,Nat.add_right_cancel_iff]at h;simp only[rJ,List.take_succ_cons,List.drop_succ_cons,mu n c bs h,Bool.and_assoc]
 |n+1,[],_::_,h=>by simp at h
 |n+1,_::_,[],h=>by simp at h
def Over(P:Program)(x:Cx)(t:TypeId)(as:List AY)(a:Value):Prop:=
 ∃(b:Bool) (n:Nat) (cs:List Value),tI P t=some (b,n)/\as.length=n/\js x as cs/\(if b then a= .agg cs.toArray else cs=[a])
def EqF(P:Program)(d:Nat)(t:TypeId)(ks:List Kd):Prop:=
 ∀(w:World) (x:Cx) (a b:Value) (as bs:List AY),Over P x t as a->Over P x t bs b->typed ks as=true->typed ks bs=true->(Op.equalIn d t a b).run P w= .ok (rJ as bs) w
def jA{P:Program}{x:List Value}{off n:Nat}{w:World}(hr:js f d x)(t:tI P a=some (r,n))(m:r=false→n=1)(o:off+n≤d.length):
  ∃h,(part a x.toArray off).run P w= .ok h w/\Over P f a ((d.drop off).take n) h:=by
 have e:js f ((d.drop off).take n) ((x.drop off).take n):=by refine⟨by simp[hr.1],λj v c g i=>?_⟩;rw[aG]at g i;split at g;rename_i k;rw[if_pos k]at i;rw[L6]at g i;exact hr.2 _ v c g i;cases g
 cases r with
 |true=>refine⟨.agg (x.toArray.extract off (off+n)),by simp[part,Wm t,K5 t],true,n,(x.drop off).take n,t,w!,e,?_⟩;simp only[if_true,Value.agg.injEq];apply Array.toList_inj.1;simp only[Array.toList_extract,rf,Ww]
 |false=>
  obtain rfl:=m rfl;have l:off<x.length:=by rw[hr.1];omega
  refine⟨x[off],by simp[part,Wm t,l],false,1,(x.drop off).take 1,t,w!,e,?_⟩;rw[if_neg k!,So l];rfl
def ke{d:Nat}(h:tT P d a=some x): ∃b,tI P a=some (b,P.cellsOf a)/\(b=false->x.length=1):=by
 cases d with
 |zero=>simp[tT]at h
 |succ d=>
  unfold tT at h;unfold tI Program.cellsOf;cases f:P.info? a with
  |none=>
   have t:P.underlying a=none:=by simp[Program.underlying,f]
   rw[t]at h;cases h
  |some i=>
   cases t:P.underlying a with
   |none=>rw[t]at h;cases h
   |some c=>rw[t]at h;refine⟨_,rfl,?_⟩;cases c<;>simp_all<;>(subst h;rfl)
def wG{P:Program}{d:Nat}{g:TypeId→Option (List Kd)}(C: ∀t i,g t=some i→EqF P d t i∧ ∃b,tI P t=some (b,P.cellsOf t)∧(b=false→i.length=1)){x:Cx}{w:World}{l bs:List AY}{H I:List Value}
  (A:js x l H) (B:js x bs I) (j:l.length=bs.length): ∀(m:List Field) (h:Nat) (i:List Kd),AAD P g m h=some i->h<=l.length->typed i (l.drop h)=true->typed i (bs.drop h)=true->(Op.eqFields d H.toArray I.toArray m).run P w= .ok (rJ (l.drop h) (bs.drop h)) w
 |[],h,i,hk,_,ta,tb=>by simp only[AAD,Al]at hk;subst hk;have J:=Gm ta;have K:=Gm tb;rw[Eg J,Eg K];simp[Op.eqFields,rJ]
 |f::m,h,i,hk,ho,ta,tb=>by
  simp only[AAD]at hk;split at hk;rename_i L;obtain⟨rfl,k⟩:=L;split at hk;rename_i k1 u;split at hk;rename_i o;cases hr:AAD P g m (f.offset+k1.length)with
  |none=>rw[hr]at hk;cases hk
  |some N=>
   rw[hr]at hk;simp only[Bp,Al]at hk;subst hk;obtain⟨q,y⟩:=We ta;obtain⟨r,z⟩:=We tb;obtain⟨s,b,D,n⟩:=C _ _ u;have E:=Gm q;have O:=Gm r;have v:f.name≠ "_" :=by simpa using k
   obtain⟨a,Q,F⟩:=jA (P:=P) (w:=w) (off:=f.offset) A D (λe=>o▸n e) (by rw[<-o];simp at E;omega);obtain⟨c,R,G⟩:=jA (P:=P) (w:=w) (off:=f.offset) B D (λe=>o▸n e) (by rw[<-o];simp at O;omega);rw[<-o]at F G;have p:=s w x a c _ _ F G q r;have M:=wG C (w:=w) A B j m (f.offset+k1.length) N hr (by simp at E;omega) (by simpa[Nc]using y) (by simpa[Nc]using z);rw[mu k1.length _ _ (by simp[j])];simp only[Op.eqFields,if_pos v,Sem.run_bind,Q,R,p,Result.andThen_ok];cases rJ ((l.drop f.offset).take k1.length) ((bs.drop f.offset).take k1.length);simp;simp only[C3,Kf,if_false,Bool.true_and,M,Nc]
  cases hk;cases hk;cases hk
def su{P:Program}{d:Nat}{e:TypeId}{f:List Kd}(o:EqF P d e f){b:Bool}(s:tI P e=some (b,f.length))(j:b=false→f.length=1){x:Cx}{w:World}{h bs:List AY}{z A:List Value}
  (u:js x h z) (v:js x bs A) (g:h.length=bs.length): ∀(n i:Nat),i*f.length<=h.length->typed (List.replicate n f).flatten (h.drop (i*f.length))=true->typed (List.replicate n f).flatten (bs.drop (i*f.length))=true->(Op.eqItems d e f.length z.toArray A.toArray (List.range' i n)).run P w= .ok (rJ (h.drop (i*f.length)) (bs.drop (i*f.length))) w
 |0,i,_,ta,tb=>by have B:=Gm ta;have C:=Gm tb;rw[Eg (l:=h.drop _) (by simpa using B),Eg (l:=bs.drop _) (by simpa using C)];simp[Op.eqItems,rJ]
 |n+1,i,ho,ta,tb=>by
  rw[jw,mX]at ta tb;obtain⟨q,k⟩:=We ta;obtain⟨r,m⟩:=We tb;have y:=Gm q;have E:=Gm r;obtain⟨a,H,F⟩:=jA (P:=P) (w:=w) (off:=i*f.length) u s j (by simp at y;omega);obtain⟨c,I,G⟩:=jA (P:=P) (w:=w) (off:=i*f.length) v s j (by simp at E;omega);have p:=o w x a c _ _ F G q r;rw[Nc]at k m;have t:i*f.length+f.length=(i+1)*f.length:=by rw[Gt];omega
  rw[t]at k m;have D:=su o s j (w:=w) u v g n (i+1) (by simp at y;omega) k m;rw[mu f.length _ _ (by simp[g]),Nc,Nc,t];rw[List.range'_succ];simp only[Op.eqItems,Sem.run_bind,H,I,p,Result.andThen_ok];cases rJ ((h.drop (i*f.length)).take f.length) ((bs.drop (i*f.length)).take f.length);simp;simp[D]
def tU{P:Program}(d:Nat): ∀(m:Nat) (t:TypeId) (y:List Kd),tT P m t=some y->EqF P (d+m) t y
 |0,_,_,h=>by simp[tT]at h
 |m+1,t,y,h=>by
  obtain⟨bt,T,_⟩:=ke h;intro w x a b F bs X Y o p;obtain⟨O,n1,xs,c,U,ra,j⟩:=X;obtain⟨Z,n2,ys,r,V,E,l⟩:=Y;rw[c]at r;simp only[Al,D6]at r;obtain⟨rfl,rfl⟩:=r;have I:=Gm o;have J:=Gm p;have g: ∀q,P.underlying t=some q->O=(match q with| .struct _| .array _ _=>true|_=>false):=by intro q S;unfold tI at c;rw[S]at c;split at c;rename_i G;injection G with e;subst e;simp only[Al,D6]at c;exact c.1.symm;cases c
  unfold tT at h;split at h;rename_i f;simp only[Al]at h;subst h;have:=g _ f;simp only at this;subst this;simp only[Kf,if_false]at j l;subst j l;match F,I,bs,J with
  |[u],_,[v],_=>have C:=ra.2 0 u a rfl rfl;have D:=E.2 0 v b rfl rfl;simp only[typed,PL]at o p;cases u<;>simp[xB]at o;cases v<;>simp[xB]at p;cases C;cases D;rw[show d+(m+1)=(d+m)+1 from rfl,run_equalIn_bool' w (d+m) t _ _ f];simp[rJ,sEq]
  rename_i k f;simp only[Al]at h;subst h;have:=g _ f;simp only at this;subst this;simp only[Kf,if_false]at j l;subst j l;match F,I,bs,J with
  |[u],_,[v],_=>have C:=ra.2 0 u a rfl rfl;have D:=E.2 0 v b rfl rfl;simp only[typed,PL]at o p;cases u<;>simp[xB]at o;cases v<;>simp[xB]at p;cases C;cases D;subst o p;rw[show d+(m+1)=(d+m)+1 from rfl,run_equalIn_int w (d+m) t _ _ _ _ f];simp[rJ,sEq]
  rename_i f;simp only[Al]at h;subst h;have:=g _ f;simp only at this;subst this;simp only[Kf,if_false]at j l;subst j l;match F,I,bs,J with
  |[u],_,[v],_=>
   have C:=ra.2 0 u a rfl rfl;have D:=E.2 0 v b rfl rfl;simp only[typed,PL]at o p;cases u<;>simp[xB]at o;cases v<;>simp[xB]at p;cases C with
   |str s1 Q=>
    cases D with
    |str s2 R=>subst Q R;rw[show d+(m+1)=(d+m)+1 from rfl,run_equalIn_string w (d+m) t _ _ f];simp[rJ,sEq,ByteArray.toList_eq]
  rename_i n e f;split at h;rename_i k1 A;split at h;rename_i H;simp only[Al]at h;subst h;have:=g _ f;simp only at this;subst this;simp only[if_true]at j l;subst j l;obtain⟨N,s⟩:=cO.1 H.2;obtain⟨b,L,B⟩:=ke A;rw[<-H.1]at L;have i:=su (tU d m e k1 A) L B (w:=w) ra E o! n 0 k! (by simpa using o) (by simpa using p);rw[show d+(m+1)=(d+m)+1 from rfl,run_equalIn_array w (d+m) _ _ f s,<-H.1,List.range_eq_range'];simpa using i;cases h;cases h;rename_i K f;split at h;cases h;rename_i W;have:=g _ f;simp only at this;subst this;simp only[if_true]at j l;subst j l;have z:P.fieldsOf t=K:=by simp[Program.fieldsOf,f]
  have i:=wG (d:=d+m) (λt y M=>⟨tU d m t y M,ke M⟩) (w:=w) ra E o! K.toList 0 y h k! (by simpa using o) (by simpa using p);rw[show d+(m+1)=(d+m)+1 from rfl,run_equalIn_struct w (d+m) t _ _ (by rw[z];exact f) (by simpa using W),z];simpa using i;cases h
def mY(op:BinOp)(k:IntKind)(a b:Int):Option AY:=
 match op with
 | .add=>some (.int k (k.wrap (a+b)))
 | .sub=>some (.int k (k.wrap (a-b)))
 | .mul=>some (.int k (k.wrap (a*b)))
 | .quo=>if b=0 then none else some (.int k (k.wrap (a.tdiv b)))
 | .rem=>if b=0 then none else some (.int k (a.tmod b))
 | .and=>some (.int k (k.wrap (BitVec.ofInt k.bits a&&&BitVec.ofInt k.bits b).toNat))
 | .or=>some (.int k (k.wrap (BitVec.ofInt k.bits a|||BitVec.ofInt k.bits b).toNat))
 | .xor=>some (.int k (k.wrap (BitVec.ofInt k.bits a^^^BitVec.ofInt k.bits b).toNat))
 | .andNot=>some (.int k (k.wrap (BitVec.ofInt k.bits a&&& ~~~BitVec.ofInt k.bits b).toNat))
 | .eql=>some (.bool (a==b))
 | .neq=>some (.bool (a !=b))
 | .lss=>some (.bool (decide (a<b)))
 | .leq=>some (.bool (decide (a<=b)))
 | .gtr=>some (.bool (decide (a>b)))
 | .geq=>some (.bool (decide (a>=b)))
 | .shl| .shr=>none
def wg{d b:Int}(w:World)(h:mY C y d b=some e): ∃c,(binOp C a (.int y d) (.int y b)).run P w= .ok c w/\Bi f e c:=by
 cases C<;>simp only[mY]at h<;>(try split at h)<;>first
  |cases h;done
  |(simp at h;subst h;first
    |exact⟨_,by simp[binOp,Op.intArith,Op.intDiv,Op.intBits, *],.int _ _⟩
    |exact⟨_,by simp[binOp,Op.intCmp],.bool _⟩)
def iE(op:BinOp)(k:IntKind)(a b:Int):Option AY:=
 if b<0 then none else
 match op with
 | .shl=>some (.int k (k.wrap (a*2^min b.toNat k.bits)))
 | .shr=>some (.int k (a.fdiv (2^min b.toNat k.bits)))
 |_=>none
def AAm(P:Program)(t:TypeId):Option (List Kd):=
 if P.eqGuardType P.depth t then none else
 match tT P 12 t with
 |some ks=>if tI P t=some (true,ks.length)then some ks else none
 |none=>none
def tL(op:BinOp)(a b:List UInt8):Option AY:=
 match op with
 | .add=>if a.length+b.length<=9223372036854775807 then some (.str (a++b))else none
 | .eql=>some (.bool (a==b))
 | .neq=>some (.bool (a !=b))
 | .lss=>some (.bool (Op.bytesLess a b))
 | .leq=>some (.bool (Op.bytesLess a b||a==b))
 | .gtr=>some (.bool (!(Op.bytesLess a b||a==b)))
 | .geq=>some (.bool (!Op.bytesLess a b))
 |_=>none
def ux(P:Program)(op:BinOp)(t:TypeId)(x y:AY):Option AY:=
 match x,y with
 | .int k a,.int k' b=>
  match op with
  | .shl| .shr=>iE op k a b
  |_=>if k=k' then mY op k a b else none
 | .bool a,.bool b=>
  match op with
  | .eql=>if kd P t= .bool then some (.bool (a==b))else none
  | .neq=>if kd P t= .bool then some (.bool (!(a==b)))else none
  |_=>none
 | .str a,.str b=>tL op a b
 | .agg as,.agg bs=>
  match AAm P t with
  |some ks=>
   if typed ks as=true/\typed ks bs=true then
    match op with
    | .eql=>some (.bool (rJ as bs))
    | .neq=>some (.bool (!rJ as bs))
    |_=>none
   else none
  |none=>none
 |_,_=>none
theorem ya(h:kd P a= .bool):P.underlying a=some .bool:=by unfold kd at h;grind
def toList_data(t:ByteArray):t.toList=t.data.toList:=ByteArray.toList_eq t
def ACX{y:Operand}(w:World)(ra:Bi f e b)(A:Bi f n B)(h:ux P C a e n=some D):
  ∃c,(do eqGuard C a m y b B;binOp C a b B:Sem Value).run P w= .ok c w/\Bi f D c:=by
 unfold ux at h;split at h;rename_i k X T U;cases ra;cases A;have g:(eqGuard C a m y (.int k X) (.int T U)).run P w= .ok () w:=by unfold eqGuard;cases C<;>simp
 simp only[Sem.run_bind,g,Result.andThen_ok];split at h;unfold iE at h;split at h;cases h;rename_i x;simp only[Al]at h;subst h;exact⟨_,by simp[binOp,Op.shift,x],.int _ _⟩;unfold iE at h;split at h;cases h;rename_i x;simp only[Al]at h;subst h;exact⟨_,by simp[binOp,Op.shift,x],.int _ _⟩;simp_all[wg];rename_i p q;cases ra;cases A;have g:(eqGuard C a m y (.bool p) (.bool q)).run P w= .ok () w:=by unfold eqGuard;cases C<;>simp
 simp only[Sem.run_bind,g,Result.andThen_ok];split at h;split at h;rename_i I;simp only[Al]at h;subst h;exact⟨_,run_eql_bool w a p q (ya I),.bool _⟩;cases h;split at h;rename_i I;simp only[Al]at h;subst h;refine⟨_,?_,.bool _⟩;simp only[binOp];simp[run_equal_bool w a p q (ya I)];cases h;cases h
 ·rename_i s1 s2;cases ra with
  |str s L=>
   cases A with
   |str z O=>
    have g:(eqGuard C a m y (.string s) (.string z)).run P w= .ok () w:=by unfold eqGuard;cases C<;>simp
    simp only[Sem.run_bind,g,Result.andThen_ok];subst L O;unfold tL at h;split at h;split at h;rename_i S;simp only[Al]at h;subst h;have o: ¬(((s.size+z.size:Nat):Int)>IntKind.i64.max):=by
     have Z:s.data.toList.length=s.size:=k!
     have e2:z.data.toList.length=z.size:=k!
     have K:IntKind.i64.max=9223372036854775807:=g!
     rw[K];omega
    exact⟨.string (s++z),by simp only[binOp];simp only[Op.stringOp,if_neg o];rfl,.str _ k!⟩;cases h;all_goals first
     |cases h;done
     |(simp only[Al]at h
       subst h;exact⟨_,by simp only[binOp];simp[Op.stringOp,toList_data,bne],.bool _⟩)
 rename_i t bs;cases ra with
 | @agg t b V M Y=>
  cases A with
  | @agg bs B W N vb=>
   split at h;rename_i ks d;unfold AAm at d;split at d;cases d;rename_i G;split at d;rename_i J E;split at d;rename_i r;simp only[Al]at d;subst d;split at h;rename_i i;have F:=tU (P:=P) 9988 12 a J E;have Q:=Gm i.1;have R:=Gm i.2;have l:(Op.equalIn 10000 a (.agg b) (.agg B)).run P w= .ok (rJ t bs) w:=
    F w f (.agg b) (.agg B) t bs ⟨true,_,b.toList,r,o!,⟨by simpa using V,λj v c H u=>Y j v c H (by simpa using u)⟩,k!⟩
     ⟨true,_,B.toList,r,o!,⟨by simpa using W,λj v c H u=>vb j v c H (by simpa using u)⟩,k!⟩ i.1 i.2
   have g:(eqGuard C a m y (.agg b) (.agg B)).run P w= .ok () w:=run_eqGuard_agg w C a m y b B (by simpa using G);simp only[Sem.run_bind,g,Result.andThen_ok];split at h;simp only[Al]at h;subst h;exact⟨_,by rw[run_eql_struct,l];rfl,.bool _⟩;simp only[Al]at h;subst h;exact⟨_,by rw[run_neq_struct,l];rfl,.bool _⟩;cases h;cases h;cases d;cases d;cases h
 cases h
def unV(op:UnOp)(v:AY):Option AY:=
 match op,v with
 | .neg,.int k n=>some (.int k (k.wrap (0-n)))
 | .xor,.int k n=>some (.int k (k.wrap (BitVec.ofInt k.bits (if k.signed then-1 else k.max)^^^BitVec.ofInt k.bits n).toNat))
 | .not,.bool b=>some (.bool !b)
 |_,_=>none
def AFW{v:UnOp}(w:World)(r:Bi f e b)(h:unV v e=some n): ∃a,(Op.unary v b).run P w= .ok a w/\Bi f n a:=by unfold unV at h;split at h;cases r;simp at h;subst h;exact⟨_,by simp[Op.unary,Op.intArith],.int _ _⟩;cases r;simp at h;subst h;exact⟨_,by simp only[Op.unary];rfl,.int _ _⟩;cases r;simp at h;subst h;exact⟨_,by simp[Op.unary],.bool _⟩;cases h
def rowsOf(H:Ar):AY->Option (List AY)
 | .vs sz rows=>if sz=1 then some (rows.flatMap AY.cells)else none
 | .sl id g sz off len=>
  match H[id]? with
  |some (.live g' cs)=>if g=g'/\sz=1/\off+len<=cs.length then some ((cs.drop off).take len)else none
  |_=>none
 | .nils=>some []
 |_=>none
def u8s:List AY->Option (List UInt8)
 |[]=>some []
 | .int .u8 n::r=>(u8s r).map (UInt8.ofNat n.toNat:: ·)
 |_=>none
def WC(P:Program)(H:Ar)(src dst:TypeId)(v:AY):Option AY:=
 match kd P dst,v with
 | .int k,.int _ n=>if(P.underlying src).isSome then some (.int k (k.wrap n))else none
 | .str,.str s=>if(P.underlying src).isSome then some (.str s)else none
 | .str,v=>
  if kd P src= .bytes then
   match rowsOf H v with
   |some cs=>(u8s cs).map AY.str
   |none=>none
  else none
 |_,_=>none
theorem nS{sz:Nat}: ∀{rows:List AY},(∀(j:Nat) (e:AY),rows[j]? =some e->e.cells.length=sz)->(rows.flatMap AY.cells).length=rows.length*sz
 |[],_=>k!
 |e::r,h=>by have b:=h 0 e rfl;have d:=nS (rows:=r) λj a c=>h (j+1) a q!;grind
theorem flat_get{sz:Nat}(c:0<sz): ∀{rows:List AY},(∀(j:Nat) (e:AY),rows[j]? =some e→e.cells.length=sz)→ ∀(i:Nat) (v:AY),(rows.flatMap AY.cells)[i]? =some v→
  ∃e,rows[i/sz]? =some e/\e.cells[i%sz]? =some v
 |e::r,h,i,v,hi=>by
  have d:=h 0 e rfl;simp at hi;rcases Aq i sz with f|a;grind[Nat.div_eq_of_lt,Nat.mod_eq_of_lt];rw[Cb o!,d]at hi;obtain⟨b,l,m⟩:=flat_get c (rows:=r) (λj b n=>h (j+1) b q!) (i-sz) v hi;have g:i/sz=(i-sz)/sz+1:=by rw[<-Nat.add_div_right _ c,Nat.sub_add_cancel a]
  have k:i%sz=(i-sz)%sz:=by rw[<-Nat.add_mod_right (i-sz),Nat.sub_add_cancel a]
  grind
def xd{P:Program}(s:JE c h H w)(r:Bi (cx c h H w) e b)(hr:rowsOf H e=some d):
  ∃a n cap V,b= .slice a n cap/\n=d.length/\js (cx c h H w) d V/\((a=none/\n=0)\/ ∃C,a=some C/\(loadCells C n).run P w= .ok V.toArray w):=by
 cases r with
 |nils=>simp only[rowsOf,Al]at hr;subst hr;exact⟨none,0,0,[],rfl,rfl,⟨rfl,λ_ _ _ h=>by cases h⟩,.inl ⟨rfl,rfl⟩⟩
 | @vs sz K a cap f D ar m Z hv=>
  simp only[rowsOf]at hr;split at hr;rename_i R;subst R;simp only[Al]at hr;subst hr;have l:=nS m;rw[Nat.mul_one]at l;cases K with
  |nil=>
   cases a with
   |none=>exact⟨none,0,cap,[],rfl,rfl,⟨rfl,λ_ _ _ h=>by cases h⟩,.inl ⟨rfl,rfl⟩⟩
   |some C=>exact⟨some C,0,cap,[],rfl,rfl,⟨rfl,λ_ _ _ h=>by cases h⟩,.inr ⟨C,rfl,by simp[loadCells,loadCellsFrom]⟩⟩
  |cons Y I=>
   obtain⟨B,i,rfl,hO,hB,L⟩:=Z k!;generalize Y::I=K at*;refine⟨_,K.length,cap,(List.range K.length).map λj=>f j 0,rfl,l.symm,⟨by simp[l],λj e X A o=>?_⟩,.inr ⟨_,rfl,?_⟩⟩;obtain⟨v,p,E⟩:=flat_get o! m j e A;rw[Nat.div_one]at p;rw[Nat.mod_one]at E;have t:j<K.length:=by rcases Aq j K.length with y|y;exact y;rw[Cj y]at p;cases p
   rw[CO,Sp t]at o;simp only[Bp,Al]at o;subst o;exact hv j v 0 e p E;have:=run_loadCells (P:=P) w ⟨B,i,none⟩ K.length (λj=>f j 0) λj A=>by have J:K[j]? =some (K[j]):=At A;have hl:=m j _ J;have M:(K[j]).cells[0]? =some ((K[j]).cells[0]' o!):=At o!;rw[OQ];have:=(L j _ 0 _ J M).1;simpa[cx]using this
   exact this
  cases hr
 | @sl id g sz i len b ao hg R L=>
  simp only[rowsOf]at hr;split at hr;rename_i g' x J;split at hr;rename_i z;obtain⟨rfl,rfl,ap⟩:=z;simp only[Al]at hr;subst hr;obtain⟨G,F⟩:=s.live id g x J;rcases L G with⟨q,rfl,rfl,rfl⟩|⟨B,cap,q,D,N,rfl⟩;exact⟨none,0,0,[],rfl,k!,⟨k!,λ_ _ _ _ h=>by cases h⟩,.inl ⟨rfl,rfl⟩⟩;rcases F with⟨hn,_⟩|⟨Q,W,T,fz,f,u,hb,S,U,al,k⟩;rw[hn]at q;cases q;have:Q=B:=by rw[q]at u;injection u with v;exact v.symm
  subst this;refine⟨_,len,cap,(List.range len).map λj=>f (i+j),rfl,w!,⟨w!,λj e X A o=>?_⟩,.inr ⟨_,rfl,?_⟩⟩;have t:j<len:=by rcases Aq j len with y|y;exact y;rw[Cj (by simpa using y)]at o;cases o
  rw[aG,if_pos t,L6]at A;rw[CO,Sp t]at o;simp only[Bp,Al]at o;subst o;exact(k _ e A).2.2;exact run_loadCells (P:=P) w ⟨Q,i,none⟩ len (λj=>f (i+j)) λj A=>by have O:x[i+j]? =some (x[i+j]' o!):=At o!;rw[OQ,PN (w:=w) hb];exact(k _ _ O).1
  cases hr;cases hr
 |_=>simp only[rowsOf]at hr;cases hr
theorem wM{x:Cx}: ∀{d:List AY} {b:List Value} {bs:List UInt8},js x d b->u8s d=some bs-> ∃e:List Int,b=e.map (Value.int .u8)/\bs=e.map λn=>UInt8.ofNat n.toNat
 |[],b,bs,hr,hb=>by simp only[u8s]at hb;rw[Eg hr.1];simp_all
 |v::d,b,bs,hr,hb=>by
  match b,hr with
  |u::b,hr=>
   have h:=hr.2 0 v u rfl rfl;have l:js x d b:=⟨by have:=hr.1;simpa using this,λj a c p o=>hr.2 (j+1) a c q! q!⟩
   unfold u8s at hb;split at hb<;>rename_i f<;>(try cases f)<;>try (cases hb;done)
   cases k:u8s d with
   |none=>grind
   |some g=>obtain⟨e,i,m⟩:=wM l k;cases h;exact⟨_::e,by rw[i];rfl,q!⟩
def w7(a:List Int): ∀s:ByteArray,(a.foldl (λr n=>r.push (UInt8.ofNat n.toNat)) s).data.toList=s.data.toList++a.map λn=>UInt8.ofNat n.toNat:=by induction a<;>simp_all
theorem ABF{P:Program}(h:kd P a= .bytes): ∃e,P.underlying a=some (.slice e)/\P.underlying e=some (.int .u8):=by unfold kd at h;grind
theorem AAt{l:TypeId}(s:JE c h H w)(r:Bi (cx c h H w) e b)(v:WC P H a l e=some n):
  ∃y,(convert a l b).run P w= .ok y w/\Bi (cx c h H w) n y:=by
 unfold WC at v;split at v;rename_i k I u j;split at v;rename_i i;obtain⟨C,i⟩:=cO.1 i;simp only[Al]at v;subst v;cases r;exact⟨_,by simp[convert,run_underlying i,run_underlying (AEv j),Conv.intToInt],.int _ _⟩;cases v;rename_i J j;split at v;rename_i i;obtain⟨C,i⟩:=cO.1 i;simp only[Al]at v;subst v;cases r with
 |str t F=>exact⟨_,by simp[convert,run_underlying i,run_underlying (qH j)],.str _ F⟩
 cases v;rename_i L j _;split at v;rename_i D;split at v;rename_i B p;cases q:u8s B with
 |none=>rw[q]at v;cases v
 |some bs=>
  rw[q]at v;simp only[Bp,Al]at v;subst v;obtain⟨X,m,z⟩:=ABF D;obtain⟨o,u,cap,K,rfl,hn,d,f⟩:=xd (P:=P) s r p;obtain⟨x,rfl,rfl⟩:=wM d q;rcases f with⟨rfl,E⟩|⟨A,rfl,g⟩;have:x=[]:=by have G:=d.1;grind[List.length_map,List.eq_nil_of_length_eq_zero]
  subst this;exact⟨.string .empty,by simp[convert,run_underlying m,run_underlying (qH j),run_underlying z,Conv.bytesToString],.str _ rfl⟩;refine⟨_,?_,.str _ (w7 x ByteArray.empty)⟩;simp only[convert,Sem.run_bind,run_underlying m,run_underlying (qH j),run_underlying z,Result.andThen_ok];exact run_bytesToString w A u cap x (by simpa using g)
 cases v;cases v;cases v
def qL(P:Program)(H:Ar)(t:TypeId)(v:AY):Option AY:=
 match P.underlying t,v with
 |some .string,.str s=>some (.int .i64 s.length)
 |some (.array n _),_=>some (.int .i64 n)
 |some (.slice _),.vs _ rows=>some (.int .i64 rows.length)
 |some (.slice _),.sl _ _ _ _ len=>some (.int .i64 len)
 |some (.slice _),.nils=>some (.int .i64 0)
 |_,_=>none
def AC9{P:Program}{w:World}{t ty:TypeId}(s:JE c h H w)(r:Bi (cx c h H w) e b)(v:qL P H t e=some n):
  ∃f,(Builtin.len_ #[t] ty #[b]).run P w= .ok f w/\Bi (cx c h H w) n f:=by
 unfold qL at v;split at v;rename_i p d;simp only[Al]at v;subst v;cases r with
 |str j m=>
  refine⟨.int .i64 j.size,by simp[Builtin.len_,run_underlying d,goInt],?_⟩;have:p.length=j.size:=by rw[<-m];simp
  rw[this];exact .int _ _
 rename_i u X d;simp only[Al]at v;subst v;exact⟨.int .i64 u,by simp[Builtin.len_,run_underlying d,goInt],.int _ _⟩;rename_i sz i d;simp only[Al]at v;subst v;cases r;exact⟨_,by simp[Builtin.len_,run_underlying d,goInt],.int _ _⟩;rename_i id g sz o len d;simp only[Al]at v;subst v;cases r with
 |sl l x k q=>obtain⟨a,cap,rfl⟩:=k;exact⟨_,by simp[Builtin.len_,run_underlying d,goInt],.int _ _⟩
 rename_i d;simp only[Al]at v;subst v;cases r;exact⟨_,by simp[Builtin.len_,run_underlying d,goInt],.int _ _⟩;cases v
def mmV(mx:Bool):List AY->Option AY
 |[.int k a,.int _ b]=>some (.int k (if mx then(if b>a then b else a)else(if b<a then b else a)))
 |_=>none
def ABS{P:Program}{w:World}{mx:Bool}{ts:Array TypeId}{ty:TypeId}(g:Bi f n b)(h:Bi f e B)(a:mmV mx [n,e]=some D):
  ∃x,((if mx then Builtin.max_ ts ty #[b,B]else Builtin.min_ ts ty #[b,B]):Sem Value).run P w= .ok x w/\Bi f D x:=by
 cases n<;>try (simp[mmV]at a;done)
 cases e<;>try (simp[mmV]at a;done)
 cases g;cases h;simp only[mmV,Al]at a;subst a;cases mx;exact⟨_,by simp[Builtin.min_,Builtin.min2],.int _ _⟩;exact⟨_,by simp[Builtin.max_,Builtin.max2],.int _ _⟩
def mm3:AY->AY->AY->Option AY
 | .int k a,.int _ b,.int _ c=>some (.int k (if c<(if b<a then b else a)then c else(if b<a then b else a)))
 |_,_,_=>none
def ADE{P:Program}{w:World}{ts:Array TypeId}{ty:TypeId}{u:AY}{x:Value}(i:Bi f e b)(j:Bi f n B)(k:Bi f D x)(a:mm3 e n D=some u):
  ∃g,(Builtin.min_ ts ty #[b,B,x]).run P w= .ok g w/\Bi f u g:=by
 unfold mm3 at a;split at a;cases i;cases j;cases k;simp at a;subst a;exact⟨_,by simp[Builtin.min_,Builtin.min2],.int _ _⟩;cases a
def qT:AY->Option Nat
 | .int _ i=>if 0<=i then some i.toNat else none
 |_=>none
def WH(d:Nat):Option AY->Option Nat
 |none=>some d
 |some v=>qT v
def iF(P:Program)(H:Ar)(t:TypeId)(v:AY)(lo hi mx:Option AY):Option AY:=
 match v with
 | .str s=>
  match WH 0 lo,WH s.length hi,mx with
  |some l,some h,none=>if kd P t= .str/\l<=h/\h<=s.length then some (.str ((s.drop l).take (h-l)))else none
  |_,_,_=>none
 | .vs sz rows=>
  match WH 0 lo,WH rows.length hi,WH rows.length mx,eI P t with
  |some l,some h,some m,some (none,_,sz')=>if sz=sz'/\l<=h/\h<=m/\m<=rows.length/\(mx.isSome=true->hi.isSome=true)then some (.vs sz ((rows.drop l).take (h-l)))else none
  |_,_,_,_=>none
 | .sl id g sz off len=>
  match WH 0 lo,WH len hi,WH len mx,eI P t with
  |some l,some h,some m,some (none,_,sz')=>
   if sz=sz'/\0<sz/\l<=h/\h<=m/\m<=len/\Sg H id g=true/\(mx.isSome=true->hi.isSome=true)then
    if l=0 then some (.sl id g sz off h)else if l=h then some (.vs sz [])else some (.sl id g sz (off+l*sz) (h-l))
   else none
  |_,_,_,_=>none
 | .nils=>
  match WH 0 lo,WH 0 hi,WH 0 mx,eI P t with
  |some 0,some 0,some 0,some (none,_,_)=>if mx.isSome=true->hi.isSome=true then some .nils else none
  |_,_,_,_=>none
 |_=>none
theorem zk(r:Bi f e b)(h:qT e=some N): ∃k i,b= .int k i/\0<=i/\i.toNat=N:=by
 cases e<;>try (simp[qT]at h;done)
 cases r;grind[qT]
def run_sliceBound{P:Program}{w:World}{code:BoundsCode}(r:Bi f e b)(h:qT e=some N)(x:N<=s):(Instr.sliceBound b s code).run P w= .ok N w:=by
 obtain⟨k,i,rfl,a,rfl⟩:=zk r h;have:i<=s:=o!
 simp[Instr.sliceBound,asIntOf,a,this]
def Xn{P:Program}{w:World}{isSlice:Bool}{len cap l h m:Nat}{k j mx:Option AY}{e b cmx:Option Value}(i: ∀v,k=some v→ ∃c,e=some c∧Bi f v c)(g:k=none→e=none)
  (o: ∀v,j=some v-> ∃c,b=some c/\Bi f v c) (t:j=none->b=none) (z: ∀v,mx=some v-> ∃c,cmx=some c/\Bi f v c) (u:mx=none->cmx=none)
  (a:WH 0 k=some l) (q:WH len j=some h) (D:WH len mx=some m) (s:l<=h) (E:h<=m) (J:m<=len) (K:len<=cap) (F:mx.isSome=true->j.isSome=true):
  (Instr.sliceBounds isSlice len cap e b cmx).run P w= .ok (l,h,if mx.isSome then m else cap) w:=by
 unfold Instr.sliceBounds;cases mx with
 |none=>
  obtain rfl:=u rfl;cases j with
  |none=>
   obtain rfl:=t rfl;simp only[WH,Al]at q;subst q;cases k with
   |none=>obtain rfl:=g rfl;simp only[WH,Al]at a;simp[a]
   |some v=>obtain⟨d,rfl,r⟩:=i v rfl;have n:=λc=>run_sliceBound (P:=P) (w:=w) (code:=c) r a s;simp[n]
  |some A=>
   obtain⟨B,rfl,y⟩:=o A rfl;have p:=λc=>run_sliceBound (P:=P) (w:=w) (code:=c) y q (show h<=cap by omega);cases k with
   |none=>obtain rfl:=g rfl;simp only[WH,Al]at a;simp[a,p]
   |some v=>obtain⟨d,rfl,r⟩:=i v rfl;have n:=λc=>run_sliceBound (P:=P) (w:=w) (code:=c) r a s;simp[p,n]
 |some H=>
  obtain⟨I,rfl,G⟩:=z H rfl;have x:=F rfl;cases j with
  |none=>simp at x
  |some A=>
   obtain⟨B,rfl,y⟩:=o A rfl;have C:=λc=>run_sliceBound (P:=P) (w:=w) (code:=c) G D (show m<=cap by omega);have p:=λc=>run_sliceBound (P:=P) (w:=w) (code:=c) y q E;simp only[Sem.run_bind,C,p,Result.andThen_ok,Option.isSome_some,if_true];cases k with
   |none=>obtain rfl:=g rfl;simp only[WH,Al]at a;simp[a]
   |some v=>obtain⟨d,rfl,r⟩:=i v rfl;have n:=λc=>run_sliceBound (P:=P) (w:=w) (code:=c) r a s;simp[n]
theorem QC{P:Program}{e:TypeId}(t:eI P a=some (none,e,N)):P.underlying a=some (.slice e)/\ ∃b,tI P e=some (b,N):=by unfold eI at t;split at t;simp_all;rename_i c d;cases f:tI P c<;>grind;cases t
theorem AAA{lo V q:Option AY}{N L A:Option Value}(s:JE c h H w)(r:Bi (cx c h H w) e b)
  (K: ∀e,lo=some e-> ∃b,N=some b/\Bi (cx c h H w) e b) (G:lo=none->N=none)
  (J: ∀e,V=some e-> ∃b,L=some b/\Bi (cx c h H w) e b) (F:V=none->L=none) (R: ∀e,q=some e-> ∃b,A=some b/\Bi (cx c h H w) e b) (I:q=none->A=none)
  (d:iF P H a e lo V q=some n): ∃c',(Instr.sliceAt a b N L A).run P w= .ok c' w/\Bi (cx c h H w) n c':=by
 unfold iF at d;split at d;rename_i s';split at d;rename_i l p S O;split at d;rename_i o;obtain⟨hk,h1,U⟩:=o;simp only[Al]at d;subst d;obtain rfl:=I rfl;cases r with
 |str t' ht=>
  have x:s'.length=t'.size:=by rw[<-ht];simp
  rw[x]at O U;have o:=Xn (P:=P) (w:=w) (isSlice:=false) (len:=t'.size) (cap:=t'.size) (mx:=none) (cmx:=none) K G J F (λ_ h=>by cases h) (λ_=>rfl) S O rfl h1 U (Ai _) (Ai _) (λh=>by cases h);refine⟨.string (t'.extract l p),?_,.str _ ?_⟩;simp only[Instr.sliceAt,Instr.slice,Sem.run_bind,run_underlying (qH hk),Result.andThen_ok,Option.isSome_none,Kf,if_false,o,Sem.run_pure];simp_all[rf]
 cases d;cases d;rename_i sz k;split at d;rename_i l p m X a1 S O Z he;split at d;rename_i o;obtain⟨rfl,h1,U,h3,h4⟩:=o;simp only[Al]at d;subst d;obtain⟨z,v,y⟩:=QC he;cases r with
 | @vs sz k t cap f C Y ao ha d=>
  have o:=Xn (P:=P) (w:=w) (isSlice:=true) (len:=k.length) (cap:=cap) K G J F R I S O Z h1 U h3 C h4;have E: ∀{j:Nat} {X:AY},((k.drop l).take (p-l))[j]? =some X->k[l+j]? =some X:=q!
  have x:((k.drop l).take (p-l)).length=p-l:=w!
  refine⟨.slice (if(if q.isSome then m else cap)=l then t else t.map (·.add (l*sz))) (p-l) ((if q.isSome then m else cap)-l),?_,?_⟩;simp only[Instr.sliceAt,Instr.slice,Sem.run_bind,run_underlying z,Result.andThen_ok,o,K5 y,Sem.run_pure];have hM:p<=(if q.isSome then m else cap):=by split<;>omega
  generalize (if q.isSome then m else cap)=M at hM;have T:Bi (cx c h H w) (.vs sz ((k.drop l).take (p-l))) (.slice (if M=l then t else t.map (·.add (l*sz))) ((k.drop l).take (p-l)).length (M-l)):=?_;rw[x]at T;exact T;refine .vs (λj i=>f (l+j) i) (by rw[x];omega) Y (λj X hj=>ao _ X (E hj)) (λa4=>?_) λj X i e hj V=>d _ X i e (E hj) V;have a3:l<p:=by rcases Aq l p with h5|h5;exact h5;simp_all[Eg]
  obtain⟨B,u,rfl,hO,hB,hc⟩:=ha (by intro X;rw[X]at h3;simp at h3;omega);refine⟨B,u+l*sz,?_,hO,hB,λj X i e hj V=>?_⟩;grind[OQ];have:=hc _ X i e (E hj) V;rw[Gt]at this;rw[show u+l*sz+(j*sz+i)=u+(l*sz+j*sz+i)from by omega];exact this
 cases d;cases d;rename_i id g sz u len;split at d;rename_i l p m X a1 S O Z he;split at d;rename_i o;obtain⟨rfl,Y,h1,U,h3,ad,h4⟩:=o;obtain⟨z,v,y⟩:=QC he;cases r with
 | @sl id g sz u len b W hg a2 hc=>
  rcases hc (s.cur ad)with⟨Q,rfl,rfl,rfl⟩|⟨B,cap,Q,C,D,rfl⟩;have o:=Xn (P:=P) (w:=w) (isSlice:=true) (len:=0) (cap:=0) K G J F R I S O Z h1 U h3 (Ai _) h4;have ax:l=0:=o!
  have ar:p=0:=o!
  have a0:m=0:=o!
  subst ax ar a0;simp only[if_true,Al]at d;subst d;refine⟨.slice none 0 0,?_,.sl W hg ⟨_,_,rfl⟩ λ_=>.inl ⟨Q,rfl,rfl,rfl⟩⟩;simp only[Instr.sliceAt,Instr.slice,Sem.run_bind,run_underlying z,Result.andThen_ok,o,K5 y,Sem.run_pure];cases q<;>simp;have o:=Xn (P:=P) (w:=w) (isSlice:=true) (len:=len) (cap:=cap) K G J F R I S O Z h1 U h3 C h4
  have ap:(Instr.sliceAt a (.slice (some ⟨B,u,none⟩) len cap) N L A).run P w=
    .ok (.slice (if(if q.isSome then m else cap)=l then some ⟨B,u,none⟩else(some ⟨B,u,none⟩:Option Addr).map (·.add (l*sz))) (p-l) ((if q.isSome then m else cap)-l)) w:=by
   simp only[Instr.sliceAt,Instr.slice,Sem.run_bind,run_underlying z,Result.andThen_ok,o,K5 y,Sem.run_pure]
  refine⟨_,ap,?_⟩;have hM:p<=(if q.isSome then m else cap)/\(if q.isSome then m else cap)<=cap:=by split<;>omega
  generalize (if q.isSome then m else cap)=M at hM;split at d;rename_i hl;subst hl;simp only[Al]at d;subst d;refine .sl W hg ⟨_,_,rfl⟩ λ_=>.inr ⟨B,M,Q,hM.1,?_,?_⟩;exact EB (Nat.add_le_add_left (P9 _ hM.2) _) D;simp[OQ];rename_i hl;split at d;rename_i al;subst al;simp only[Al]at d;subst d;rw[Gu];exact Bi.vs (rows:=[]) (λ_ _=>undef) (B8 _) Y (λ_ _ h=>by simp at h) (λh=>(h rfl).elim) λ_ _ _ _ h=>by simp at h
  rename_i al;simp only[Al]at d;subst d;refine .sl W hg ⟨_,_,rfl⟩ λ_=>.inr ⟨B,M-l,Q,o!,?_,?_⟩;rw[cM,<-Gt];have:l+(M-l)=M:=o!
  rw[this];exact EB (Nat.add_le_add_left (P9 _ hM.2) _) D;rw[if_neg o!];simp[OQ]
 cases d;cases d;split at d;rename_i X sz S O Z he;split at d;rename_i h4;simp only[Al]at d;subst d;obtain⟨z,v,y⟩:=QC he;cases r;have o:=Xn (P:=P) (w:=w) (isSlice:=true) (len:=0) (cap:=0) K G J F R I S O Z (Ai _) (Ai _) (Ai _) (Ai _) h4;refine⟨.slice none 0 0,?_,.nils⟩;simp only[Instr.sliceAt,Instr.slice,Sem.run_bind,run_underlying z,Result.andThen_ok,o,K5 y,Sem.run_pure];cases q<;>simp;cases d;cases d;cases d
def AY.solid:AY->Bool
 | .any=>false
 | .tup _=>false
 |_=>true
def bB(h:b.oneCell'=true):b.cells= #[b]:=by cases b<;>first|rfl|(simp[Value.oneCell']at h;done)
theorem Vn(r:Bi f e b)(h:e.solid=true):Bi f (.agg e.cells) (.agg b.cells):=by
 have one: ∀{u:AY} {d:Value},Bi f u d->d.oneCell'=true->d.cells= #[d]->u.cells=[u]->Bi f (.agg u.cells) (.agg d.cells):=by intro u d A g q z;rw[q,z];refine .agg rfl (λj b s=>?_) λj e b s l=>?_;grind;grind
 cases r with
 |agg o g p=>exact .agg o g p
 |any b=>simp[AY.solid]at h
 |tup o p=>simp[AY.solid]at h
 |ptr i m g l=>exact one (.ptr i m g l) g (bB g) rfl
 |sl i m g l=>obtain⟨a,cap,rfl⟩:=g;exact one (.sl i m ⟨a,cap,rfl⟩ l) rfl (bB rfl) rfl
 |bool x=>exact one (.bool x) rfl rfl rfl
 |int k n=>exact one (.int k n) rfl rfl rfl
 |str t y=>exact one (.str t y) rfl rfl rfl
 |nilp=>exact one .nilp rfl rfl rfl
 |vptr v a x b d=>exact one (.vptr v a x b d) rfl rfl rfl
 |nils=>exact one .nils rfl rfl rfl
 |vs v a x b d c=>exact one (.vs v a x b d c) rfl rfl rfl
 |fn a x b d=>exact one (.fn a x b d) rfl rfl rfl
 |yf i g l=>exact one (.yf i g l) g (bB g) rfl
 |mp i g l=>exact one (.mp i g l) g (bB g) rfl
 |itp i w g l=>exact one (.itp i w g l) g (bB g) rfl
 |nilf=>exact one .nilf rfl rfl rfl
def Vm(cs:List AY)(off:Nat)(vs:List AY):List AY:=cs.take off++vs++cs.drop (off+vs.length)
theorem iD(h:N+G.length<=d.length):(Vm d N G).length=d.length:=by grind[Vm]
theorem qm(h:N+G.length<=d.length)(j:Nat):(Vm d N G)[j]? =if N<=j/\j<N+G.length then G[j-N]? else d[j]? :=by grind[Vm,List.getElem?_append_left]
inductive Yt where
 |arr (sz:Nat)
 |str (l:List (Nat×Nat))
def Yt.at_:Yt->Nat->Option (Nat×Nat)
 | .arr sz,i=>some (i*sz,sz)
 | .str l,i=>l[i]?
def Xq(P:Program)(t:TypeId):Option (List AY):=
 match (P.info? t).bind (·.zero)with
 |some z=>if z.cells.toList.all (·.oneCell')then some (z.cells.toList.map nr)else none
 |none=>none
def qd(P:Program)(t:TypeId):Option Yt:=
 match P.underlying t with
 |some (.struct fs)=>(fs.toList.mapM λf=>(P.info? f.type).map λi=>(f.offset,i.size)).map Yt.str
 |some (.array _ e)=>(P.info? e).map λi=>Yt.arr i.size
 |_=>none
def nu(p:Yt):List AY->List (Nat×AY)->Option (List AY)
 |cs,[]=>some cs
 |cs,(i,v)::r=>
  match p.at_ i with
  |some (off,size)=>if v.solid=true/\v.cells.length=size/\off+size<=cs.length then nu p (Vm cs off v.cells) r else none
  |none=>none
def pL(P:Program)(t:TypeId)(parts:List (Nat×AY)):Option AY:=
 match Xq P t,qd P t with
 |some z,some p=>(nu p z parts).map AY.agg
 |_,_=>none
theorem cE(x:Cx)(h:Xq P a=some d): ∃i v,P.info? a=some i/\i.zero=some v/\Bi x (.agg d) (.agg v.cells):=by
 unfold Xq at h;cases t:P.info? a with
 |none=>grind
 |some i=>
  cases b:i.zero with
  |none=>grind
  |some v=>rw[t]at h;simp only[AE,b]at h;split at h;rename_i z;simp at h;subst h;refine⟨i,v,rfl,b,.agg k! (λj c e=>?_) λj u c e f=>?_⟩;grind;grind[mo];cases h
theorem foldl_set(a:Nat): ∀(l:List Value) (k:Nat) (b:Array Value),a+k+l.length≤b.size→
  ((l.zipIdx k).foldl (λb (p:Value×Nat)=>b.setIfInBounds (a+p.2) p.1) b).size=b.size/\∀j,((l.zipIdx k).foldl (λb (p:Value×Nat)=>b.setIfInBounds (a+p.2) p.1) b)[j]? =if a+k<=j/\j<a+k+l.length then l[j-(a+k)]? else b[j]?
 |[],k,b,_=>by simp;intro j c d;omega
 |v::l,k,b,h=>by simp at h⊢;obtain⟨c,d⟩:=foldl_set a l (k+1) (b.setIfInBounds (a+k) v) w!;grind
theorem AB0{x:Array Value}{off:Nat}(r:Bi f (.agg d) (.agg i))(p:Bi f (.agg G) (.agg x))(h:off+G.length≤d.length)(a:Array Value)
  (g:a.size=i.size) (e: ∀j,a[j]? =if off<=j/\j<off+x.size then x[j-off]? else i[j]?):Bi f (.agg (Vm d off G)) (.agg a):=by
 cases r with
 |agg m q t=>
  cases p with
  |agg n k o=>refine .agg (by rw[g,m,iD h]) (λj c l=>?_) λj v c l s=>?_;grind;grind[qm]
theorem sI{x:Cx}(p:Yt): ∀(b:List (Nat×AY)) (a:List (Nat×Value)) (f:List AY) (d:Array Value) (n:List AY),a.map (·.1)=b.map (·.1)→
  (∀(j:Nat) (q:Nat×AY) (o:Nat×Value),b[j]? =some q->a[j]? =some o->Bi x q.2 o.2)->Bi x (.agg f) (.agg d)->nu p f b=some n->
  ∃l,Instr.fill p.at_ d a=some l/\Bi x (.agg n) (.agg l)
 |[],a,f,d,n,m,_,r,h=>by
  have:a=[]:=t!
  subst this;simp only[nu,Al]at h;subst h;exact⟨d,rfl,r⟩
 |(i,v)::b,(i',c)::a,f,d,n,m,hr,r,h=>by
  simp at m;obtain⟨rfl,m⟩:=m;simp only[nu]at h;split at h;rename_i e size E;split at h;rename_i u;obtain⟨g,rfl,s⟩:=u;have t:=Vn (hr 0 (i',v) (i',c) rfl rfl) g;have z:c.cells.size=v.cells.length:=by cases t with|agg h _ _=>exact h
  have w:d.size=f.length:=by cases r with|agg h _ _=>exact h
  have k:=foldl_set e c.cells.toList 0 d q!;have B:c.cells.zipIdx.foldl (λf (p:Value×Nat)=>f.setIfInBounds (e+p.2) p.1) d=(c.cells.toList.zipIdx 0).foldl (λf (p:Value×Nat)=>f.setIfInBounds (e+p.2) p.1) d:=by rw[<-Array.foldl_toList,Array.toList_zipIdx]
  have A:=AB0 (off:=e) r t s ((c.cells.toList.zipIdx 0).foldl (λf (p:Value×Nat)=>f.setIfInBounds (e+p.2) p.1) d) k.1 (λj=>q!);obtain⟨l,C,D⟩:=sI p b a _ _ n m (λj q o F y=>hr (j+1) q o q! q!) A h;grind[Instr.fill];cases h;cases h
theorem zG{b:List (Nat×AY)}{t:Array (Nat×Value)}(E:t.toList.map (·.1)=b.map (·.1))
  (hr: ∀(j:Nat) (q:Nat×AY) (A:Nat×Value),b[j]? =some q->t.toList[j]? =some A->Bi f q.2 A.2) (h:pL P a b=some e): ∃c,(Instr.build a t).run P w= .ok c w/\Bi f e c:=by
 unfold pL at h;split at h;rename_i z p F d;cases y:nu p z b with
 |none=>grind
 |some H=>
  rw[y]at h;simp at h;subst h;obtain⟨i,v,D,k,G⟩:=cE f F;obtain⟨m,s,C⟩:=sI p b t.toList z v.cells H E hr G y;refine⟨.agg m,run_build w a t m ?_,C⟩;unfold Program.built;rw[D];unfold qd at d;split at d;rename_i B r;rw[r];cases o:B.toList.mapM (λu=>(P.info? u.type).map λi=>(u.offset,i.size))with
  |none=>grind
  |some l=>simp only[k,o];rw[<-s];congr 1;grind[Yt.at_]
  rename_i n x r;rw[r];cases g:P.info? x with
  |none=>grind
  |some I=>rw[g]at d;simp at d;subst d;simp only[k,g];exact s
  cases d
 cases h
def CU(P:Program)(env:Env)(H:Ar):Op->Option AY
 | .move x| .assign x=>some (BH env x)
 | .pick c a b=>
  match BH env c with
  | .bool t=>some (if t then BH env a else BH env b)
  |_=>none
 | .load t a=>fG P t H (BH env a)
 | .nilCheck x=>
  match BH env x with
  | .ptr id g off=>if Sg H id g then some (.ptr id g off)else none
  | .vptr cs=>some (.vptr cs)
  | .fn (.func f) a b=>some (.fn (.func f) a b)
  |_=>none
 | .binOp op t x y _=>ux P op t (BH env x) (BH env y)
 | .unOp op _ x=>unV op (BH env x)
 | .convert s d x=>WC P H s d (BH env x)
 | .fieldAddr s x f=>U8 P H s f (BH env x)
 | .field s x f=>ph P s f (BH env x)
 | .indexAddr t x i=>VE P H t (BH env x) (BH env i)
 | .index t x i=>gx P t (BH env x) (BH env i)
 | .slice t x lo hi mx=>iF P H t (BH env x) (lo.map (BH env)) (hi.map (BH env)) (mx.map (BH env))
 | .extract x i=>
  match BH env x with
  | .tup vs=>vs[i]?
  |_=>none
 | .makeFunc f a b=>some (.fn f (a.toList.map (BH env)) (b.toList.map (BH env)))
 | .build t parts=>pL P t (parts.toList.map λp=>(p.1,BH env p.2))
 | .call {callee:=.builtin .len,args:=⟨[x]⟩,argTypes:=⟨[t]⟩}=>qL P H t (BH env x)
 | .call {callee:=.builtin .max,args:=⟨[x,y]⟩,.. }=>mmV true [BH env x,BH env y]
 | .call {callee:=.builtin .min,args:=⟨[x,y]⟩,.. }=>mmV false [BH env x,BH env y]
 | .call {callee:=.builtin .min,args:=⟨[x,y,z]⟩,.. }=>mm3 (BH env x) (BH env y) (BH env z)
 |_=>none
def zt{P:Program}{N:Nat}{X:Nat→Prop}{h:Gh}{env:Env}{H:Ar}{a:Act}{w:World}{o:Oper}{v:AY}(s:St X h N env H a w)(b:CU P env H o.op=some v):
  ∃c,(execOp a.eval o).run P w= .ok (.value c) w/\Bi (cx X h H w) v c:=by
 have k:=λx=>C8 s.env x;have d: ∀{m:Sem Value},(∃c,m.run P w= .ok c w/\Bi (cx X h H w) v c)-> ∃c,(do pure (Next.value (<-m)):Sem Next).run P w= .ok (.value c) w/\Bi (cx X h H w) v c:=by rintro m ⟨c,u,hr⟩;exact⟨c,by simp[u],hr⟩
 unfold execOp;cases e:o.op with
 |move x=>rw[e]at b;simp only[CU,Al]at b;subst b;exact⟨_,rfl,k x⟩
 |assign x=>rw[e]at b;simp only[CU,Al]at b;subst b;exact⟨_,rfl,k x⟩
 |pick c x y=>rw[e]at b;simp only[CU]at b;split at b;rename_i t ht;have u:=k c;rw[ht]at u;simp only[Al]at b;subst b;generalize W:a.eval c=cv at u;cases u;simp only[W,asBool];cases t;exact⟨_,k!,k y⟩;exact⟨_,k!,k x⟩;cases b
 |load t x=>rw[e]at b;simp only[CU]at b;obtain⟨B,ad,D,E,hl,hr⟩:=vi s.sim (k x) b;exact d ⟨D,by rw[E];simp[Instr.loadAt,Instr.sureAddr,hl],hr⟩
 |nilCheck x=>
  rw[e]at b;simp only[CU]at b;have z:=k x;split at b;rename_i id g ad E;rw[E]at z;split at b;rename_i M;simp only[Al]at b;subst b;generalize A:a.eval x=c at z;cases z with
  |ptr Y S n u=>obtain⟨B,al,rfl⟩:=u (s.sim.cur M);exact⟨_,by simp only[A];rfl,.ptr Y S n u⟩
  cases b;rename_i cs E;rw[E]at z;simp only[Al]at b;subst b;generalize A:a.eval x=c at z;cases z with
  |vptr f n r U V=>exact⟨_,by simp only[A];rfl,.vptr f n r U V⟩
  rename_i f p q E;rw[E]at z;simp only[Al]at b;subst b;generalize A:a.eval x=c at z;cases z with
  |fn n r U V=>exact⟨_,by simp only[A];rfl,.fn n r U V⟩
  cases b
 |binOp op t x y yt=>rw[e]at b;simp only[CU]at b;exact d (ACX w (k x) (k y) b)
 |unOp op t x=>rw[e]at b;simp only[CU]at b;exact d (AFW w (k x) b)
 |convert p q x=>rw[e]at b;simp only[CU]at b;exact d (AAt s.sim (k x) b)
 |fieldAddr p x f=>rw[e]at b;simp only[CU]at b;exact d (rK s.sim (k x) b)
 |field p x f=>rw[e]at b;simp only[CU]at b;exact d (zW (k x) b)
 |indexAddr t x i=>rw[e]at b;simp only[CU]at b;exact d (rQ s.sim (k x) (k i) b)
 |index t x i=>rw[e]at b;simp only[CU]at b;exact d (zb (k x) (k i) b)
 |slice t x lo hi T=>
  rw[e]at b;simp only[CU]at b;have G: ∀(y:Option Operand) (v:AY),y.map (BH env)=some v-> ∃c,y.map a.eval=some c/\Bi (cx X h H w) v c:=by
   intro y v Q;cases y with
   |none=>cases Q
   |some y=>simp only[Bp,Al]at Q;subst Q;exact⟨_,rfl,k y⟩
  have C: ∀(y:Option Operand),y.map (BH env)=none->y.map a.eval=none:=by
   intro y Q;cases y with
   |none=>rfl
   |some y=>cases Q
  exact d (AAA s.sim (k x) (G lo) (C lo) (G hi) (C hi) (G T) (C T) b)
 |extract x i=>
  rw[e]at b;simp only[CU]at b;have z:=k x;split at b;rename_i vs E;rw[E]at z;generalize u:a.eval x=c at z;cases z with
  | @tup vs R hs Z=>
   have ao:i<vs.length:=by rcases Aq i vs.length with r|r;exact r;rw[Cj r]at b;cases b
   have S:R[i]? =some (R[i]' o!):=O5 o!;refine d ⟨_,?_,Z i v _ b S⟩;simp only[Instr.extract,u,S];rfl
  cases b
 |makeFunc f p q=>
  rw[e]at b;simp only[CU,Al]at b;subst b;have L: ∀(p:Array Operand) (j:Nat) (v:AY) (c:Value),(p.toList.map (BH env))[j]? =some v->(p.map a.eval)[j]? =some c->Bi (cx X h H w) v c:=by
   intro p j v c J u;rw[CO,PK]at J;rw[W5]at u;cases O:p[j]? with
   |none=>rw[O]at J;cases J
   |some y=>rw[O]at J u;simp only[Bp,Al]at J u;subst J u;exact k y
  exact d ⟨_,rfl,.fn k! k! (L p) (L q)⟩
 |build t I=>
  rw[e]at b;simp only[CU]at b;refine d (zG ?_ ?_ b);simp;intro j q q' K F;rw[CO,PK]at K;rw[PK,W5]at F;cases O:I[j]? with
  |none=>rw[O]at K;cases K
  |some y=>rw[O]at K F;simp only[Bp,Al]at K F;subst K F;exact k y.2
 |call c=>
  rw[e]at b;simp only[CU]at b;split at b<;>rename_i l<;>first
   |(cases b;done)
   |(cases l;done)
   |skip
  injection l with l;subst l;simp only[resolve,invoke,builtin,Sem.run_bind,Sem.run_pure,Result.andThen_ok,Pz,Bo,I3];obtain⟨D,n,r⟩:=AC9 (ty:=o.type) s.sim (k _) b;exact⟨D,by rw[n];rfl,r⟩;injection l with l;subst l;simp only[resolve,invoke,builtin,Sem.run_bind,Sem.run_pure,Result.andThen_ok,Pz,Bo,I3];obtain⟨D,n,r⟩:=ABS (P:=P) (w:=w) (mx:=true) (ts:=_) (ty:=o.type) (k _) (k _) b;exact⟨D,by simp only[if_true]at n;rw[n];rfl,r⟩;injection l with l;subst l;simp only[resolve,invoke,builtin,Sem.run_bind,Sem.run_pure,Result.andThen_ok,Pz,Bo,I3];obtain⟨D,n,r⟩:=ABS (P:=P) (w:=w) (mx:=false) (ts:=_) (ty:=o.type) (k _) (k _) b;exact⟨D,by simp only[Kf,if_false]at n;rw[n];rfl,r⟩;injection l with l;subst l;simp only[resolve,invoke,builtin,Sem.run_bind,Sem.run_pure,Result.andThen_ok,Pz,Bo,I3];obtain⟨D,n,r⟩:=ADE (P:=P) (w:=w) (ts:=_) (ty:=o.type) (k _) (k _) (k _) b;exact⟨D,by rw[n];rfl,r⟩
 |_=>rw[e]at b;simp[CU]at b
def Du{P:Program}{N:Nat}{H:Ar}{v:AY}(b:CU P g H o.op=some v)(e:K v H):JT P N o g H K:=by apply Cy (by cases f:o.op<;>first|rfl|(rw[f]at b;simp[CU]at b));intro X h a w s Q;obtain⟨c,d,hr⟩:=zt s b;unfold Oper.wp;rw[d,Oper.upon_value];exact⟨c,v,h,H,rfl,e,hr,s.sim,HP.refl _ _ _⟩
section
variable {X:Nat->Prop} {h:Gh} {H:Ar} {w:World}
def Gh.at_(h:Gh)(id:Nat)(io:Option Nat)(gen cap:Nat):Gh:=
 ⟨λi=>if i=id then io else h.io i,λi=>if i=id then gen else h.gen i,λi=>if i=id then cap else h.cap i⟩
def gA(x:Cx)(cs:List AY)(arr:Array Value)(fz:Nat×Nat):Prop:=
 ∃f:Nat->Value,cs.length<=arr.size/\(∀i,i<arr.size->(decide (fz.1<=i)&&decide (i<fz.2))=false)/\
  ∀(j:Nat) (v:AY),cs[j]? =some v->arr[j]? =some (f j)/\(f j).oneCell'=true/\Bi x v (f j)
def Pj(r:Bi f (.agg d) (.agg i)):gA f d i (0,0):=by
 cases r with
 |agg l h k=>
  refine⟨λj=>i.getD j undef,o!,λa _=>k!,λj v c=>?_⟩;have b:j<i.size:=by rcases Aq j d.length with g|g;omega;rw[Cj g]at c;cases c
  have x:i[j]? =some (i[j]):=O5 b;have e:i.getD j undef=i[j]:=by simp[b]
  show i[j]? =some (i.getD j undef)/\(i.getD j undef).oneCell'=true/\Bi f v (i.getD j undef);rw[e];exact⟨x,h j _ x,k j v _ c x⟩
def JE.of_ext'(s:JE X h H w)(hx:HP h H w I J A)
  (key: ∀(id:Nat) (e:Eo),J[id]? =some e->e≠ .dead->(H[id]? =some e/\I.gen id=h.gen id/\I.io id=h.io id/\I.cap id=h.cap id/\ ∀B,h.io id=some B->A.heap[B]? =w.heap[B]?)\/((∃g S,e= .live g S/\xo (cx X I J A) id g S)\/(∃L,e= .lp L/\tF (cx X I J A) id L)\/(e.isB=true/\BAt I J A id e)))
  (R: ∀(id T e i:Nat) (l:Option (List UInt8)),J[id]? =some (.bld T e i l)->H[id]? =some (.bld T e i l)->J[i]? =some (.brow id)->BAt I J A id (.bld T e i l))
  (inj: ∀(id y:Nat) (e e':Eo) (B:Nat),J[id]? =some e->J[y]? =some e'->e≠ .dead->e'≠ .dead->I.io id=some B->I.io y=some B->id=y):JE X I J A:=by
 have hl:=hx.later X;refine⟨λB x=>⟨DO (s.out B x).1 hx.size,λV=>?_⟩,λid g S K=>?_,λid L K=>?_,inj,λid e K x=>?_⟩;rcases hx.fresh B V with V|V;exact(s.out B x).2 V;have:=(s.out B x).1;omega;rcases key id _ K k! with⟨c,E,z,U,C⟩|⟨g',N,e,hn⟩|⟨L,e,_⟩|⟨e,_⟩;obtain⟨hg,Q⟩:=s.live id g S c;refine⟨E.trans hg,?_⟩;rcases Q with⟨hn,rfl⟩|⟨B,M,T',W,f,d,Z,P,al,ad,q⟩;exact .inl ⟨z.trans hn,rfl⟩;refine .inr ⟨B,M,T',W,f,z.trans d,(C B d).trans Z,P.trans U.symm,al,ad,λj v hj=>?_⟩;obtain⟨p1,p2,p3⟩:=q j v hj;exact⟨p1,p2,p3.later hl⟩;injection e with a b;subst a b;exact hn;cases e;cases e;rcases key id _ K k! with⟨c,E,z,U,C⟩|⟨g',N,e,hn⟩|⟨L',e,hn⟩|⟨e,_⟩;obtain⟨hg,B,r,d,Z,u,F,G,O,h5,Y,h7⟩:=s.lp id L c;exact⟨E.trans hg,B,r,z.trans d,(C B d).trans Z,u,F,G,O,h5,Y,λt v m=>⟨(h7 t v m).1,(h7 t v m).2.later hl⟩⟩;cases e;injection e with a;subst a;exact hn;cases e;rcases key id _ K (by rintro rfl;cases x)with⟨c,E,z,U,C⟩|⟨g',N,e,hn⟩|⟨L',e,hn⟩|⟨_,hn⟩;cases e with
 |bld T e0 i l=>by_cases hr:J[i]? =some (.brow id);exact R id T e0 i l K c hr;obtain⟨B,p,v,u,F,G,O,Y,_⟩:=s.bld id _ c x;exact⟨B,p,v,z.trans u,(C B u).trans F,G,E.trans O,Y,λh=>(hr h).elim⟩
 |brow o=>intro B d;obtain⟨D,T,fz,u⟩:=s.bld id _ c x B (z▸d);exact⟨D,T,fz,(C B (z▸d)).trans u⟩
 |mp k es=>obtain⟨B,D,u,F,G,O⟩:=s.bld id _ c x;exact⟨B,D,z.trans u,E.trans F,(C B u).trans G,O⟩
 |it n seen=>obtain⟨B,u,F,G⟩:=s.bld id _ c x;exact⟨B,z.trans u,E.trans F,by rw[U];exact(C B u).trans G⟩
 |_=>cases x
 subst e;cases x;subst e;cases x;exact hn
def JE.of_ext(s:JE X h H w)(c:HP h H w I J A)
  (key: ∀(id:Nat) (e:Eo),J[id]? =some e->e≠ .dead->(H[id]? =some e/\I.gen id=h.gen id/\I.io id=h.io id/\I.cap id=h.cap id/\ ∀B,h.io id=some B->A.heap[B]? =w.heap[B]?)\/((∃g r,e= .live g r/\xo (cx X I J A) id g r)\/ ∃L,e= .lp L/\tF (cx X I J A) id L))
  (inj: ∀(id d:Nat) (e t:Eo) (B:Nat),J[id]? =some e->J[d]? =some t->e≠ .dead->t≠ .dead->I.io id=some B->I.io d=some B->id=d):JE X I J A:=by
 refine s.of_ext' c (λid e j m=>?_) (λid T O o l j k hr=>?_) inj;rcases key id e j m with b|b|b;exact .inl b;exact .inr (.inl b);exact .inr (.inr (.inl b));obtain⟨B,p,v,b,D,E,F,a,G⟩:=s.bld id _ k rfl;rcases key id _ j k! with⟨_,u,x,P,y⟩|⟨_,_,e,_⟩|⟨_,e,_⟩;rcases key o _ hr k! with⟨n,Q,z,R,f⟩|⟨_,_,e,_⟩|⟨_,e,_⟩;refine⟨B,p,v,x.trans b,(y B b).trans D,E,u.trans F,a,λ_=>?_⟩;obtain⟨q1,q2⟩:=G n;refine⟨⟨q1.1,?_⟩,q2.trans z.symm⟩;rcases q1.2 with q|⟨g,cap,i,C,rfl,K,M,N⟩;exact .inl q;refine .inr ⟨g,cap,i,C,rfl,K,(f g ?_).trans M,N⟩;simpa[Value.ownBlock]using q2.symm;cases e;cases e;cases e;cases e
def I0{e:Eo}(a:(H++[l])[N]? =some e):(N<H.length/\H[N]? =some e)\/(N=H.length/\e=l):=by rcases P7 N H.length with b|rfl|c;rw[CK b]at a;exact .inl ⟨b,a⟩;rw[Cb (Ai _),Gu]at a;simp at a;exact .inr ⟨rfl,a.symm⟩;rw[Cj w!]at a;cases a
def JR{e:Eo}(c:N<H.length)(a:(H.set N l)[s]? =some e):(s≠N/\H[s]? =some e)\/(s=N/\e=l):=by by_cases b:s=N;subst b;rw[IK c]at a;simp at a;exact .inr ⟨rfl,a.symm⟩;rw[EA (λe=>b e.symm)]at a;exact .inl ⟨b,a⟩
def HP.push(o:Obj)(cap:Nat)(E:Eo):
  HP h H w (h.at_ H.length (some w.heap.size) 0 cap) (H++[E]) {w with heap:=w.heap.push o}where
 os:=rfl
 tape:=rfl
 output:=rfl
 size:=k!
 keep B hB _:=by simp[Sl,BW hB]
 n:=k!
 gen id hid:=by simp[Gh.at_,BW hid]
 same id hid _:=by simp[Gh.at_,BW hid]
 fresh B ho:=by obtain⟨id,e,b,d,a⟩:=ho;rcases I0 b with⟨c,b⟩|⟨rfl,rfl⟩;exact .inl ⟨id,e,b,d,by simpa[Gh.at_,BW c]using a⟩;simp[Gh.at_]at a;exact .inr o!
 loops B r hB:=⟨r,by have:=Nf hB;simp[Sl,BW this,hB]⟩
def JE.push_any(s:JE X h H w)(o:Obj)(cap:Nat)(E:Eo)
  (t:E≠ .dead->((∃g l,E= .live g l/\xo (cx X (h.at_ H.length (some w.heap.size) 0 cap) (H++[E]) {w with heap:=w.heap.push o}) H.length g l)\/∃L,E= .lp L/\tF (cx X (h.at_ H.length (some w.heap.size) 0 cap) (H++[E]) {w with heap:=w.heap.push o}) H.length L)):
  JE X (h.at_ H.length (some w.heap.size) 0 cap) (H++[E]) {w with heap:=w.heap.push o}:=by
 refine s.of_ext (HP.push o cap E) (λid e f d=>?_) λid u e v B p q b c i j=>?_;rcases I0 f with⟨a,f⟩|⟨rfl,rfl⟩;refine .inl ⟨f,by simp[Gh.at_,BW a],by simp[Gh.at_,BW a],by simp[Gh.at_,BW a],λB k=>?_⟩;have:=s.io_at f d k;simp[Sl,BW this];exact .inr (t d);rcases I0 p with⟨l1,m⟩|⟨rfl,_⟩<;>rcases I0 q with⟨l2,n⟩|⟨rfl,_⟩;exact s.inj _ _ _ _ B m n b c (by simpa[Gh.at_,BW l1]using i) (by simpa[Gh.at_,BW l2]using j);have r:=s.io_at m b (by simpa[Gh.at_,BW l1]using i);simp[Gh.at_]at j;omega;have r:=s.io_at n c (by simpa[Gh.at_,BW l2]using j);simp[Gh.at_]at i;omega;rfl
def JE.push(s:JE X h H w)(a:Array Value)(T:TypeId)(c:Nat×Nat)(g:List AY)(i:gA (cx X h H w) g a c):
  JE X (h.at_ H.length (some w.heap.size) 0 a.size) (H++[.live 0 g]) {w with heap:=w.heap.push (.cells a T c)}:=by
 refine s.push_any _ _ _ λ_=>.inl ⟨0,g,rfl,?_⟩;obtain⟨f,e,d,b⟩:=i;refine⟨by simp[cx,Gh.at_],.inr ⟨w.heap.size,a,T,c,f,by simp[cx,Gh.at_],by show(w.heap.push (.cells a T c))[w.heap.size]? =_;simp,by simp[cx,Gh.at_],e,d,λj v k=>?_⟩⟩;obtain⟨l,m,n⟩:=b j v k;exact⟨l,m,n.later ((HP.push _ _ _).later X)⟩
def JE.upd(s:JE X h H w){id g g' B:Nat}{arr:Array Value}{T:TypeId}{fz:Nat×Nat}{w':World}(z:H[id]? =some (Eo.live g G))(hg:g≤g')
  (A:g'=g->h.io id=some B/\h.cap id=arr.size) (a:h.io id=some B\/w.heap.size<=B) (hb:w'.heap[B]? =some (.cells arr T fz)) (O: ∀k,k<w.heap.size->k≠B->w'.heap[k]? =w.heap[k]?)
  (S:w'.os=w.os) (D:w'.tape=w.tape) (I:w'.output=w.output) (C:w.heap.size<=w'.heap.size) (hh:gA (cx X h H w) d arr fz):
  JE X (h.at_ id (some B) g' arr.size) (H.set id (.live g' d)) w'/\HP h H w (h.at_ id (some B) g' arr.size) (H.set id (.live g' d)) w':=by
 have t:id<H.length:=by rcases Aq id H.length with p|p;exact p;rw[Cj p]at z;cases z
 have x:h.gen id=g:=(s.live id g G z).1;have U:HP h H w (h.at_ id (some B) g' arr.size) (H.set id (.live g' d)) w':=by refine⟨S,D,I,C,λk P hn=>?_,k!,λi o=>?_,λi o e=>?_,λk ho=>?_,λk r hr=>⟨r,?_⟩⟩;refine O k P λe=>?_;subst e;rcases a with a|a;exact hn ⟨id,_,z,k!,a⟩;omega;by_cases e:i=id;subst e;simp[Gh.at_,x,hg];simp[Gh.at_,e];by_cases e':i=id;subst e';simp only[Gh.at_,if_true]at e⊢;have:=A (e.trans x);exact⟨this.1.symm,this.2.symm⟩;simp[Gh.at_,e'];obtain⟨i,l,u,b,p⟩:=ho;rcases JR t u with⟨o,m⟩|⟨rfl,_⟩;exact .inl ⟨i,l,m,b,by simpa[Gh.at_,o]using p⟩;simp[Gh.at_]at p;subst p;rcases a with a|a;exact .inl ⟨i,_,z,k!,a⟩;exact .inr a;have R:=Nf hr;refine(O k R λe=>?_).trans hr;subst e;rcases a with a|a;rcases(s.live id g G z).2 with⟨hn,_⟩|⟨Y,Z,T',ad,f',y,E,_⟩;rw[show(cx X h H w).io id=h.io id from rfl,a]at hn;cases hn;rw[show(cx X h H w).io id=h.io id from rfl,a]at y;injection y with e;subst e;rw[show(cx X h H w).w.heap=w.heap from rfl,hr]at E;cases E;omega
 have hl:=U.later X;have c: ∀{i:Nat} {l:Eo},i≠id->H[i]? =some l->l≠ .dead->h.io i=some B->False:=by intro i l o u b n;rcases a with a|a;exact o (s.inj i id l _ B u z b k! n a);have:=s.io_at u b n;omega
 refine⟨s.of_ext U (λi l u b=>?_) (λi i' l M k u p F L J K=>?_),U⟩;rcases JR t u with⟨o,m⟩|⟨rfl,rfl⟩;refine .inl ⟨m,by simp[Gh.at_,o],by simp[Gh.at_,o],by simp[Gh.at_,o],λY n=>O Y (s.io_at m b n) λe=>?_⟩;subst e;exact c o m b n;obtain⟨f,Q,N,q⟩:=hh;refine .inr (.inl ⟨g',d,rfl,by simp[cx,Gh.at_],.inr ⟨B,arr,T,fz,f,by simp[cx,Gh.at_],hb,by simp[cx,Gh.at_],Q,N,λj v hj=>?_⟩⟩);obtain⟨p1,p2,p3⟩:=q j v hj;exact⟨p1,p2,p3.later hl⟩;rcases JR t u with⟨V,l⟩|⟨rfl,_⟩<;>rcases JR t p with⟨W,M⟩|⟨rfl,_⟩;exact s.inj _ _ _ _ k l M F L (by simpa[Gh.at_,V]using J) (by simpa[Gh.at_,W]using K);simp[Gh.at_]at K;subst K;exact(c V l F (by simpa[Gh.at_,V]using J)).elim;simp[Gh.at_]at J;subst J;exact(c W M L (by simpa[Gh.at_,W]using K)).elim;rfl
end
def zY(h:w.heap[N]? =some (.cells i a u))(B:Nat):w.frozen? ⟨N,B,none⟩=(decide (u.1<=B)&&decide (B<u.2)):=by unfold World.frozen?;rw[h]
def UP{P:Program}{B off:Nat}{T:TypeId}{h:Nat×Nat}: ∀(g:List Value) (i:Nat) (a:Array Value) (w:World),w.heap[B]? =some (.cells a T h)→off+i+g.length≤a.size→
  (∀j,j<a.size->(decide (h.1<=j)&&decide (j<h.2))=false)->(∀v∈g,v.oneCell'=true)->
  ∃d b,(storeCells ⟨B,off,none⟩ g i).run P w= .ok () d/\d.heap[B]? =some (.cells b T h)/\b.size=a.size/\(∀j,b[j]? =if off+i<=j/\j<off+i+g.length then g[j-(off+i)]? else a[j]?)/\(∀k,k≠B->d.heap[k]? =w.heap[k]?)/\d.os=w.os/\d.tape=w.tape/\d.output=w.output/\d.heap.size=w.heap.size
 |[],i,a,w,hb,_,_,_=>⟨w,a,rfl,hb,rfl,λj=>by rw[if_neg k!],λ_ _=>rfl,rfl,rfl,rfl,rfl⟩
 |v::g,i,a,w,hb,hle,hfz,h1=>by
  simp only[By]at hle;have o:w.cell? ⟨B,off+i,none⟩=some (a[off+i]' o!):=by rw[PN (w:=w) hb];exact O5 o!
  have p:w.frozen? ⟨B,off+i,none⟩=false:=by rw[zY hb];exact hfz _ o!
  have c:(store ⟨B,off+i,none⟩ v).run P w= .ok () (w.setCell ⟨B,off+i,none⟩ v):=by rw[run_store P w _ v .plain (h1 v k!),o];simp[p]
  have l:(w.setCell ⟨B,off+i,none⟩ v).heap[B]? =some (.cells (a.setIfInBounds (off+i) v) T h):=by simp[World.setCell,pI,hb]
  obtain⟨d,b,r,s,t,x,y,z,A,C,D⟩:=UP (P:=P) (off:=off) g (i+1) (a.setIfInBounds (off+i) v) (w.setCell ⟨B,off+i,none⟩ v) l w!
   (by simpa using hfz) (λu q=>h1 u (CV _ q))
  refine⟨d,b,?_,s,by rw[t];simp,λj=>?_,λk n=>?_,z,A,C,by rw[D];simp[World.setCell]⟩;simp only[storeCells,OQ,Sem.run_bind,c,Result.andThen_ok];exact r;rw[x];by_cases m:j=off+i;subst m;rw[if_neg o!,if_pos k!,Array.getElem?_setIfInBounds_self_of_lt o!];simp;by_cases f:off+(i+1)<=j/\j<off+(i+1)+g.length;rw[if_pos f,if_pos w!,show j-(off+i)=(j-(off+(i+1)))+1 from by omega];rfl;rw[if_neg f,if_neg w!,rW (λe=>m e.symm)];rw[y k n];simp[World.setCell,pI,Ne.symm n]
section
variable {P:Program} {N:Nat} {o:Oper} {env:Env} {H:Ar} {K:AY->Ar->Prop}
def JT.alloc(t:o.op= .alloc a)(g:Xq P a=some d)(f:K (.ptr H.length 0 0) (H++[.live 0 d])):JT P N o env H K:=by
 apply Cy (by rw[t];rfl);intro X h z w s Q;obtain⟨i,v,e,c,j⟩:=cE (cx X h H w) g;have b:(execOp z.eval o).run P w= .ok (.value (.pointer (some ⟨w.heap.size,0,none⟩))) {w with heap:=w.heap.push (.cells v.cells a)}:=by unfold execOp;rw[t];simp[Instr.alloc,zeroValue,typeInfo,e,c,newVar,newRow]
 unfold Oper.wp;rw[b,Oper.upon_value];refine⟨_,_,_,_,rfl,f,?_,s.sim.push v.cells a (0,0) d (Pj j),HP.push _ _ _⟩;exact .ptr (by simp[cx]) (by simp[cx,Gh.at_]) rfl λ_=>⟨w.heap.size,by simp[cx,Gh.at_],rfl⟩
def JT.box(c:o.op= .box a m)(g:BH env m=e)(f:e.solid=true)(t:K (.ptr H.length 0 0) (H++[.live 0 e.cells])):JT P N o env H K:=by
 apply Cy (by rw[c];rfl);intro X h x w s Q;have d:=C8 s.env m;rw[g]at d;have i:=Vn d f;have b:(execOp x.eval o).run P w= .ok (.value (.pointer (some ⟨w.heap.size,0,none⟩))) {w with heap:=w.heap.push (.cells (x.eval m).cells a)}:=by unfold execOp;rw[c];simp[Instr.box,newVar,newRow]
 unfold Oper.wp;rw[b,Oper.upon_value];refine⟨_,_,_,_,rfl,t,?_,s.sim.push _ a (0,0) e.cells (Pj i),HP.push _ _ _⟩;exact .ptr (by simp[cx]) (by simp[cx,Gh.at_]) rfl λ_=>⟨w.heap.size,by simp[cx,Gh.at_],rfl⟩
def JT.store{y:Operand}{id g off:Nat}{v:AY}{cs:List AY}{b:Bool}(ho:o.op= .store a m y)(hx:BH env m= .ptr id g off)(hy:BH env y=v)(hs:v.solid=true)
  (he:H[id]? =some (Eo.live g cs)) (ht:tI P a=some (b,v.cells.length)) (J:off+v.cells.length<=cs.length) (V:K .any (H.set id (.live g (Vm cs off v.cells)))):JT P N o env H K:=by
 apply Cy (by rw[ho];rfl);intro X h x w s Q;have Z:=C8 s.env m;rw[hx]at Z;have Y:=C8 s.env y;rw[hy]at Y;have rz:=Vn Y hs;obtain⟨I,F⟩:=s.sim.live id g cs he;obtain⟨B,i,S⟩: ∃B,h.io id=some B/\x.eval m= .pointer (some ⟨B,off,none⟩):=by
  generalize x.eval m=c at Z;cases Z with
  |ptr al O h1 hc=>obtain⟨B,i,rfl⟩:=hc I;exact⟨B,i,rfl⟩
 rcases F with⟨hn,_⟩|⟨B',D,T,R,f,z,hb,E,ad,G,t⟩;rw[show(cx X h H w).io id=h.io id from rfl,i]at hn;cases hn;rw[show(cx X h H w).io id=h.io id from rfl,i]at z;injection z with e;subst e;generalize U:x.eval y=c at Y rz;obtain⟨M,A,W⟩:c.cells.size=v.cells.length/\(∀(j:Nat) (d:Value),c.cells[j]? =some d->d.oneCell'=true)/\(∀(j:Nat) (u:AY) (d:Value),v.cells[j]? =some u->c.cells[j]? =some d->Bi (cx X h H w) u d):=by cases rz with|agg p q r=>exact⟨p,q,r⟩
 obtain⟨w',n,p1,p2,p3,p4,p5,p6,p7,p8,p9⟩:=UP (P:=P) (off:=off) c.cells.toList 0 D w hb w! G (λd hd=>by obtain⟨j,C⟩:=Eh hd;exact A j d (by simpa using C));have L:(execOp x.eval o).run P w= .ok .skip w':=by unfold execOp;rw[ho];simp only[S,U,Instr.storeAt,Instr.sureAddr,Sem.run_bind,Sem.run_pure,Result.andThen_ok,storeVar,K5 ht];rw[if_neg (by simp[M])];simp only[Result.andThen_ok,p1]
 have hh:gA (cx X h H w) (Vm cs off v.cells) n R:=by
  refine⟨λj=>if off<=j/\j<off+v.cells.length then c.cells.getD (j-off) undef else f j,by rw[iD J];omega,by rw[p3];exact G,λj u C=>?_⟩;rw[qm J]at C;rw[p4];simp only[SS,Di,M,PK];split at C;rename_i l;rw[if_pos l,if_pos l];have hl:j-off<c.cells.size:=o!
  have O:c.cells[j-off]? =some (c.cells[j-off]):=O5 hl;have e:c.cells.getD (j-off) undef=c.cells[j-off]:=by simp[hl]
  rw[e];exact⟨O,A _ _ O,W _ u _ C O⟩;rename_i l;rw[if_neg l,if_neg l];exact t j u C
 obtain⟨q1,q2⟩:=s.sim.upd (g':=g) (B:=B) (arr:=n) (T:=T) (fz:=R) (w':=w') he (Ai _) (λ_=>⟨i,by rw[p3];exact E.symm⟩) (.inl i) p2 (λk _ V=>p5 k V) p6 p7 p8 (by rw[p9];exact Ai _) hh;unfold Oper.wp;rw[L,Oper.upon_skip];exact⟨_,_,_,_,rfl,V,.any _,q1,q2⟩
end
section
variable {X:Nat->Prop} {h:Gh} {H:Ar} {w w':World}
def HP.grow(b:w'.os=w.os)(f:w'.tape=w.tape)(d:w'.output=w.output)(e:w.heap.size<=w'.heap.size)(c: ∀k,k<w.heap.size->w'.heap[k]? =w.heap[k]?):HP h H w h H w':=⟨b,f,d,e,λB a _=>c B a,Ai _,λ_ _=>Ai _,λ_ _ _=>⟨rfl,rfl⟩,λ_ h=>.inl h,λB r a=>⟨r,(c B (Nf a)).trans a⟩⟩
def JE.grow(s:JE X h H w)(c:w'.os=w.os)(i:w'.tape=w.tape)(f:w'.output=w.output)(g:w.heap.size<=w'.heap.size)(e: ∀k,k<w.heap.size->w'.heap[k]? =w.heap[k]?):JE X h H w':=s.of_ext (HP.grow c i f g e) (λ_ _ d b=>.inl ⟨d,rfl,rfl,rfl,λB a=>e B (s.io_at d b a)⟩) s.inj
def HP.virt:HP h H w (h.at_ H.length none 0 0) (H++[.live 0 []]) w where
 os:=rfl
 tape:=rfl
 output:=rfl
 size:=Ai _
 keep B _ _:=rfl
 n:=k!
 gen id hid:=by simp[Gh.at_,BW hid]
 same id hid _:=by simp[Gh.at_,BW hid]
 fresh B ho:=by obtain⟨id,e,b,d,a⟩:=ho;rcases I0 b with⟨c,b⟩|⟨rfl,rfl⟩;exact .inl ⟨id,e,b,d,by simpa[Gh.at_,BW c]using a⟩;simp[Gh.at_]at a
 loops B r hB:=⟨r,hB⟩
theorem JE.virt(s:JE X h H w):JE X (h.at_ H.length none 0 0) (H++[.live 0 []]) w:=by refine s.of_ext HP.virt (λid e f m=>?_) λid n e o B j k a b c d=>?_;rcases I0 f with⟨l,f⟩|⟨rfl,rfl⟩;grind[Gh.at_];exact .inr (.inl ⟨0,[],rfl,by simp[cx,Gh.at_],.inl ⟨by simp[cx,Gh.at_],rfl⟩⟩);rcases I0 j with⟨l1,g⟩|⟨rfl,_⟩<;>rcases I0 k with⟨l2,i⟩|⟨rfl,_⟩;exact s.inj _ _ _ _ B g i a b (by simpa[Gh.at_,BW l1]using c) (by simpa[Gh.at_,BW l2]using d);simp[Gh.at_]at d;simp[Gh.at_]at c;rfl
def JE.bump(s:JE X h H w){id g:Nat}{cs:List AY}(n:H[id]? =some (Eo.live g cs))(hn:h.io id=none):
  JE X (h.at_ id none (g+1) (h.cap id)) (H.set id (.live (g+1) [])) w/\HP h H w (h.at_ id none (g+1) (h.cap id)) (H.set id (.live (g+1) [])) w:=by
 have a:id<H.length:=by rcases Aq id H.length with b|b;exact b;rw[Cj b]at n;cases n
 have c:h.gen id=g:=(s.live id g cs n).1;have own: ∀B,owned (h.at_ id none (g+1) (h.cap id)) (H.set id (.live (g+1) [])) B->owned h H B:=by rintro B ⟨i,e,j,l,b⟩;rcases JR a j with⟨f,d⟩|⟨rfl,_⟩;exact⟨i,e,d,l,by simpa[Gh.at_,f]using b⟩;simp[Gh.at_]at b
 have u:HP h H w (h.at_ id none (g+1) (h.cap id)) (H.set id (.live (g+1) [])) w:=by refine⟨rfl,rfl,rfl,Ai _,λk A hn=>rfl,k!,λi f=>?_,λi f e=>?_,λB C=>.inl (own B C),λB r y=>⟨r,y⟩⟩;by_cases e:i=id;subst e;simp[Gh.at_,c];simp[Gh.at_,e];by_cases m:i=id;subst m;simp[Gh.at_,c]at e;simp[Gh.at_,m]
 refine⟨s.of_ext u (λi e j l=>?_) (λi F e m k j b o p q t=>?_),u⟩;rcases JR a j with⟨f,d⟩|⟨rfl,rfl⟩;exact .inl ⟨d,by simp[Gh.at_,f],by simp[Gh.at_,f],by simp[Gh.at_,f],λB z=>rfl⟩;exact .inr (.inl ⟨g+1,[],rfl,by simp[cx,Gh.at_],.inl ⟨by simp[cx,Gh.at_],rfl⟩⟩);rcases JR a j with⟨D,v⟩|⟨rfl,_⟩<;>rcases JR a b with⟨E,x⟩|⟨rfl,_⟩;exact s.inj _ _ _ _ k v x o p (by simpa[Gh.at_,D]using q) (by simpa[Gh.at_,E]using t);simp[Gh.at_]at t;simp[Gh.at_]at q;rfl
end
def NY(H:Ar)(sz:Nat):AY->Option (Nat×List AY)
 | .vs sz' rows=>if sz=sz' then some (rows.length,rows.flatMap AY.cells)else none
 | .sl id g sz' off len=>
  match H[id]? with
  |some (.live g' cs)=>if g=g'/\sz=sz'/\off+len*sz<=cs.length then some (len,(cs.drop off).take (len*sz))else none
  |_=>none
 | .nils=>some (0,[])
 |_=>none
theorem OL{P:Program}{X:Nat→Prop}{h:Gh}{H:Ar}{w:World}{v:AY}{c:Value}{sz m:Nat}{J:List AY}(s:JE X h H w)(r:Bi (cx X h H w) v c)(N:0<sz)(hr:NY H sz v=some (m,J)):
  ∃a cap S,c= .slice a m cap/\J.length=m*sz/\js (cx X h H w) J S/\(∀u∈S,u.oneCell'=true)/\(Builtin.lenOf c).run P w= .ok m w/\(Builtin.firstCells sz m c).run P w= .ok S.toArray w:=by
 cases r with
 |nils=>simp only[NY,Al,D6]at hr;obtain⟨rfl,rfl⟩:=hr;exact⟨none,0,[],rfl,k!,⟨rfl,λ_ _ _ h=>by cases h⟩,(λ_ h=>by cases h),rfl,rfl⟩
 | @vs R b a cap f y Z D ha hv=>
  simp only[NY]at hr;split at hr;rename_i F;subst F;simp only[Al,D6]at hr;obtain⟨rfl,rfl⟩:=hr;have q:=nS D;cases b with
  |nil=>refine⟨a,cap,[],rfl,k!,⟨rfl,λ_ _ _ h=>by cases h⟩,(λ_ h=>by cases h),rfl,?_⟩;cases a<;>simp[Builtin.firstCells,loadCells,loadCellsFrom]
  |cons e0 E=>
   obtain⟨B,k,rfl,hO,hB,L⟩:=ha k!;generalize e0::E=b at*;have K: ∀j,j<b.length*sz-> ∃e v,b[j/sz]? =some e/\e.cells[j%sz]? =some v:=by intro j o;have F:j/sz<b.length:=(Nat.div_lt_iff_lt_mul N).2 o;have I:b[j/sz]? =some (b[j/sz]):=At F;grind[Nat.mod_lt,List.getElem?_eq_getElem]
   refine⟨_,cap,(List.range (b.length*sz)).map λj=>f (j/sz) (j%sz),rfl,q,⟨by simp[q],λj v d o G=>?_⟩,λu O=>?_,rfl,?_⟩;grind[flat_get,Nat.lt_or_ge,List.getElem?_eq_none,List.getElem?_range,Option.some.injEq];grind;have:=run_loadCells (P:=P) w ⟨B,k,none⟩ (b.length*sz) (λj=>f (j/sz) (j%sz)) λj o=>by obtain⟨e,v,I,Q⟩:=K j o;rw[OQ];have V:=(L _ e _ v I Q).1;rw[Nat.div_add_mod' j sz]at V;exact V
   grind[Builtin.firstCells]
  cases hr
 | @sl id g R k len c ao hg F L=>
  simp only[NY]at hr;split at hr;rename_i g' l I;split at hr;rename_i x;obtain⟨rfl,rfl,ap⟩:=x;simp only[Al,D6]at hr;obtain⟨rfl,rfl⟩:=hr;obtain⟨A,z⟩:=s.live id g l I;rcases L A with⟨n,rfl,rfl,rfl⟩|⟨B,cap,n,y,M,rfl⟩;exact⟨none,0,[],rfl,k!,⟨k!,λ_ _ _ _ h=>by cases h⟩,(λ_ h=>by cases h),rfl,rfl⟩;rcases z with⟨hn,_⟩|⟨U,ad,T,fz,f,p,hb,W,Y,al,i⟩;rw[hn]at n;cases n;have:U=B:=by rw[n]at p;injection p with e;exact e.symm
  subst this;refine⟨_,cap,(List.range (len*sz)).map λj=>f (k+j),rfl,w!,⟨w!,λj v d o G=>?_⟩,λu O=>?_,rfl,?_⟩;have C:j<len*sz:=by grind[Nat.lt_or_ge,List.getElem?_eq_none]
  rw[aG,if_pos C,L6]at o;rw[CO,Sp C]at G;simp only[Bp,Al]at G;subst G;exact(i _ v o).2.2;simp only[B0,I4]at O;obtain⟨j,o,rfl⟩:=O;have t:l[k+j]? =some (l[k+j]' o!):=At o!;exact(i _ _ t).2.1;have:=run_loadCells (P:=P) w ⟨U,k,none⟩ (len*sz) (λj=>f (k+j)) λj o=>by have t:l[k+j]? =some (l[k+j]' o!):=At o!;rw[OQ,PN (w:=w) hb];exact(i _ _ t).1
  simpa[Builtin.firstCells]using this;cases hr;cases hr
 |_=>simp only[NY]at hr;cases hr
theorem xK(a b:Nat)(h:b<a):Builtin.nextslicecap a b<=2*a+2048:=by grind[Builtin.nextslicecap,Builtin.growBy]
def RT(P:Program)(e:TypeId):Bool:=
 match P.info? e with
 |some i=>decide (i.bytes<=1048576)&&(match i.zero with|some z=>decide (z.cells.size=i.size)|none=>false)
 |none=>false
section
variable {P:Program} {N:Nat} {o:Oper} {env:Env} {H:Ar} {K:AY->Ar->Prop}
theorem TY(h:RT P a=true): ∃i z,P.info? a=some i/\i.bytes<=1048576/\i.zero=some z/\z.cells.size=i.size:=by grind[RT]
theorem jI{i:TypeInfo}(h:tI P a=some (r,N))(t:P.info? a=some i):i.size=N:=by unfold tI at h;grind
theorem JT.buildSlice{t e:TypeId}{len sz:Nat}{f:Array (Nat×Operand)}{W:List AY}(ho:o.op= .buildSlice t len f)(he:eI P t=some (none,e,sz))(a0:0<sz)(a5:RT P e=true)
  (C:f.toList.map (·.1)=List.range len) (a7:f.toList.map (λp=>BH env p.2)=W) (O: ∀v∈W,v.solid=true/\v.cells.length=sz) (L:len<=4096/\sz<=4096) (hk:K (.vs sz W) H):JT P N o env H K:=by
 apply Cy (by rw[ho];rfl);intro X h a w s Q;obtain⟨a1,b,hi⟩:=QC he;obtain⟨i,z,D,_,hz,a8⟩:=TY a5;have A:=jI hi D;have V:W.length=len:=by have n:=congrArg List.length C;grind[List.length]
 let g:List Value:=f.toList.map λp=>a.eval p.2;have U:g.length=len:=by grind[List.length]
 have M: ∀(j:Nat) (v:AY) (c:Value),W[j]? =some v->g[j]? =some c->Bi (cx X h H w) (.agg v.cells) (.agg c.cells)/\v.cells.length=sz:=by
  intro j v c G Y;have hm:=O v (BM G);refine⟨?_,hm.2⟩;subst a7;simp only[g,CO]at G Y;cases Z:f.toList[j]? with
  |none=>rw[Z]at G;cases G
  |some p=>rw[Z]at G Y;simp only[Bp,Al]at G Y;subst G Y;exact Vn (C8 s.env p.2) hm.1
 have y: ∀c∈g,c.cells.size=sz:=by
  intro c Y;obtain⟨j,B⟩:=Eh Y;have E:j<W.length:=by grind[Nat.lt_or_ge,List.getElem?_eq_none]
  obtain⟨n,r⟩:=M j _ c (At E) B;cases n<;>grind
 have R:(f.map λ(q:Nat×Operand)=>(q.1,a.eval q.2)).toList=(g.zipIdx 0).map λx=>(x.2,x.1):=by
  apply I5;intro j;simp only[Array.toList_map,CO,List.getElem?_zipIdx,EQ,g];cases Z:f.toList[j]? with
  |none=>rfl
  |some p=>
   have n:(f.toList.map (·.1))[j]? =some p.1:=by rw[CO,Z];rfl
   rw[C]at n;have E:j<len:=by rcases Aq j len with r|r;exact r;rw[Cj (by simpa using r)]at n;cases n
   rw[Sp E]at n;simp only[Al]at n;simp[n]
 have a4:(g.flatMap λc=>c.cells.toList).length=len*sz:=by
  clear R;have: ∀l:List Value,(∀c∈l,c.cells.size=sz)->(l.flatMap λc=>c.cells.toList).length=l.length*sz:=by
   intro l;induction l with
   |nil=>simp
   |cons c l ih=>intro V;simp only[IJ,Ad,Di,V c k!,ih (λd I=>V d (CV _ I)),By,Gt];omega
  rw[this g y,U]
 have al: ∀(j:Nat) (c:Value) (q:Nat) (d:Value),g[j]? =some c->c.cells[q]? =some d->(g.flatMap λc=>c.cells.toList)[j*sz+q]? =some d:=by
  have: ∀(l:List Value),(∀c∈l,c.cells.size=sz)-> ∀(j:Nat) (c:Value) (q:Nat) (d:Value),l[j]? =some c->c.cells[q]? =some d->(l.flatMap λc=>c.cells.toList)[j*sz+q]? =some d:=by
   intro l;induction l with
   |nil=>intro _ j c q d B;simp at B
   |cons c0 l ih=>
    intro V j c q d B I;simp only[IJ];have h0:=V c0 k!;cases j with
    |zero=>simp at B;subst B;rw[Nat.zero_mul,EQ,CK (by rcases Aq q c0.cells.size with r|r;simpa using r;rw[pH r]at I;cases I)];simpa using I
    |succ j=>rw[Cb (by rw[Di,h0,Gt];omega),Di,h0];rw[show(j+1)*sz+q-sz=j*sz+q from by rw[Gt];omega];exact ih (λd I=>V d (CV _ I)) j c q d (by simpa using B) I
  exact this g y
 have F: ∃m:Array Value,(execOp a.eval o).run P w= .ok (.value (.slice (some ⟨w.heap.size,0,none⟩) len len)) {w with heap:=w.heap.push (.cells m e)}/\m.toList=g.flatMap λc=>c.cells.toList:=by
  unfold execOp;rw[ho];by_cases h0:len=0;subst h0;have:g=[]:=Eg U;refine⟨#[],?_,by rw[this];rfl⟩;have Z:f= #[]:=by have n:=congrArg List.length C;simp at n;exact n
  simp[Instr.buildSlice,run_underlying a1,K5 hi,Z,Instr.fill,newRow,show Array.range 0= #[]from rfl];refine⟨(g.flatMap λc=>c.cells.toList).toArray,?_,rfl⟩;have ap: ¬len*i.size=0:=by rw[A];exact Nat.mul_ne_zero h0 o!
  have a6: ¬len*i.size>2^24:=by rw[A];have:=jz L.1 L.2;omega
  have hf:=Go.Great.fill_whole (s:=sz) a0 g ((Array.range (len*i.size)).map (z.cells[· %z.cells.size]!)) y (by simp[U,A]);have:=run_buildSlice (P:=P) w t e len (f.map λ(q:Nat×Operand)=>(q.1,a.eval q.2)) _ i z a1 D hz a6 ap (by rw[R,A]at*;exact hf);simp only[Sem.run_bind];rw[show(f.map λx=>match x with|(i,x)=>(i,a.eval x))=(f.map λ(q:Nat×Operand)=>(q.1,a.eval q.2))from rfl,this];rfl
 obtain⟨m,F,ad⟩:=F;unfold Oper.wp;rw[F,Oper.upon_value];have ax:=s.sim.grow (w':={w with heap:=w.heap.push (.cells m e)}) rfl rfl rfl k! (λk hk=>by simp[Sl,BW hk]);have J:=HP.grow (h:=h) (H:=H) (w:=w) (w':={w with heap:=w.heap.push (.cells m e)}) rfl rfl rfl k! (λk hk=>by simp[Sl,BW hk]);refine⟨_,_,h,H,rfl,hk,?_,ax,J⟩;subst V;refine .vs (λj q=>((g.getD j undef).cells.getD q undef)) (Ai _) a0 (λj v B=>(O v (BM B)).2) (λao=>⟨w.heap.size,0,rfl,?_,by simp[cx],λj v q u B hq=>?_⟩) λj v q u B hq=>?_;rintro(hX|ho);have:=(s.sim.out _ hX).1;omega;obtain⟨id,e1,n,ao,r⟩:=ho;have:=s.sim.io_at n ao r;omega;all_goals
  have E:j<g.length:=by rcases Aq j W.length with r|r;omega;rw[Cj r]at B;cases B
  have S:g[j]? =some (g[j]):=At E;have a3:g.getD j undef=g[j]:=by simp[Jd,S]
  obtain⟨r1,r2⟩:=M j v _ B S;rw[a3];cases r1 with
  |agg hs n G=>
   have ar:q<(g[j]).cells.size:=by rcases Aq q v.cells.length with r|r;omega;rw[Cj r]at hq;cases hq
   have T:(g[j]).cells[q]? =some ((g[j]).cells[q]):=O5 ar;have a2:(g[j]).cells.getD q undef=(g[j]).cells[q]:=by simp[ar]
   rw[a2];first
    |exact(G q u _ hq T).later (J.later X)
    |(refine⟨?_,n q _ T⟩
      have hb:(w.heap.push (.cells m e))[w.heap.size]? =some (.cells m e (0,0)):=k!
      rw[EQ];show World.cell? {w with heap:=w.heap.push (.cells m e)} _=_;rw[PN (w:={w with heap:=w.heap.push (.cells m e)}) hb,<-PK,ad];exact al j _ q _ S T)
end
end Go.Ab
