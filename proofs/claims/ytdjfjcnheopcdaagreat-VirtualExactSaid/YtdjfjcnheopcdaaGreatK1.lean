/- Texts of wip, joined and shortened by wip/tools/pack.py; nothing is assumed. -/
import Derived.Calls
import Derived.Below
import Derived.RangeFuncRecord
import Derived.OrdersIn
import Derived.Lib.FrozenHead
import Derived.Orders
import Derived.Laws.Cells
import Derived.Laws.Entries
import Derived.Laws.StructEq
import Derived.ChangeKeysEq
import Derived.Laws.BytesString
import Derived.Laws.Tables
import Derived.Great.FillDense
import Derived.Great.BuildSlice
namespace Go
theorem n!{A B:Prop}(h: ¬A:=by decide):A->B:=λa=>absurd a h
theorem o!{P:Prop}(h:P:=by omega):P:=h
theorem d!{P:Prop}(h:P:=by dsimp only;omega):P:=h
theorem g!{P:Prop}(h:P:=by decide):P:=h
theorem k!{P:Prop}(h:P:=by simp):P:=h
theorem q!{P:Prop}(h:P:=by grind):P:=h
theorem w!{P:Prop}(h:P:=by simp;omega):P:=h
theorem v!{P:Prop}(h:P:=by assumption):P:=h
theorem u!{P:Prop}(h:P:=by dsimp only;decide):P:=h
theorem t!{P:Prop}(h:P:=by simp_all):P:=h
end Go
noncomputable section
set_option linter.all false
namespace Go
def oZ:=@Array.eq_empty_of_size_eq_zero
def kF:=@Array.extract_size
def P3:=@Array.getD_eq_getD_getElem?
def U3:=@Array.getElem?_append_left
def oh:=@Array.getElem?_append_right
def L8:=@Array.getElem?_eq_getElem
def oi:=@Array.getElem?_eq_none
def uY:=@Array.getElem?_eq_none_iff
def Zv:=@Array.getElem?_eq_some_iff
def Wl:=@Array.getElem?_map
def Zo:=@Array.getElem?_modify
def SX:=@Array.getElem?_push
def rC:=@Array.getElem?_setIfInBounds_ne
def Nd:=@Array.getElem?_toList
def Dk:=@Array.length_toList
def rD:=@Array.mem_of_getElem?
def lf:=@Array.size_setIfInBounds
def lg:=@BitVec.eq_of_getLsbD_eq
def Zp:=@BitVec.ofInt_natCast
def Zq:=@BitVec.toNat_ofNat
def gh:=@BitVec.xor_assoc
def Zr:=@BitVec.xor_self
def gi:=@BitVec.zero_xor
def BU:=@Bool.and_eq_true
def WQ:=@Bool.and_self
def PF:=@Bool.and_true
def gj:=@Bool.eq_false_iff
def PG:=@Bool.false_eq_true
def WS:=@Bool.not_eq_true'
def Cm:=@Bool.not_true
def WT:=@Bool.or_eq_true
def QU:=@Decidable.byContradiction
def EM:=@Int.eq_ofNat_of_zero_le
def gl:=@Int.fdiv_eq_ediv_of_nonneg
def Ae:=@Int.le_refl
def lh:=@Int.le_trans
def gp:=@Int.lt_or_le
def lj:=@Int.mul_ediv_add_emod
def Dl:=@Int.toNat_natCast
def JO:=@Int.toNat_of_nonneg
def lk:=@List.Pairwise.imp_of_mem
def rE:=@List.Perm.eq_of_pairwise
def ll:=@List.all_cons
def F3:=@List.all_eq_true
def lm:=@List.all_nil
def ln:=@List.any_eq_true
def A2:=@List.append_assoc
def lq:=@List.append_eq_append_iff
def EO:=@List.append_inj
def Db:=@List.append_nil
def ED:=@List.cons_append
def Zs:=@List.drop_append
def lu:=@List.drop_append_of_le_length
def Nf:=@List.drop_drop
def QV:=@List.drop_eq_getElem_cons
def gq:=@List.drop_eq_nil_of_le
def QW:=@List.drop_left
def lw:=@List.drop_left'
def Uf:=@List.drop_of_length_le
def ly:=@List.drop_sublist
def gr:=@List.drop_zero
def EP:=@List.eq_nil_of_length_eq_zero
def H7:=@List.ext_getElem?
def rF:=@List.extract_eq_take_drop
def rG:=@List.filterMap_append
def Ip:=@List.filter_append
def Ug:=@List.filter_cons
def rH:=@List.filter_cons_of_neg
def rI:=@List.filter_cons_of_pos
def gu:=@List.filter_nil
def Zt:=@List.flatMap_append
def Iq:=@List.flatMap_cons
def lz:=@List.flatMap_nil
def mA:=@List.flatten_cons
def WU:=@List.foldl_append
def WV:=@List.foldl_cons
def QX:=@List.getD_eq_getElem?_getD
def CO:=@List.getElem?_append_left
def Ch:=@List.getElem?_append_right
def gv:=@List.getElem?_cons_succ
def Zu:=@List.getElem?_cons_zero
def JP:=@List.getElem?_drop
def Au:=@List.getElem?_eq_getElem
def Cn:=@List.getElem?_eq_none
def Kb:=@List.getElem?_eq_some_iff
def CD:=@List.getElem?_map
def Dm:=@List.getElem?_of_mem
def QY:=@List.getElem?_range
def WW:=@List.getElem?_set
def Dy:=@List.getElem?_set_ne
def H8:=@List.getElem?_set_self
def Zw:=@List.getElem?_take
def JQ:=@List.getElem?_take_of_lt
def Zx:=@List.getElem?_toArray
def rJ:=@List.getElem?_zip_eq_some
def PH:=@List.getElem_mem
def Ag:=@List.length_append
def Bo:=@List.length_cons
def FJ:=@List.length_drop
def Fe:=@List.length_filter_le
def Bs:=@List.length_map
def Ba:=@List.length_nil
def HD:=@List.length_replicate
def bg:=@List.length_set
def od:=@List.length_singleton
def BR:=@List.length_take
def jP:=@List.length_take_le
def Md:=@List.map_append
def Me:=@List.map_congr_left
def Bv:=@List.map_cons
def jQ:=@List.map_drop
def bh:=@List.map_id
def Mf:=@List.map_map
def HE:=@List.map_nil
def Pw:=@List.map_toArray
def Ao:=@List.mem_append
def Gc:=@List.mem_append_left
def Mg:=@List.mem_append_right
def Av:=@List.mem_cons
def Cd:=@List.mem_cons_of_mem
def Jp:=@List.mem_cons_self
def BM:=@List.mem_filter
def OS:=@List.mem_filterMap
def Hh:=@List.mem_flatMap
def Ub:=@List.mem_iff_getElem
def D7:=@List.mem_iff_getElem?
def Bh:=@List.mem_map
def R7:=@List.mem_map_of_mem
def BP:=@List.mem_of_getElem?
def OT:=@List.mem_of_mem_drop
def Fl:=@List.mem_of_mem_take
def Px:=@List.mem_or_eq_of_mem_set
def Hi:=@List.mem_range
def BC:=@List.mem_singleton
def oe:=@List.mem_zipIdx_iff_getElem?
def By:=@List.nil_append
def Py:=@List.nodup_append
def GB:=@List.nodup_cons
def Jq:=@List.nodup_iff_pairwise_ne
def OU:=@List.nodup_nil
def HF:=@List.pairwise_iff_getElem
def Pz:=@List.pairwise_map
def jR:=@List.perm_ext_iff_of_nodup
def jS:=@List.replicate_succ
def R8:=@List.set_append_right
def Wg:=@List.set_set
def og:=@List.singleton_append
def bi:=@List.size_toArray
def Uc:=@List.sum_cons
def Ct:=@List.take_add_one
def jT:=@List.take_append
def Di:=@List.take_append_drop
def bj:=@List.take_append_of_le_length
def Wi:=@List.take_left
def Gd:=@List.take_left'
def Hj:=@List.take_length
def BQ:=@List.take_of_length_le
def Kk:=@List.take_take
def bk:=@List.zip_append
def bm:=@Nat.add_assoc
def jU:=@Nat.add_comm
def FN:=@Nat.add_mul
def jV:=@Nat.add_sub_cancel
def Wj:=@Nat.add_sub_cancel_left
def P0:=@Nat.add_zero
def Jr:=@Nat.beq_refl
def DG:=@Nat.eq_of_beq_eq_true
def Ud:=@Nat.eq_zero_or_pos
def Kl:=@Nat.le_of_ble_eq_true
def Aq:=@Nat.le_refl
def DH:=@Nat.le_trans
def DM:=@Nat.lt_of_lt_of_le
def Aw:=@Nat.lt_or_ge
def P1:=@Nat.lt_trichotomy
def P2:=@Nat.min_eq_left
def R9:=@Nat.mod_eq_of_lt
def Wk:=@Nat.mod_lt
def jW:=@Nat.mul_le_mul
def OV:=@Nat.mul_le_mul_right
def Be:=@Nat.ne_of_lt
def bn:=@Nat.pow_le_pow_right
def Ge:=@Nat.sub_self
def EL:=@Nat.zero_add
def Bi:=@Nat.zero_le
def Ue:=@Ne.symm
def Dt:=@Option.bind_eq_some_iff
def AD:=@Option.bind_some
def jX:=@Option.getD_some
def bo:=@Option.isSome_iff_exists
def SC:=@Option.map_eq_some_iff
def Bl:=@Option.map_some
def BV:=@Option.some.inj
def Am:=@Option.some.injEq
def jY:=@Option.toList_some
def DN:=@Prod.ext
def Du:=@Prod.mk.injEq
def jZ:=@Sum.elim_inr
def bp:=@UInt8.toNat_ofNat'
end Go
namespace Go.Ab
inductive AZ where
 |bool (b:Bool)
 |int (k:IntKind) (n:Int)
 |str (s:List UInt8)
 |nilp
 |ptr (id g off:Nat)
 |vptr (cs:List AZ)
 |nils
 |vs (sz:Nat) (rows:List AZ)
 |sl (id g sz off len:Nat)
 |fn (f:Fn) (first caps:List AZ)
 |yf (id:Nat)
 |mp (id:Nat)
 |itp (id m:Nat)
 |nilf
 |agg (cs:List AZ)
 |tup (vs:List AZ)
 |any
 deriving Inhabited
def AZ.cells:AZ->List AZ
 | .agg cs=>cs
 |v=>[v]
structure Cx where
 w:World
 n:Nat
 io:Nat->Option Nat
 gen:Nat->Nat
 cap:Nat->Nat
 O:Nat->Prop
inductive Bp(x:Cx):AZ->Value->Prop where
 |bool (b:Bool):Bp x (.bool b) (.bool b)
 |int (k:IntKind) (n:Int):Bp x (.int k n) (.int k n)
 |str {s:List UInt8} (t:ByteArray) (h:t.data.toList=s):Bp x (.str s) (.string t)
 |nilp:Bp x .nilp (.pointer none)
 |ptr {id g off:Nat} {c:Value} (hid:id<x.n) (hg:g≤x.gen id) (h1:c.oneCell'=true)
   (hc:x.gen id=g-> ∃B,x.io id=some B/\c= .pointer (some ⟨B,off,none⟩)):Bp x (.ptr id g off) c
 |vptr {cs:List AZ} {B off:Nat} (f:Nat→Value) (hO: ¬x.O B) (hB:B<x.w.heap.size)
   (hc: ∀(j:Nat) (v:AZ),cs[j]? =some v->x.w.cell? ⟨B,off+j,none⟩=some (f j)/\(f j).oneCell'=true)
   (hv: ∀(j:Nat) (v:AZ),cs[j]? =some v->Bp x v (f j)):Bp x (.vptr cs) (.pointer (some ⟨B,off,none⟩))
 |nils:Bp x .nils (.slice none 0 0)
 |vs {sz:Nat} {rows:List AZ} {a:Option Addr} {cap:Nat} (f:Nat→Nat→Value) (hcap:rows.length≤cap) (hsz:0<sz)
   (hrow: ∀(j:Nat) (e:AZ),rows[j]? =some e->e.cells.length=sz)
   (ha:rows≠ []-> ∃B off,a=some ⟨B,off,none⟩/\ ¬x.O B/\B<x.w.heap.size/\
    ∀(j:Nat) (e:AZ) (i:Nat) (v:AZ),rows[j]? =some e->e.cells[i]? =some v->x.w.cell? ⟨B,off+(j*sz+i),none⟩=some (f j i)/\(f j i).oneCell'=true)
   (hv: ∀(j:Nat) (e:AZ) (i:Nat) (v:AZ),rows[j]? =some e->e.cells[i]? =some v->Bp x v (f j i)):Bp x (.vs sz rows) (.slice a rows.length cap)
 |sl {id g sz off len:Nat} {c:Value} (hid:id<x.n) (hg:g≤x.gen id) (h1: ∃a cap,c= .slice a len cap)
   (hc:x.gen id=g->(x.io id=none/\len=0/\off=0/\c= .slice none 0 0)\/
    ∃B cap,x.io id=some B/\len<=cap/\off+cap*sz<=x.cap id/\c= .slice (some ⟨B,off,none⟩) len cap):Bp x (.sl id g sz off len) c
 |fn {f:Fn} {first caps:List AZ} {first' caps':Array Value} (h1:first'.size=first.length) (h2:caps'.size=caps.length)
   (hv1: ∀(j:Nat) (v:AZ) (c:Value),first[j]? =some v->first'[j]? =some c->Bp x v c) (hv2: ∀(j:Nat) (v:AZ) (c:Value),caps[j]? =some v->caps'[j]? =some c->Bp x v c):
   Bp x (.fn f first caps) (.func f first' caps')
 |yf {id:Nat} {c:Value} (hid:id<x.n) (h1:c.oneCell'=true) (hc:x.gen id=0-> ∃B,x.io id=some B/\c= .func (.yield B) #[] #[]):Bp x (.yf id) c
 |mp {id:Nat} {c:Value} (hid:id<x.n) (h1:c.oneCell'=true) (hc:x.gen id=0-> ∃B,x.io id=some B/\c= .map (some B)):Bp x (.mp id) c
 |itp {id m:Nat} {c:Value} (hid:id<x.n) (hm:m<x.n) (h1:c.oneCell'=true) (hc:x.gen id=0-> ∃B,x.io id=some B/\c= .pointer (some ⟨B,0,none⟩)/\(x.gen m=0->x.io m=some (x.cap id))):Bp x (.itp id m) c
 |nilf:Bp x .nilf .nilFunc
 |agg {cs:List AZ} {cs':Array Value} (h:cs'.size=cs.length) (h1: ∀(j:Nat) (c:Value),cs'[j]? =some c→c.oneCell'=true)
   (hv: ∀(j:Nat) (v:AZ) (c:Value),cs[j]? =some v->cs'[j]? =some c->Bp x v c):Bp x (.agg cs) (.agg cs')
 |tup {vs:List AZ} {vs':Array Value} (h:vs'.size=vs.length)
   (hv: ∀(j:Nat) (v:AZ) (c:Value),vs[j]? =some v->vs'[j]? =some c->Bp x v c):Bp x (.tup vs) (.tuple vs')
 |any (c:Value):Bp x .any c
structure Cx.Later(x y:Cx):Prop where
 size:x.w.heap.size<=y.w.heap.size
 keep: ∀B,B<x.w.heap.size-> ¬x.O B-> ∀off,y.w.cell? ⟨B,off,none⟩=x.w.cell? ⟨B,off,none⟩
 own: ∀B,B<x.w.heap.size->y.O B->x.O B
 n:x.n<=y.n
 gen: ∀id,id<x.n->x.gen id<=y.gen id
 same: ∀id,id<x.n->y.gen id=x.gen id->y.io id=x.io id/\y.cap id=x.cap id
variable {N t:Nat}{a I:TypeId}{w z:World}{b A:Value}{P:Program}{c:Nat→Prop}{d:List AZ}{e p F:AZ}{f:Cx}{i:Array Value}{j:Act}{k J:Operand}{l:Option (List Deferred)}{o:Oper}{n:Code}{X:Nat->Prop}{q:TypeInfo}{r:List Nat}{s:Bool}{v:List Value}{x:Nat×Nat}{y:Nat->Nat}{C:IntKind}{D:FuncId}{E:BinOp}{G:Func}{L:Obj}
theorem jE(h:z.heap[N]? =w.heap[N]?)(a:Nat):z.cell? ⟨N,a,none⟩=w.cell? ⟨N,a,none⟩:=by grind[World.cell?]
theorem Bp.later{x y:Cx}(h:x.Later y)(r:Bp x e b):Bp y e b:=by
 induction r with
 |bool c=>exact .bool c
 |int k n=>exact .int k n
 |str t J=>exact .str t J
 |nilp=>exact .nilp
 |ptr a w d m=>refine .ptr (DM a h.n) (DH w (h.gen _ a)) d λv=>?_;have d:=h.gen _ a;have l:=h.same _ a o!;grind
 |vptr f q g m K p=>refine .vptr f (λo=>q (h.own _ g o)) (DM g h.size) (λj e H=>?_) p;rw[h.keep _ g q];grind
 |nils=>exact .nils
 |vs f s C u G K p=>refine .vs f s C u (λA=>?_) p;obtain⟨B,F,v,q,g,m⟩:=G A;refine⟨B,F,v,(λo=>q (h.own _ g o)),DM g h.size,λj v i e H N=>?_⟩;rw[h.keep _ g q];grind
 |sl a w d m=>refine .sl (DM a h.n) (DH w (h.gen _ a)) d λv=>?_;have d:=h.gen _ a;have l:=h.same _ a o!;grind
 |fn d l _ _ D E=>exact .fn d l D E
 |yf a d m=>refine .yf (DM a h.n) d λv=>?_;have d:=h.gen _ a;have l:=h.same _ a o!;grind
 |mp a d m=>refine .mp (DM a h.n) d λv=>?_;have d:=h.gen _ a;have l:=h.same _ a o!;grind
 |itp a z d m=>refine .itp (DM a h.n) (DM z h.n) d λv=>?_;have d:=h.gen _ a;have l:=h.same _ a o!;obtain⟨B,g,I,O⟩:=m o!;refine⟨B,l.1.trans g,I,λv=>?_⟩;have L:=h.gen _ z;have M:=h.same _ z o!;grind
 |nilf=>exact .nilf
 |agg h d _ p=>exact .agg h d p
 |tup h _ p=>exact .tup h p
 |any b=>exact .any b
abbrev Env:=List (Nat×AZ)
structure iy where
 n:Nat
 env:Env
 params:Array Tmp
 assign:Code
 body:Code
 state:LoopState
 pending:Option Code
inductive FZ where
 |dead
 |live (g:Nat) (cells:List AZ)
 |lp (L:iy)
 |mp (k:IntKind) (es:List (Int×AZ))
 |it (n:Nat) (seen:List Nat)
 deriving Inhabited
def FZ.isB:FZ->Bool
 | .mp _ _=>true
 | .it _ _=>true
 |_=>false
abbrev Ax:=List FZ
structure Gh where
 io:Nat->Option Nat
 gen:Nat->Nat
 cap:Nat->Nat
def owned(h:Gh)(H:Ax)(B:Nat):Prop:= ∃id e,H[id]? =some e/\e≠FZ.dead/\h.io id=some B
def cx(X:Nat->Prop)(h:Gh)(H:Ax)(w:World):Cx:=⟨w,H.length,h.io,h.gen,h.cap,λB=>X B\/owned h H B⟩
def xc(x:Cx)(id g:Nat)(cs:List AZ):Prop:=
 x.gen id=g/\((x.io id=none/\cs=[])\/ ∃(B:Nat) (arr:Array Value) (T:TypeId) (fz:Nat×Nat) (f:Nat->Value),x.io id=some B/\x.w.heap[B]? =some (.cells arr T fz)/\arr.size=x.cap id/\
  cs.length<=arr.size/\(∀i,i<arr.size->(decide (fz.1<=i)&&decide (i<fz.2))=false)/\
  ∀(j:Nat) (v:AZ),cs[j]? =some v->arr[j]? =some (f j)/\(f j).oneCell'=true/\Bp x v (f j))
def sg(x:Cx)(id:Nat)(L:iy):Prop:=
 x.gen id=0/\ ∃(B:Nat) (r:Loop),x.io id=some B/\x.w.heap[B]? =some (.loop r)/\r.state=L.state/\r.pending=L.pending/\r.params=L.params/\r.assign=L.assign/\r.body=L.body/\r.tmps.size=L.n/\
  ∀t v,(t,v)∈L.env->t<L.n/\Bp x v (r.tmps.getD t undef)
def BAt(h:Gh)(w:World)(id:Nat):FZ->Prop
 | .mp k es=> ∃(B:Nat) (arr:Array MapEntry),h.io id=some B∧h.gen id=0∧w.heap[B]? =some (.map arr arr.size)∧arr.size=es.length∧
   ∀(j:Nat) (p:Int×AZ),es[j]? =some p-> ∃e:MapEntry,arr[j]? =some e/\e.born=j/\e.key= .int k p.1/\ ∀x,Bp x p.2 e.val
 | .it n seen=> ∃B,h.io id=some B/\h.gen id=0/\w.heap[B]? =some (.mapIter (some (h.cap id)) n seen.toArray n)
 |_=>True
structure Ix(X:Nat->Prop)(h:Gh)(H:Ax)(w:World):Prop where
 out: ∀B,X B->B<w.heap.size/\ ¬owned h H B
 live: ∀(id g:Nat) (cs:List AZ),H[id]? =some (FZ.live g cs)->xc (cx X h H w) id g cs
 lp: ∀(id:Nat) (L:iy),H[id]? =some (FZ.lp L)->sg (cx X h H w) id L
 inj: ∀(id id':Nat) (e e':FZ) (B:Nat),H[id]? =some e->H[id']? =some e'->e≠ .dead->e'≠ .dead->h.io id=some B->h.io id'=some B->id=id'
 bld: ∀(id:Nat) (e:FZ),H[id]? =some e->e.isB=true->BAt h w id e
variable {H O:Ax}{h M:Gh}{g:Env}{m:FZ}{K:AZ->Ax->Prop}{u:AZ→Ax→Prop}
def Ix.bldKeep(s:Ix c h H w)
  (key: ∀(id:Nat) (e:FZ),O[id]? =some e->e.isB=true->H[id]? =some e/\M.io id=h.io id/\M.gen id=h.gen id/\M.cap id=h.cap id/\ ∀B (o:Obj),h.io id=some B->w.heap[B]? =some o->(∀X,o≠ .deferred X)->z.heap[B]? =w.heap[B]?):
  ∀(id:Nat) (e:FZ),O[id]? =some e->e.isB=true->BAt M z id e:=by
 intro id e v q;obtain⟨m,g,a,f,r⟩:=key id e v q;have b:=s.bld id e m q;cases e with
 |mp k x=>obtain⟨B,j,i,l,d,u⟩:=b;exact⟨B,j,g.trans i,a.trans l,(r B _ i d (λX=>k!)).trans d,u⟩
 |it n seen=>obtain⟨B,i,l,d⟩:=b;exact⟨B,g.trans i,a.trans l,by rw[f];exact(r B _ i d (λX=>k!)).trans d⟩
 |_=>trivial
def NZ(x:Cx)(env:Env)(a:Act):Prop:= ∀t v,(t,v)∈env->t<a.tmps.size/\Bp x v (a.tmps.getD t undef)
structure St(X:Nat->Prop)(h:Gh)(N:Nat)(env:Env)(H:Ax)(a:Act)(w:World):Prop where
 sim:Ix X h H w
 env:NZ (cx X h H w) env a
 size:a.tmps.size=N
structure HC(h:Gh)(H:Ax)(w:World)(h':Gh)(H':Ax)(w':World):Prop where
 os:w'.os=w.os
 tape:w'.tape=w.tape
 output:w'.output=w.output
 size:w.heap.size<=w'.heap.size
 keep: ∀B,B<w.heap.size-> ¬owned h H B->w'.heap[B]? =w.heap[B]?
 n:H.length<=H'.length
 gen: ∀id,id<H.length->h.gen id<=h'.gen id
 same: ∀id,id<H.length->h'.gen id=h.gen id->h'.io id=h.io id/\h'.cap id=h.cap id
 fresh: ∀B,owned h' H' B->owned h H B\/w.heap.size<=B
 loops: ∀(B:Nat) (r:Loop),w.heap[B]? =some (.loop r)-> ∃r':Loop,w'.heap[B]? =some (.loop r')
def HC.refl(h:Gh)(H:Ax)(w:World):HC h H w h H w:=⟨rfl,rfl,rfl,Aq _,λ_ _ _=>rfl,Aq _,λ_ _=>Aq _,λ_ _ _=>⟨rfl,rfl⟩,λ_ h=>.inl h,λ_ r h=>⟨r,h⟩⟩
theorem HC.trans{c j k:Gh}{f g i:Ax}{l m o:World}(a:HC c f l j g m)(b:HC j g m k i o):HC c f l k i o where
 os:=b.os.trans a.os
 tape:=b.tape.trans a.tape
 output:=b.output.trans a.output
 size:=DH a.size b.size
 keep B hB hn:=(b.keep B (DM hB a.size) λd=>by rcases a.fresh B d with h|h;grind;omega).trans (a.keep B hB hn)
 n:=DH a.n b.n
 gen id hid:=DH (a.gen id hid) (b.gen id (DM hid a.n))
 same id hid e:=by have q:=a.gen id hid;have s:=b.gen id (DM hid a.n);have u:=a.same id hid o!;have v:=b.same id (DM hid a.n) o!;grind
 fresh B d:=by rcases b.fresh B d with h|h;exact a.fresh B h;exact .inr (DH a.size h)
 loops B r h:=by obtain⟨p,c⟩:=a.loops B r h;exact b.loops B p c
def HC.later{h c:Gh}{H b:Ax}{w d:World}(e:HC h H w c b d)(X:Nat->Prop):(cx X h H w).Later (cx X c b d)where
 size:=e.size
 keep B hB hO off:=jE (e.keep B hB λa=>hO (.inr a)) off
 own B hB a:=by rcases a with a|a;exact .inl a;rcases e.fresh B a with h|h;exact .inr h;simp only[cx]at hB;omega
 n:=e.n
 gen:=e.gen
 same:=e.same
def NZ.later{x y:Cx}(l:x.Later y)(h:NZ x g j):NZ y g j:=λt v m=>⟨(h t v m).1,(h t v m).2.later l⟩
def EJ(P:Program)(F:FuncId)(args:List AZ)(H:Ax)(Q:AZ->Ax->Prop):Prop:=
 ∀(X:Nat->Prop) (h:Gh) (w:World) (cargs:Array Value),Ix X h H w->cargs.size=args.length->
  (∀(j:Nat) (v:AZ) (c:Value),args[j]? =some v->cargs[j]? =some c->Bp (cx X h H w) v c)->
  Calls P F cargs w λe w'=> ∃c v h' H',e= .returned c/\Q v H'/\Ix X h' H' w'/\Bp (cx X h' H' w') v c/\HC h H w h' H' w'
def FR(r:Option Nat):Fence:={Fence.wide with round:=r}
def YU(a:Act)(w:World)(a':Act)(w':World):Prop:=
 ∃ds,a'.defers=ds++a.defers/\ds.Nodup/\ ∀d∈ds,∃D,d={target:=.collected D,args:= #[]}/\w.heap.size<=D/\w'.heap[D]? =some (.deferred (some []))
def kE(r:Option Nat)(w:World):Prop:= ∀l,r=some l-> ∃x:Loop,w.heap[l]? =some (.loop x)
def YU.same{b:Act}{w c:World}(h:b.defers=j.defers):YU j w b c:=⟨[],by simp[h],.nil,λ_ h=>by cases h⟩
def Ix.deferred(s:Ix X h H w)(j:w.heap[N]? =some (.deferred l)): ¬owned h H N:=by
 rintro⟨id,e,D,o,b⟩;cases e with
 |dead=>exact o rfl
 |live g p=>rcases(s.live id g p D).2 with⟨hn,_⟩|⟨B,m,T,t,f,a,i,_⟩;rw[show(cx X h H w).io id=h.io id from rfl,b]at hn;cases hn;rw[show(cx X h H w).io id=h.io id from rfl,b]at a;injection a with e;subst e;rw[show(cx X h H w).w.heap=w.heap from rfl,j]at i;cases i
 |lp L=>obtain⟨_,B,r,a,i,_⟩:=s.lp id L D;rw[show(cx X h H w).io id=h.io id from rfl,b]at a;injection a with e;subst e;rw[show(cx X h H w).w.heap=w.heap from rfl,j]at i;cases i
 |mp k q=>obtain⟨B,m,c,_,d,_⟩:=s.bld id _ D rfl;rw[b]at c;injection c with e;subst e;rw[j]at d;cases d
 |it n seen=>obtain⟨B,c,_,d⟩:=s.bld id _ D rfl;rw[b]at c;injection c with e;subst e;rw[j]at d;cases d
theorem oI(h:w.heap[N]? =some L):N<w.heap.size:=q!
def HC.defs(x:HC h H w M O z)(s:Ix X h H w)(a:w.heap[N]? =some (.deferred l)):z.heap[N]? =some (.deferred l):=(x.keep N (oI a) (s.deferred a)).trans a
theorem YU.trans{X:Nat->Prop}{h j b:Gh}{H f n:Ax}{a a1 a2:Act}{w e m:World}(o:YU a w a1 e)(s:Ix X j f e)(z:HC h H w j f e)(x:HC j f e b n m)(p:YU a1 e a2 m):YU a w a2 m:=by obtain⟨g,B,t,v⟩:=o;obtain⟨i,C,u,y⟩:=p;refine⟨i++g,q!,Py.2 ⟨u,t,λd r A q E=>?_⟩,λd c=>?_⟩;grind;rcases Ao.1 c with c|c;obtain⟨D,k,b,l⟩:=y d c;exact⟨D,k,DH z.size b,l⟩;obtain⟨D,k,b,l⟩:=v d c;exact⟨D,k,b,x.defs s l⟩
def kE.later{r:Option Nat}{h c:Gh}{H b:Ax}{w a:World}(k:kE r w)(x:HC h H w c b a):kE r a:=λl e=>by obtain⟨y,d⟩:=k l e;exact x.loops l y d
def Mb(P:Program)(N:Nat)(c:Code)(env:Env)(H:Ax)(Q:Exit->Env->Ax->Prop):Prop:=
 ∀(r:Option Nat) (X:Nat->Prop) (h:Gh) (a:Act) (w:World),St X h N env H a w->kE r w->
  c.wpIn (FR r) 0 P (λe a' w'=> ∃h' env' H',Q e env' H'/\St X h' N env' H' a' w'/\HC h H w h' H' w'/\YU a w a' w') a w
def EJ.mono{P:Program}{F:FuncId}{H:Ax}{Q:AZ->Ax->Prop}(h:EJ P F d H K)(i: ∀v b,K v b->Q v b):EJ P F d H Q:=λX g w a s j hr=>(h X g w a s j hr).mono λ_ _ ⟨c,v,f,b,e,q,r⟩=>⟨c,v,f,b,e,i _ _ q,r⟩
def Mb.mono{P:Program}{N:Nat}{H:Ax}{Q f:Exit->Env->Ax->Prop}(h:Mb P N n g H Q)(j: ∀e b d,Q e b d->f e b d):Mb P N n g H f:=λr X c a w s k=>wpIn_mono (h r X c a w s k) λ_ _ _ ⟨i,b,d,q,r⟩=>⟨i,b,d,j _ _ _ q,r⟩
def sX(K:Env->Ax->Prop)(Q:Exit->Env->Ax->Prop):Exit->Env->Ax->Prop
 | .normal,env,H=>K env H
 |e,env,H=>Q e env H
def mC(id:Nat)(Q:Exit->Env->Ax->Prop):Exit->Env->Ax->Prop
 | .exit id',env,H=>if id'=id then Q .normal env H else Q (.exit id') env H
 |e,env,H=>Q e env H
section rules
variable {P:Program} {N:Nat} {env:Env} {H:Ax} {Q:Exit->Env->Ax->Prop}
def Mb.skip(h:Q .normal env H):Mb P N .skip env H Q:=λ_ _ _ _ _ s _=>wpIn_skip ⟨_,_,_,h,s,HC.refl _ _ _,.same rfl⟩
def Mb.ret(h:Q .ret env H):Mb P N .ret env H Q:=λ_ _ _ _ _ s _=>wpIn_ret ⟨_,_,_,h,s,HC.refl _ _ _,.same rfl⟩
def Mb.exit(h:Q (.exit t) env H):Mb P N (.exit t) env H Q:=λ_ _ _ _ _ s _=>wpIn_exit ⟨_,_,_,h,s,HC.refl _ _ _,.same rfl⟩
def Mb.seq{x y:Code}(h:Mb P N x env H (sX (λb d=>Mb P N y b d Q) Q)):Mb P N (.seq x y) env H Q:=by
 intro r X g a w s k;refine wpIn_seq (wpIn_mono (h r X g a w s k) ?_);rintro e n u ⟨j,b,d,q,f,c,i⟩;cases e with
 |normal=>apply wpIn_mono (q r X j n u f (k.later c));rintro e a2 v ⟨p,env2,m,q2,t,l,o⟩;exact⟨p,env2,m,q2,t,c.trans l,i.trans f.sim c l o⟩
 |_=>exact⟨j,b,d,q,f,c,i⟩
theorem Mb.block{id:Nat}(h:Mb P N n env H (mC id Q)):Mb P N (.block id n) env H Q:=by intro r X g a w s k;refine wpIn_block (wpIn_mono (h r X g a w s k) ?_);rintro e f j ⟨i,b,d,q,r⟩;cases e<;>grind[mC,Exit.inBlock]
def Fz(N n0:Nat)(env:Env)(H:Ax)(env2:Env)(H2:Ax):Prop:=
 n0<=H2.length/\ ∀(X:Nat->Prop) (h:Gh) (a:Act) (w:World),St X h N env H a w->
  ∃h2,St X h2 N env2 H2 a w/\(∀id,id<n0->h2.gen id=h.gen id/\h2.io id=h.io id/\h2.cap id=h.cap id)/\ ∀B,owned h2 H2 B->owned h H B
def Fz.ext{n0:Nat}{d:Gh}{f:Ax}(hn:f.length=n0)(m:n0≤O.length)
  (j: ∀id,id<n0->d.gen id=h.gen id/\d.io id=h.io id/\d.cap id=h.cap id) (l: ∀B,owned d O B->owned h H B) (x:HC M f z h H w):HC M f z d O w where
 os:=x.os
 tape:=x.tape
 output:=x.output
 size:=x.size
 keep:=x.keep
 n:=o!
 gen id hid:=by rw[(j id o!).1];exact x.gen id hid
 same id hid e:=by obtain⟨a,b,c⟩:=j id o!;rw[a]at e;rw[b,c];exact x.same id hid e
 fresh B hB:=x.fresh B (l B hB)
 loops:=x.loops
theorem Fz.refl(N:Nat)(env:Env)(H:Ax):Fz N H.length env H env H:=⟨Aq _,λ_ h _ _ s=>⟨h,s,λ_ _=>⟨rfl,rfl,rfl⟩,λ_ h=>h⟩⟩
def Mb.weak(f:Fz N H.length env H g O)(h:Mb P N n g O Q):Mb P N n env H Q:=by intro r X d a w s k;obtain⟨m,t,c,o⟩:=f.2 X d a w s;apply wpIn_mono (h r X m a w t k);rintro e v x ⟨l,b,i,q,p,u,j⟩;exact⟨l,b,i,q,p,(Fz.ext rfl f.1 c o (HC.refl d H w)).trans u,j⟩
end rules
def Env.get:Env->Nat->AZ
 |[],_=>.any
 |(k,v)::r,t=>if k=t then v else Env.get r t
def Env.put(env:Env)(t:Nat)(v:AZ):Env:=(t,v)::env.filter λp=>decide (p.1≠t)
def Env.putO(env:Env):Option Nat->AZ->Env
 |some t,v=>env.put t v
 |none,_=>env
theorem Nj{env:Env}{t:Nat}:Env.get env t= .any\/(t,Env.get env t)∈env:=by induction env<;>grind[Env.get]
def nP:Value->AZ
 | .bool b=>.bool b
 | .int k n=>.int k n
 | .string s=>.str s.data.toList
 | .pointer none=>.nilp
 | .slice none 0 0=>.nils
 | .nilFunc=>.nilf
 |_=>.any
def zE:Value->AZ
 | .agg cs=>if cs.toList.all (·.oneCell')then .agg (cs.toList.map nP)else .any
 |v=>nP v
theorem mK(x:Cx)(v:Value):Bp x (nP v) v:=by unfold nP;split;exact .bool _;exact .int _ _;exact .str _ rfl;exact .nilp;exact .nils;exact .nilf;exact .any _
theorem uo(x:Cx)(v:Value):Bp x (zE v) v:=by unfold zE;split;rename_i b;split;rename_i h;refine .agg k! (λj c a=>?_) λj v c a d=>?_;grind;grind[mK];exact .any _;exact mK x _
def BL(env:Env):Operand->AZ
 | .tmp t=>env.get t
 | .const v=>zE v
 | .global _=>.any
 | .func f=>.fn (.func f) [] []
def DA(h:NZ f g j)(o:Operand):Bp f (BL g o) (j.eval o):=by
 cases o with
 |tmp t=>rcases Nj (env:=g) (t:=t)with e|m;simp only[BL,e];exact .any _;exact(h _ _ m).2
 |const v=>exact uo f v
 |global x=>exact .any _
 |func a=>exact .fn rfl rfl (λ_ _ _ h=>by simp at h) (λ_ _ _ h=>by simp at h)
theorem NZ.put(h:NZ f g j){d:Nat}{v:AZ}(i:d<j.tmps.size)(x:Bp f v b):NZ f (g.put d v) (j.put (some d) b):=by
 intro t u m;simp only[Act.put];rcases Av.1 m with e|m;simp_all;rw[BM]at m;obtain⟨m,a⟩:=m;have a:t≠d:=q!
 obtain⟨k,c⟩:=h t u m;have:(j.tmps.setIfInBounds d b).getD t undef=j.tmps.getD t undef:=by rw[P3,P3,rC (λe=>a e.symm)]
 grind
def NZ.putO(h:NZ f g j){d:Option Nat}{v:AZ}{c:Value}(b: ∀t,d=some t->t<j.tmps.size)(e:Bp f v c):NZ f (g.putO d v) (j.put d c):=by
 cases d with
 |none=>exact h
 |some d=>exact h.put (b d rfl) e
def XS(a:Act)(d:Option Nat)(c:Value):(a.put d c).tmps.size=a.tmps.size:=by cases d<;>simp[Act.put]
def JC(P:Program)(N:Nat)(o:Oper)(env:Env)(H:Ax)(K:AZ->Ax->Prop):Prop:=
 ∀(r:Option Nat) (X:Nat->Prop) (h:Gh) (a:Act) (w:World),St X h N env H a w-> ∀Q:Exit->Act->World->Prop,
  Oper.wpIn (FR r) 0 P o a w (λa' w'=> ∃c v h' H',a'=a.put o.dst c/\K v H'/\Bp (cx X h' H' w') v c/\Ix X h' H' w'/\HC h H w h' H' w') Q
def JC.mono{P:Program}{N:Nat}{H:Ax}{d:AZ->Ax->Prop}(h:JC P N o g H K)(i: ∀v b,K v b->d v b):JC P N o g H d:=λr X j a w s Q=>Oper.wpIn_mono (λ_ _ ⟨c,v,f,b,e,k,r⟩=>⟨c,v,f,b,e,i _ _ k,r⟩) (h r X j a w s Q)
def Op.plain:Op->Bool
 | .defer _=>false
 |_=>true
def C2(n:Op.plain o.op=true)(h: ∀(X:Nat→Prop) (h:Gh) (a:Act) (w:World),St X h N g H a w→ ∀Q:Exit→Act→World→Prop,
  Oper.wp P o a w (λp b=> ∃c v i e,p=a.put o.dst c/\u v e/\Bp (cx X i e b) v c/\Ix X i e b/\HC h H w i e b) Q):JC P N o g H u:=by
 intro r X z a w s Q;have d:=h X z a w s Q;refine⟨λ_ _=>trivial,?_⟩;rw[Oper.semAt_eq _ _ _ (λc j=>by rw[j]at n;cases n)];unfold Oper.wp at d;generalize (execOp a.eval o).run P w=res at d;have j: ∀{f:FuncId} {args:Array Value} {b:World} {R:Ending->World->Prop},Calls P f args b R->CallsIn (FR r) (0-1) P f args b R:=by
  intro f args b R t;have m:CallsIn Fence.wide (0-1) P f args b R:=callsIn_wide.2 t;cases r with
  |none=>exact m
  |some l=>exact m
 cases res with
 |ok v b=>
  cases v with
  |enter f args=>exact⟨(λh=>by cases h),j d⟩
  |row row args=>refine⟨(λh=>by cases h),λc q _=>?_⟩;obtain⟨v,k,K,y⟩:=d c q;exact⟨v,k,K,stepsIn_wide.2 y⟩
  |round l f tmps assign body=>exact d.elim
  |_=>exact d
 |halt x b=>cases x<;>exact d
def VM(ops:Array Oper)(env:Env)(j:Nat):AZ:=
 match (ops[j]?).bind (·.dst)with
 |some d=>env.get d
 |none=>.any
def Wd(ops:Array Oper)(g:Option (Nat×Bool))(env:Env)(A B:Prop):Prop:=
 match g with
 |none=>A
 |some (j,want)=>
  match VM ops env j with
  | .bool b=>(b=want->A)/\(b=(!want)->B)
  | .tup []=>B
  |_=>False
def Ko(n:Nat)(ops:List Oper):Bool:=ops.all λo=>match o.dst with|some d=>decide (d<n)|none=>true
theorem vD{y:Array Oper}(s:NZ f g j){A B:Prop}(h:Wd y o.guard g A B):
  (Region.wanted o (yielded y j.tmps)=true/\A)\/(Region.wanted o (yielded y j.tmps)=false/\B):=by
 unfold Wd at h;unfold Region.wanted;cases v:o.guard with
 |none=>grind
 |some p=>
  obtain⟨a,k⟩:=p;rw[v]at h;simp only at h⊢;cases x:VM y g a with
  |bool b=>
   rw[x]at h;simp only at h;have r:yielded y j.tmps a=some b:=by
    unfold VM at x;unfold yielded;cases n:(y[a]?).bind (·.dst)with
    |none=>grind
    |some d=>
     rw[n]at x;simp only at x;simp only[AD];rcases Nj (env:=g) (t:=d)with e|m;grind;rw[x]at m;obtain⟨q,hr⟩:=s _ _ m;have:j.tmps[d]? =some (.bool b):=by
      have i:j.tmps.getD d undef= .bool b:=by generalize j.tmps.getD d undef=c at hr;cases hr;rfl
      rw[P3]at i;grind[Array.getElem?_eq_getElem]
     rw[this]
   rw[r];by_cases u:b=k;grind;refine .inr ⟨by simp[u],h.2 ?_⟩;cases b<;>cases k<;>simp_all
  |tup w=>
   cases w with
   |cons _ _=>grind
   |nil=>
    rw[x]at h;simp only at h;refine .inr ⟨?_,h⟩;have r:yielded y j.tmps a=none:=by
     unfold VM at x;unfold yielded;cases n:(y[a]?).bind (·.dst)with
     |none=>rfl
     |some d=>
      rw[n]at x;simp only at x;simp only[AD];rcases Nj (env:=g) (t:=d)with e|m;grind;rw[x]at m;obtain⟨q,hr⟩:=s _ _ m;have i: ∃l,j.tmps.getD d undef= .tuple l:=by generalize j.tmps.getD d undef=c at hr;cases hr;exact⟨_,rfl⟩
      obtain⟨l,i⟩:=i;have:j.tmps[d]? =some (.tuple l):=t!
      rw[this]
    rw[r];rfl
  |_=>grind
section
variable {P:Program} {N:Nat} {env:Env} {H:Ax} {Q:Exit->Env->Ax->Prop}
def Mb.cond{y:Code}{b:Bool}(d:BL env k= .bool b)(h:b=true->Mb P N n env H Q)(f:b=false->Mb P N y env H Q):Mb P N (.cond k n y) env H Q:=by
 intro r X g a w s c;have hr:=DA s.env k;rw[d]at hr;have e:a.eval k= .bool b:=by generalize a.eval k=v at hr;cases hr;rfl
 apply wpIn_cond e;cases b;exact f rfl r X g a w s c;exact h rfl r X g a w s c
end
mutual
def AZ.idsAll(p:Nat->Bool):AZ->Bool
 | .ptr id _ _=>p id
 | .sl id _ _ _ _=>p id
 | .yf id=>p id
 | .mp id=>p id
 | .itp id m=>p id&&p m
 | .vptr cs=>AZ.idsAllL p cs
 | .vs _ rows=>AZ.idsAllL p rows
 | .fn _ a b=>AZ.idsAllL p a&&AZ.idsAllL p b
 | .agg cs=>AZ.idsAllL p cs
 | .tup cs=>AZ.idsAllL p cs
 | .bool _| .int _ _| .str _| .nilp| .nils| .nilf| .any=>true
def AZ.idsAllL(p:Nat->Bool):List AZ->Bool
 |[]=>true
 |v::r=>AZ.idsAll p v&&AZ.idsAllL p r
end
mutual
def AZ.ren(ρ:Nat->Nat):AZ->AZ
 | .ptr id g off=>.ptr (ρ id) g off
 | .sl id g sz off len=>.sl (ρ id) g sz off len
 | .yf id=>.yf (ρ id)
 | .mp id=>.mp (ρ id)
 | .itp id m=>.itp (ρ id) (ρ m)
 | .vptr cs=>.vptr (AZ.renL ρ cs)
 | .vs sz rows=>.vs sz (AZ.renL ρ rows)
 | .fn f a b=>.fn f (AZ.renL ρ a) (AZ.renL ρ b)
 | .agg cs=>.agg (AZ.renL ρ cs)
 | .tup cs=>.tup (AZ.renL ρ cs)
 | .bool b=>.bool b
 | .int k n=>.int k n
 | .str s=>.str s
 | .nilp=>.nilp
 | .nils=>.nils
 | .nilf=>.nilf
 | .any=>.any
def AZ.renL(ρ:Nat->Nat):List AZ->List AZ
 |[]=>[]
 |v::r=>AZ.ren ρ v::AZ.renL ρ r
end
theorem OF(a:Nat->Nat)(l:List AZ):AZ.renL a l=l.map (AZ.ren a):=by induction l<;>grind[AZ.renL]
theorem Da(p:Nat->Bool)(l:List AZ):AZ.idsAllL p l=true↔ ∀v∈l,v.idsAll p=true:=by induction l<;>grind[AZ.idsAllL]
theorem MZ{p:Nat->Bool}(h:AZ.idsAllL p d=true)(a:d[N]? =some e):e.idsAll p=true:=by grind[Da]
theorem sQ(a:Nat->Nat)(v:AZ):(v.ren a).cells=v.cells.map (AZ.ren a):=by cases v<;>simp[AZ.ren,AZ.cells,OF]
def Tv{p:Nat->Bool}(h:e.idsAll p=true): ∀u∈e.cells,u.idsAll p=true:=by
 cases e<;>simp only[AZ.cells,BC]<;>first
  |(intro u a;subst a;exact h)
  |(simp only[AZ.idsAll]at h;exact(Da _ _).1 h)
theorem Bp.ren{x y:Cx}{p:Nat→Bool}{ρ:Nat→Nat}(F: ∀id,p id=true→id<x.n→ρ id<y.n∧y.gen (ρ id)=x.gen id∧y.io (ρ id)=x.io id∧y.cap (ρ id)=x.cap id)
  (Y:y.w=x.w) (hO: ∀B,y.O B->x.O B) {v:AZ}  (r:Bp x v b):v.idsAll p=true->Bp y (v.ren ρ) b:=by
 induction r with
 |bool c=>exact λ_=>.bool c
 |int k n=>exact λ_=>.int k n
 |str t L=>exact λ_=>.str t L
 |nilp=>exact λ_=>.nilp
 | @ptr id g H b A T E z=>intro q;obtain⟨a,c,d,e⟩:=F id q A;refine .ptr a (by rw[c];exact T) E λC=>?_;rw[c]at C;rw[d];exact z C
 | @vptr cs B H f K S z X M=>intro q;simp only[AZ.idsAll]at q;simp only[AZ.ren,OF];refine .vptr f (λo=>K (hO B o)) (by rw[Y];exact S) (λj v l=>?_) λj v l=>?_;grind;grind[Option.some.injEq,MZ]
 |nils=>exact λ_=>.nils
 | @vs sz D a cap f P W al ha X M=>
  intro q;simp only[AZ.idsAll]at q;simp only[AZ.ren,OF];have I: ∀{j:Nat} {e:AZ},(D.map (AZ.ren ρ))[j]? =some e-> ∃u,D[j]? =some u/\e=u.ren ρ:=by grind[Option.some.injEq]
  have G: ∀{u:AZ} {i:Nat} {v:AZ},(u.ren ρ).cells[i]? =some v-> ∃t,u.cells[i]? =some t/\v=t.ren ρ:=by grind[sQ,Option.some.injEq]
  have J:(D.map (AZ.ren ρ)).length=D.length:=k!
  rw[<-J];refine .vs f (by rw[J];exact P) W (λj e l=>?_) (λV=>?_) λj e i v l U=>?_;grind[sQ,List.length_map];obtain⟨B,H,e,K,S,z⟩:=ha (by simpa using V);refine⟨B,H,e,λo=>K (hO B o),by rw[Y];exact S,λj e i v l U=>?_⟩;obtain⟨u,s,rfl⟩:=I l;obtain⟨t,L,rfl⟩:=G U;rw[Y];exact z j u i t s L;obtain⟨u,s,rfl⟩:=I l;obtain⟨t,L,rfl⟩:=G U;exact M j u i t s L (Tv (MZ q s) _ (BP L))
 | @sl id g sz H len b A T E z=>intro q;obtain⟨a,c,d,e⟩:=F id q A;refine .sl a (by rw[c];exact T) E λC=>?_;rw[c]at C;rw[d,e];exact z C
 | @fn f first N Q R E h2 ar ax Z ad=>
  intro q;simp only[AZ.idsAll,BU]at q;simp only[AZ.ren,OF];refine .fn (by simpa using E) (by simpa using h2) (λj v b l z=>?_) λj v b l z=>?_;rw[CD]at l;cases s:first[j]? with
  |none=>rw[s]at l;cases l
  |some u=>rw[s]at l;simp only[Bl,Am]at l;subst l;exact Z j u b s z (MZ q.1 s)
  rw[CD]at l;cases s:N[j]? with
  |none=>rw[s]at l;cases l
  |some u=>rw[s]at l;simp only[Bl,Am]at l;subst l;exact ad j u b s z (MZ q.2 s)
 | @yf id b A E z=>intro q;obtain⟨a,c,d,e⟩:=F id q A;refine .yf a E λC=>?_;rw[c]at C;rw[d];exact z C
 | @mp id b A E z=>intro q;obtain⟨a,c,d,e⟩:=F id q A;refine .mp a E λC=>?_;rw[c]at C;rw[d];exact z C
 | @itp id m b A hm E z=>intro q;simp only[AZ.idsAll,BU]at q;obtain⟨a,c,d,e⟩:=F id q.1 A;obtain⟨a2,b2,d2,e2⟩:=F m q.2 hm;refine .itp a a2 E λC=>?_;rw[c]at C;rw[d,b2,d2,e];exact z C
 |nilf=>exact λ_=>.nilf
 | @agg cs ao h E X M=>
  intro q;simp only[AZ.idsAll]at q;simp only[AZ.ren,OF];refine .agg (by simpa using h) E λj v b l z=>?_;rw[CD]at l;cases s:cs[j]? with
  |none=>rw[s]at l;cases l
  |some u=>rw[s]at l;simp only[Bl,Am]at l;subst l;exact M j u b s z (MZ q s)
 | @tup vs a0 h X M=>
  intro q;simp only[AZ.idsAll]at q;simp only[AZ.ren,OF];refine .tup (by simpa using h) λj v b l z=>?_;rw[CD]at l;cases s:vs[j]? with
  |none=>rw[s]at l;cases l
  |some u=>rw[s]at l;simp only[Bl,Am]at l;subst l;exact M j u b s z (MZ q s)
 |any b=>exact λ_=>.any b
mutual
theorem xM{p:Nat->Bool}{d:Nat->Nat}(c: ∀id,p id=true->d id=id): ∀v:AZ,v.idsAll p=true->v.ren d=v
 | .ptr id g off,h=>by simp only[AZ.ren,c id h]
 | .sl id g sz off len,h=>by simp only[AZ.ren,c id h]
 | .yf id,h=>by simp only[AZ.ren,c id h]
 | .mp id,h=>by simp only[AZ.ren,c id h]
 | .itp id m,h=>by simp only[AZ.idsAll,BU]at h;simp only[AZ.ren,c id h.1,c m h.2]
 | .vptr cs,h=>by simp only[AZ.ren,WM c cs h]
 | .vs sz rows,h=>by simp only[AZ.ren,WM c rows h]
 | .fn f a b,h=>by simp only[AZ.idsAll,BU]at h;simp only[AZ.ren,WM c a h.1,WM c b h.2]
 | .agg cs,h=>by simp only[AZ.ren,WM c cs h]
 | .tup cs,h=>by simp only[AZ.ren,WM c cs h]
 | .bool _,_=>rfl
 | .int _ _,_=>rfl
 | .str _,_=>rfl
 | .nilp,_=>rfl
 | .nils,_=>rfl
 | .nilf,_=>rfl
 | .any,_=>rfl
theorem WM{p:Nat->Bool}{b:Nat->Nat}(a: ∀id,p id=true->b id=id): ∀l:List AZ,AZ.idsAllL p l=true->AZ.renL b l=l
 |[],_=>rfl
 |v::r,h=>by simp only[AZ.idsAllL,BU]at h;simp only[AZ.renL,xM a v h.1,WM a r h.2]
end
def tI(P:Program)(t:TypeId):Option (Bool×Nat):=
 match P.info? t,P.underlying t with
 |some i,some d=>some ((match d with| .struct _| .array _ _=>true|_=>false),i.size)
 |_,_=>none
def Wa(h:tI P a=some (s,N))(w:World):(isAgg a).run P w= .ok s w:=by unfold tI at h;split at h;rename_i i d c t;unfold isAgg;simp only[Sem.run_bind,run_underlying t,Result.andThen_ok];split<;>simp_all;cases h
def K7{P:Program}(h:tI P a=some (s,N))(w:World):(sizeOf a).run P w= .ok N w:=by unfold tI at h;split at h;rename_i i d t c;simp at h;simp[sizeOf,typeInfo,t,h.2];cases h
def PZ(H:Ax):AZ->Nat->Option (List AZ)
 | .ptr id g off,n=>
  match H[id]? with
  |some (.live g' cs)=>if g=g'/\off+n<=cs.length then some ((cs.drop off).take n)else none
  |_=>none
 | .vptr cs,n=>if n<=cs.length then some (cs.take n)else none
 |_,_=>none
def jM(x:Cx)(vs:List AZ)(cs:List Value):Prop:=cs.length=vs.length/\ ∀(j:Nat) (v:AZ) (c:Value),vs[j]? =some v->cs[j]? =some c->Bp x v c
theorem OR(B a j:Nat):(⟨B,a,none⟩:Addr).add j=⟨B,a+j,none⟩:=by grind[Addr.add]
theorem PJ{w:World}(h:w.heap[N]? =some (.cells i a x))(b:Nat):w.cell? ⟨N,b,none⟩=i[b]? :=by grind[World.cell?]
theorem qK(s:Ix c h H w)(r:Bp (cx c h H w) e b)(hr:PZ H e N=some d):
  ∃(B a:Nat) (k:List Value),b= .pointer (some ⟨B,a,none⟩)/\k.length=N/\(∀j u,k[j]? =some u->w.cell? ((⟨B,a,none⟩:Addr).add j)=some u/\u.oneCell'=true)/\jM (cx c h H w) d k:=by
 cases r with
 | @ptr id g a b O Z V x=>
  simp only[PZ]at hr;split at hr;rename_i U k L;split at hr;rename_i m;obtain⟨rfl,F⟩:=m;simp only[Am]at hr;subst hr;obtain⟨t,q⟩:=s.live id g k L;obtain⟨B,o,rfl⟩:=x t;rcases q with⟨hn,_⟩|⟨D,I,T,S,f,l,K,E,A,M,i⟩;rw[hn]at o;cases o;have:D=B:=by rw[show(cx c h H w).io id=some B from o]at l;injection l with G;exact G.symm
  subst this;refine⟨D,a,(List.range N).map (λj=>f (a+j)),rfl,k!,?_,?_,?_⟩;intro j u p;have v:j<N:=by grind[Nat.lt_or_ge,List.getElem?_eq_none]
  have Q:u=f (a+j):=by grind[List.getElem?_range]
  subst Q;have y:k[a+j]? =some (k[a+j]' o!):=Au o!;obtain⟨J,P,_⟩:=i _ _ y;rw[OR,PJ (w:=w) K];exact⟨J,P⟩;grind[List.length_map,List.length_range,List.length_take,List.length_drop];grind[Nat.lt_or_ge,List.getElem?_eq_none,List.getElem?_range,Option.some.injEq];cases hr;cases hr
 | @vptr k B a f Y W x R=>
  simp only[PZ]at hr;split at hr;rename_i A;simp only[Am]at hr;subst hr;refine⟨B,a,(List.range N).map f,rfl,k!,?_,?_,?_⟩;intro j u p;have v:j<N:=by grind[Nat.lt_or_ge,List.getElem?_eq_none]
  rw[CD,QY v]at p;simp only[Bl,Am]at p;subst p;rw[OR];exact x j _ (Au o!);grind[List.length_map,List.length_range,List.length_take];intro j u X p z;have v:j<N:=by rcases Aw j N with C|n;exact C;simp_all[Cn]
  rw[Zw,if_pos v]at p;rw[CD,QY v]at z;simp only[Bl,Am]at z;subst z;exact R j u p;cases hr
 |_=>simp only[PZ]at hr;cases hr
def eJ(P:Program)(t:TypeId)(H:Ax)(v:AZ):Option AZ:=
 match tI P t with
 |some (true,n)=>(PZ H v n).map AZ.agg
 |some (false,_)=>(PZ H v 1).bind List.head?
 |none=>none
theorem vN(s:Ix c h H w)(r:Bp (cx c h H w) e b)(v:eJ P a H e=some p):
  ∃B X l,b= .pointer (some ⟨B,X,none⟩)/\(loadVar a ⟨B,X,none⟩).run P w= .ok l w/\Bp (cx c h H w) p l:=by
 unfold eJ at v;split at v;rename_i n g;cases hr:PZ H e n with
 |none=>grind
 |some o=>rw[hr]at v;simp at v;subst v;obtain⟨B,X,f,rfl,d,k,u⟩:=qK s r hr;refine⟨B,X,.agg f.toArray,rfl,?_,?_⟩;unfold loadVar;simp only[Sem.run_bind,Wa g,Result.andThen_ok,if_true,K7 g];subst d;rw[run_loadCells_list w ⟨B,X,none⟩ f λj e i=>(k j e i).1];rfl;refine .agg (by simpa using u.1) (λj b i=>?_) λj e b i t=>?_;grind;exact u.2 j e b i q!
 rename_i n g;cases hr:PZ H e 1 with
 |none=>grind
 |some o=>
  rw[hr]at v;simp at v;obtain⟨B,X,f,rfl,d,k,u⟩:=qK s r hr;match f,d with
  |[c0],_=>
   match o,u.1 with
   |[u0],_=>simp at v;subst v;refine⟨B,X,c0,rfl,?_,u.2 0 _ _ rfl rfl⟩;unfold loadVar;have m:=(k 0 c0 rfl).1;simp only[Addr.add,if_true]at m;simp[Wa g,m]
 cases v
def jx(P:Program)(env:Env)(H:Ax):ResultVar->Option AZ
 | .tmp t=>some (env.get t)
 | .cell a t=>eJ P t H (env.get a)
def R3(P:Program)(env:Env)(H:Ax):List ResultVar->Option (List AZ)
 |[]=>some []
 |r::rs=>
  match jx P env H r,R3 P env H rs with
  |some v,some vs=>some (v::vs)
  |_,_=>none
def bY(P:Program)(fn:Func)(env:Env)(H:Ax):Option AZ:=
 match R3 P env H fn.results.toList with
 |some [v]=>some v
 |some vs=>some (.tup vs)
 |none=>none
def fx(h:NZ f g j)(t:Nat):Bp f (g.get t) (j.tmps.getD t undef):=DA h (.tmp t)
def qM(tmps:Array Value):ResultVar->Sem Value
 | .tmp t=>pure (tmps.getD t undef)
 | .cell a t=>do loadVar t (<-asAddr (tmps.getD a undef))
def qN(b:Func)(tmps:Array Value):results b tmps=(do
  let a<-b.results.mapM (qM tmps);pure (if h:a.size=1 then a[0]else .tuple a)):=rfl
theorem np{P:Program}{N:Nat}{X:Nat→Prop}{h:Gh}{env:Env}{H:Ax}{a:Act}{w:World}(s:St X h N env H a w): ∀(g:List ResultVar) (i:List AZ),R3 P env H g=some i→
  ∃f,Sem.run P (g.mapM (qM a.tmps)) w= .ok f w/\jM (cx X h H w) i f
 |[],i,hv=>by simp only[R3,Am]at hv;subst hv;exact⟨[],rfl,rfl,λ_ _ _ h=>by cases h⟩
 |r::g,i,hv=>by
  simp only[R3]at hv;split at hv;rename_i v l k n;simp at hv;subst hv;obtain⟨f,o,b⟩:=np s g l n;have e: ∃c,Sem.run P (qM a.tmps r) w= .ok c w/\Bp (cx X h H w) v c:=by
   cases r with
   |tmp t=>simp only[jx,Am]at k;subst k;exact⟨_,rfl,fx s.env t⟩
   |cell x t=>obtain⟨B,y,m,p,q,hr⟩:=vN s.sim (fx s.env x) k;refine⟨m,?_,hr⟩;simp only[qM,p];simp[asAddr,q]
  obtain⟨c,z,hr⟩:=e;refine⟨c::f,?_,by simpa using b.1,?_⟩;simp_all;intro j u d C A;cases j with
  |zero=>grind
  |succ j=>exact b.2 j u d q! q!
  cases hv
theorem zj(s:St c h N g H j w)(d:bY P G g H=some e):
  ∃v,(results G j.tmps).run P w= .ok v w/\Bp (cx c h H w) e v:=by
 unfold bY at d;cases a:R3 P g H G.results.toList with
 |none=>grind
 |some l=>
  rw[a]at d;obtain⟨f,m,b⟩:=np s _ l a;have n:Sem.run P (G.results.mapM (qM j.tmps)) w= .ok f.toArray w:=by grind[Array.mapM_eq_mapM_toList,Sem.run_map,Result.andThen_ok]
  rw[qN];simp only[Sem.run_bind,n];simp only[Result.andThen_ok,Sem.run_pure,Result.ok.injEq,and_true,exists_eq_left'];match l,b with
  |[],b=>simp at d;subst d;have:f=[]:=EP (by simpa using b.1);subst this;exact .tup rfl λX e v i _=>by cases i
  |[v0],b=>
   simp at d;subst d;match f,b.1 with
   |[c0],_=>exact b.2 0 _ _ rfl rfl
  |v0::v1::r,b=>
   simp at d;subst d;have k:f.toArray.size≠1:=by rw[bi,b.1];simp
   rw[dif_neg k];exact .tup (by simpa using b.1) λX e v i o=>b.2 X e v i q!
def NN(n0:Nat)(v:AZ)(H:Ax)(v2:AZ)(H2:Ax):Prop:=
 n0<=H2.length/\ ∀(X:Nat->Prop) (h:Gh) (w:World) (c:Value),Ix X h H w->Bp (cx X h H w) v c->
  ∃h2,Ix X h2 H2 w/\Bp (cx X h2 H2 w) v2 c/\(∀id,id<n0->h2.gen id=h.gen id/\h2.io id=h.io id/\h2.cap id=h.cap id)/\ ∀B,owned h2 H2 B->owned h H B
def NN.refl(v:AZ)(H:Ax)(hn:N<=H.length):NN N v H v H:=⟨hn,λ_ h _ _ s r=>⟨h,s,r,λ_ _=>⟨rfl,rfl,rfl⟩,λ_ h=>h⟩⟩
def AGG(P:Program)(fn:Func)(n0:Nat)(Q:AZ->Ax->Prop):Exit->Env->Ax->Prop
 | .normal,env,H| .ret,env,H=> ∃v v2 H2,bY P fn env H=some v/\NN n0 v H v2 H2/\Q v2 H2
 |_,_,_=>False
def env0:Nat->List AZ->Env
 |_,[]=>[]
 |i,v::r=>(i,v)::env0 (i+1) r
theorem pD{t:Nat}{v:AZ}: ∀{i:Nat} {l:List AZ},(t,v)∈env0 i l->i<=t/\l[t-i]? =some v
 |i,u::r,h=>by simp only[env0,Av]at h;rcases h with⟨rfl,rfl⟩|h;simp;obtain⟨a,b⟩:=pD h;grind
theorem ii{y:Option (List Deferred)}(b:w.heap[N]? =some (.deferred l))(B a:Nat):(w.putObj N (.deferred y)).cell? ⟨B,a,none⟩=w.cell? ⟨B,a,none⟩:=by grind[World.cell?,World.putObj_heap_same,World.putObj_heap_other]
def Ix.shut(s:Ix c h H w){x y:Option (List Deferred)}(J:w.heap[N]? =some (.deferred x)):
  (cx c h H w).Later (cx c h H (w.putObj N (.deferred y)))/\Ix c h H (w.putObj N (.deferred y)):=by
 have C:(cx c h H w).Later (cx c h H (w.putObj N (.deferred y))):=⟨by simp[cx],λB _ _ G=>ii J B G,λ_ _ h=>h,Aq _,λ_ _=>Aq _,λ_ _ _=>⟨rfl,rfl⟩⟩
 have d: ∀{B:Nat} {o:Obj},w.heap[B]? =some o->(∀z,o≠ .deferred z)->(w.putObj N (.deferred y)).heap[B]? =some o:=by intro B o a F;by_cases i:B=N;subst i;rw[J]at a;injection a with e;exact(F x e.symm).elim;rw[World.putObj_heap_other i,a]
 refine⟨C,λB a=>⟨by simpa using(s.out B a).1,(s.out B a).2⟩,λid g K l=>?_,λid L l=>?_,s.inj,s.bldKeep λid e l _=>⟨l,rfl,rfl,rfl,λB o _ a F=>(d a F).trans a.symm⟩⟩;obtain⟨A,n⟩:=s.live id g K l;refine⟨A,?_⟩;rcases n with⟨hn,rfl⟩|⟨B,p,T,M,f,D,q,k,E,u,b⟩;exact .inl ⟨hn,rfl⟩;refine .inr ⟨B,p,T,M,f,D,d q (λz=>k!),k,E,u,λj v U=>?_⟩;obtain⟨V,W,Y⟩:=b j v U;exact⟨V,W,Y.later C⟩;obtain⟨A,B,r,D,q,X,O,P,Q,R,S,I⟩:=s.lp id L l;exact⟨A,B,r,D,d q (λz=>k!),X,O,P,Q,R,S,λt v m=>⟨(I t v m).1,(I t v m).2.later C⟩⟩
theorem HC.shut(x:HC h H w M O z){y a:Option (List Deferred)}(d:w.heap.size<=N)(e:z.heap[N]? =some (.deferred a)):HC h H w M O (z.putObj N (.deferred y))where
 os:=x.os
 tape:=x.tape
 output:=x.output
 size:=by simpa using x.size
 keep B hB hn:=by rw[World.putObj_heap_other o!];exact x.keep B hB hn
 n:=x.n
 gen:=x.gen
 same:=x.same
 fresh:=x.fresh
 loops B r hB:=by obtain⟨f,M⟩:=x.loops B r hB;grind[World.putObj_heap_other]
def dn{P:Program}{A:Func}{N:Nat}{X:Nat→Prop}{g h:Gh}{H b p:Ax}{z:World}{v t:AZ}{f:Env}{a:Act}{Q:AZ→Ax→Prop}(o:bY P A f b=some v)(j:NN H.length v b t p)(B:Q t p):
  ∀(i:List Deferred) (w:World),i.Nodup->(∀d∈i,∃D,d={target:=.collected D,args:= #[]}/\z.heap.size<=D/\w.heap[D]? =some (.deferred (some [])))->
   St X h N f b a w->HC g H z h b w->
   LeavesInM Fence.wide 0 P A a.tmps (λe u=> ∃c v h b,e= .returned c/\Q v b/\Ix X h b u/\Bp (cx X h b u) v c/\HC g H z h b u) i .returning w
 |[],w,_,_,s,x=>by obtain⟨c,m,l⟩:=zj s o;obtain⟨J,n,r,I,K⟩:=j.2 X h w c s.sim l;exact⟨c,m,c,t,J,p,rfl,B,n,r,Fz.ext rfl j.1 I K x⟩
 |d::i,w,hnd,hds,s,x=>by obtain⟨D,rfl,G,q⟩:=hds d k!;simp only[GB]at hnd;refine⟨k!,.inl ⟨D,_,rfl,run_takeDeferred q,?_⟩⟩;have C:=s.sim.shut (y:=none) q;refine dn o j B i _ hnd.2 (λF k=>?_) ⟨C.2,s.env.later C.1,s.size⟩ (x.shut G q);obtain⟨E,rfl,o,j⟩:=hds F (Cd _ k);refine⟨E,rfl,o,?_⟩;rw[World.putObj_heap_other,j];rintro rfl;exact hnd.1 k
theorem J0(E:P.funcs[D]? =some G)(C:G.body=some n)(hn:d.length≤G.ntmps)
  (I:Mb P G.ntmps n (env0 0 d) H (AGG P G H.length u)):EJ P D d H u:=by
 intro X g w a s M hr;have O:NZ (cx X g H w) (env0 0 d) {tmps:=a++Array.replicate (G.ntmps-a.size) undef,defers:=[]}:=by
  intro t v m;obtain⟨_,N⟩:=pD m;have b:t<d.length:=q!
  have L:a[t]? =some (a[t]' o!):=L8 o!;have:(a++Array.replicate (G.ntmps-a.size) undef).getD t undef=a[t]' o!:=by simp_all[U3]
  grind
 refine(callsIn_wide (n:=0)).1 (callsIn_of_wp_marks E C trivial (wpIn_mono (I none X g {tmps:=a++Array.replicate (G.ntmps-a.size) undef,defers:=[]} w ⟨s,O,w!⟩ (λl e=>by cases e)) ?_));rintro e z i ⟨Q,j,c,q,J,K,A,B,y,x⟩;have k: ∀v h f,bY P G j c=some v->NN H.length v c h f->u h f->LeavesInM Fence.wide 0 P G z.tmps (λe i=> ∃n v Q c,e= .returned n/\u v c/\Ix X Q c i/\Bp (cx X Q c i) v n/\HC g H w Q c i) z.defers .returning i:=by intro v h f o p r;rw[B,Db];exact dn o p r A i y x J K
 cases e with
 |normal=>obtain⟨v,h,f,o,p,r⟩:=q;exact k v h f o p r
 |ret=>obtain⟨v,h,f,o,p,r⟩:=q;exact k v h f o p r
 |_=>exact q.elim
def Enters(P:Program)(F:FuncId):Bool:=
 match P.funcs[F]? with
 |some fn=>fn.body.isSome&& !(fn.name== "runtime.NumGoroutine")
 |none=>false
def WN(h:Enters P D=true)(args:Array Value)(w:World):(callFunc D args).run P w= .ok (.enter D args) w:=by unfold Enters at h;split at h;rename_i a c;unfold callFunc;cases b:a.body<;>simp_all;cases h
def FZ.ren(ρ:Nat->Nat):FZ->FZ
 | .dead=>.dead
 | .live g cs=>.live g (AZ.renL ρ cs)
 | .lp L=>.lp {L with env:=L.env.map λp=>(p.1,p.2.ren ρ)}
 | .mp k es=>.mp k es
 | .it n s=>.it n s
def FZ.idsAll(p:Nat->Bool):FZ->Bool
 | .dead=>true
 | .live _ cs=>AZ.idsAllL p cs
 | .lp L=>L.env.all λq=>q.2.idsAll p
 | .mp _ _=>true
 | .it _ _=>true
def X9(H:Ax)(bs:List Nat):Ax:=bs.map λb=>(H.getD b .dead).ren (bs.idxOf ·)
def SE(H:Ax)(bs:List Nat)(j:Nat):Nat:=if j<bs.length then bs.getD j 0 else H.length+(j-bs.length)
def Zh(ρ:Nat->Nat):Ax->List Nat->Ax->Ax
 |H,b::bs,e::es=>Zh ρ (H.set b (e.ren ρ)) bs es
 |H,_,_=>H
def Tx(H:Ax)(bs:List Nat)(Hc:Ax):Ax:=Zh (SE H bs) H bs Hc++(Hc.drop bs.length).map (FZ.ren (SE H bs))
def Ru(c:Nat->Nat): ∀(bs:List Nat) (H a:Ax),(Zh c H bs a).length=H.length
 |[],H,a=>by cases a<;>rfl
 |b::bs,H,[]=>rfl
 |b::bs,H,e::es=>by simp only[Zh];rw[Ru c bs];simp
def dv(c:Nat->Nat){id:Nat}: ∀(bs:List Nat) (H a:Ax),id∉bs->(Zh c H bs a)[id]? =H[id]?
 |[],H,a,_=>by cases a<;>rfl
 |b::bs,H,[],_=>rfl
 |b::bs,H,e::es,h=>by simp only[Av,not_or]at h;simp only[Zh];rw[dv c bs _ _ h.2,Dy (λe=>h.1 e.symm)]
def sU(a:Nat->Nat): ∀(bs:List Nat) (H c:Ax) (j b:Nat),bs.Nodup->bs[j]? =some b->b<H.length->bs.length<=c.length->(Zh a H bs c)[b]? =(c[j]?).map (FZ.ren a)
 |[],_,_,_,_,_,hj,_,_=>by simp at hj
 |b0::bs,H,[],_,_,_,_,_,hl=>by simp at hl
 |b0::bs,H,e::es,j,b,hnd,hj,hb,hl=>by
  simp only[GB]at hnd;simp only[Zh];cases j with
  |zero=>simp at hj;subst hj;rw[dv a bs _ _ hnd.1];simp[hb]
  |succ j=>simp at hj;rw[sU a bs _ es j b hnd.2 hj (by simpa using hb) (by simpa using hl)];simp
def lG(h:N∈r):r.idxOf N<r.length:=List.idxOf_lt_length_of_mem h
theorem dh(h:N∈r):r[r.idxOf N]? =some N:=q!
theorem mf(a:r.Nodup)(h:r[N]? =some t):r.idxOf t=N:=q!
section
variable {X:Nat->Prop} {h:Gh} {H:Ax} {w:World} {bs:List Nat}
mutual
theorem nW: ∀v:AZ,v.idsAll (λ_=>true)=true
 | .itp _ _=>rfl
 | .ptr _ _ _=>rfl
 | .sl _ _ _ _ _=>rfl
 | .yf _=>rfl
 | .mp _=>rfl
 | .vptr c=>O1 c
 | .vs _ d=>O1 d
 | .fn _ a b=>by simp only[AZ.idsAll,O1 a,O1 b,WQ]
 | .agg c=>O1 c
 | .tup c=>O1 c
 | .bool _| .int _ _| .str _| .nilp| .nils| .nilf| .any=>rfl
theorem O1: ∀l:List AZ,AZ.idsAllL (λ_=>true) l=true
 |[]=>rfl
 |v::r=>by simp only[AZ.idsAllL,nW v,O1 r,WQ]
end
def Xs(X:Nat->Prop)(h:Gh)(H:Ax)(bs:List Nat)(B:Nat):Prop:=X B\/ ∃id e,id∉bs/\H[id]? =some e/\e≠FZ.dead/\h.io id=some B
def VV(h:Gh)(bs:List Nat):Gh:=⟨λj=>(bs[j]?).bind h.io,λj=>((bs[j]?).map h.gen).getD 0,λj=>((bs[j]?).map h.cap).getD 0⟩
def vg:m.ren y= .dead↔m= .dead:=by cases m<;>simp[FZ.ren]
theorem iR(d:(X9 H bs)[N]? =some m)(c:m≠ .dead): ∃b a,bs[N]? =some b/\H[b]? =some a/\a≠ .dead/\m=a.ren (bs.idxOf ·):=by grind[X9,FZ.ren]
theorem AB1(e:(X9 H bs)[N]? =some (FZ.live t d)): ∃b a,bs[N]? =some b/\H[b]? =some (FZ.live t a)/\d=AZ.renL (bs.idxOf ·) a:=by obtain⟨b,j,h,f,_,i⟩:=iR e k!;cases j<;>grind[FZ.ren]
theorem bX(d:owned (VV h bs) (X9 H bs) N): ∃b e,b∈bs/\H[b]? =some e/\e≠FZ.dead/\h.io b=some N:=by obtain⟨j,e,f,c,a⟩:=d;grind[iR,VV]
theorem uM(x:Nat)(c:decide (x∈bs)=true)(_:x<(cx X h H w).n):
  bs.idxOf x<(cx (Xs X h H bs) (VV h bs) (X9 H bs) w).n/\(cx (Xs X h H bs) (VV h bs) (X9 H bs) w).gen (bs.idxOf x)=(cx X h H w).gen x/\(cx (Xs X h H bs) (VV h bs) (X9 H bs) w).io (bs.idxOf x)=(cx X h H w).io x/\(cx (Xs X h H bs) (VV h bs) (X9 H bs) w).cap (bs.idxOf x)=(cx X h H w).cap x:=by
 have a:x∈bs:=q!
 have b:=dh a;refine⟨by simpa[cx,X9]using lG a,?_,?_,?_⟩<;>simp[cx,VV,b]
def AB2(B:Nat)(a:(cx (Xs X h H bs) (VV h bs) (X9 H bs) w).O B):(cx X h H w).O B:=by rcases a with(a|⟨id,e,_,d,c,f⟩)|a;exact .inl a;exact .inr ⟨id,e,d,c,f⟩;obtain⟨b,e,_,d,c,f⟩:=bX a;exact .inr ⟨b,e,d,c,f⟩
theorem O5{w:World}(h:w.heap[N]? =some L):N<w.heap.size:=q!
theorem Ix.io_at(s:Ix X h H w)(c:H[N]? =some m)(p:m≠ .dead)(b:h.io N=some t):t<w.heap.size:=by
 cases m with
 |dead=>grind
 |live g l=>obtain⟨_,hn|⟨d,i,T,B,f,a,j,_⟩⟩:=s.live N g l c;rw[show(cx X h H w).io N=h.io N from rfl,b]at hn;grind;rw[show(cx X h H w).io N=h.io N from rfl,b]at a;injection a with m;subst m;exact O5 j
 |lp L=>obtain⟨_,d,r,a,j,_⟩:=s.lp N L c;rw[show(cx X h H w).io N=h.io N from rfl,b]at a;injection a with m;subst m;exact O5 j
 |mp k q=>obtain⟨d,i,e,_,o,_⟩:=s.bld N _ c rfl;grind[O5]
 |it n seen=>obtain⟨d,e,_,o⟩:=s.bld N _ c rfl;grind[O5]
def ah:(m.ren y).isB=m.isB:=by cases m<;>rfl
def BAt.ren{h h':Gh}{w w':World}{id id':Nat}{ρ:Nat->Nat}(b:BAt h w id m)(g:h'.io id'=h.io id)(a:h'.gen id'=h.gen id)(f:h'.cap id'=h.cap id)(l: ∀B (o:Obj),h.io id=some B->w.heap[B]? =some o->w'.heap[B]? =w.heap[B]?):BAt h' w' id' (m.ren ρ):=by
 cases m with
 |mp k p=>obtain⟨B,i,c,j,d,e⟩:=b;exact⟨B,i,g.trans c,a.trans j,(l B _ c d).trans d,e⟩
 |it n seen=>obtain⟨B,c,j,d⟩:=b;exact⟨B,g.trans c,a.trans j,by rw[f];exact(l B _ c d).trans d⟩
 |_=>trivial
theorem Ix.sub(s:Ix X h H w)(K:bs.Nodup)(hb: ∀b∈bs,((H.getD b .dead).idsAll λid=>decide (id∈bs))=true):Ix (Xs X h H bs) (VV h bs) (X9 H bs) w where
 out B n:=by have M: ¬(∃b e,b∈bs/\H[b]? =some e/\e≠FZ.dead/\h.io b=some B)-> ¬owned (VV h bs) (X9 H bs) B:=λhn ho=>hn (bX ho);rcases n with n|⟨id,e,Z,d,o,k⟩;exact⟨(s.out B n).1,M λ⟨b,e,_,d,o,k⟩=>(s.out B n).2 ⟨b,e,d,o,k⟩⟩;exact⟨s.io_at d o k,M λ⟨b,e',hm,x,Q,C⟩=>Z (s.inj id b e e' B d x o Q k C▸hm)⟩
 live j g cs hj:=by
  obtain⟨b,A,a,D,rfl⟩:=AB1 hj;obtain⟨Y,J⟩:=s.live b g A D;refine⟨by simpa[cx,VV,a]using Y,?_⟩;rcases J with⟨hn,rfl⟩|⟨B,N,T,fz,f,y,c,G,ad,W,l⟩;exact .inl ⟨by simpa[cx,VV,a]using hn,rfl⟩;refine .inr ⟨B,N,T,fz,f,by simpa[cx,VV,a]using y,c,by simpa[cx,VV,a]using G,by rw[OF,Bs];exact ad,W,?_⟩;intro i v z;rw[OF,CD]at z;cases hu:A[i]? with
  |none=>rw[hu]at z;cases z
  |some u=>rw[hu]at z;simp only[Bl,Am]at z;subst z;obtain⟨d,k,x⟩:=l i u hu;refine⟨d,k,Bp.ren (p:=λid=>decide (id∈bs)) (λid=>uM id) rfl AB2 x ?_⟩;have:=hb b (BP a);grind[MZ,FZ.idsAll]
 lp j L hj:=by
  obtain⟨b,P,a,D,o,I⟩:=iR hj k!;cases P with
  |dead=>exact(o rfl).elim
  |live g cs=>simp[FZ.ren]at I
  |mp=>simp[FZ.ren]at I
  |it=>simp[FZ.ren]at I
  |lp L0=>simp only[FZ.ren,FZ.lp.injEq]at I;subst I;obtain⟨Y,B,r,y,c,d,k,x,C,h5,h6,h7⟩:=s.lp b L0 D;refine⟨by simpa[cx,VV,a]using Y,B,r,by simpa[cx,VV,a]using y,c,d,k,x,C,h5,h6,λt v m=>?_⟩;obtain⟨q,hq,e⟩:=Bh.1 m;simp only[Du]at e;obtain⟨rfl,rfl⟩:=e;refine⟨(h7 q.1 q.2 hq).1,Bp.ren (p:=λid=>decide (id∈bs)) (λid=>uM id) rfl AB2 (h7 q.1 q.2 hq).2 ?_⟩;have:=hb b (BP a);grind[FZ.idsAll,List.all_eq_true]
 inj i i' e e' B d k hn1 hn2 x C:=by obtain⟨b,c0,E,R,U,_⟩:=iR d hn1;obtain⟨b',O,F,S,V,_⟩:=iR k hn2;have e:=s.inj b b' c0 O B R S U V (by simpa[VV,E]using x) (by simpa[VV,F]using C);subst e;rw[<-mf K E,<-mf K F]
 bld j e hj n:=by obtain⟨b,P,a,D,o,rfl⟩:=iR hj (by rintro rfl;cases n);rw[ah]at n;exact(s.bld b P D n).ren (by simp[VV,a]) (by simp[VV,a]) (by simp[VV,a]) (λ_ _ _ _=>rfl)
def ND(h:Gh)(H:Ax)(bs:List Nat)(hc:Gh):Gh:=
 let pick {α:Type} (f fc:Nat->α) (id:Nat):α:=if id∈bs then fc (bs.idxOf id)else if id<H.length then f id else fc (bs.length+(id-H.length))
 ⟨pick h.io hc.io,pick h.gen hc.gen,pick h.cap hc.cap⟩
def jI:(Tx H bs O).length=H.length+(O.length-bs.length):=by simp[Tx,Ru]
def XP(h:bs.Nodup)(k:bs.length≤O.length)(a:(Tx H bs O)[N]? =some m):
  (N∉bs/\N<H.length/\H[N]? =some m)\/ ∃j f,N=SE H bs j/\O[j]? =some f/\m=f.ren (SE H bs):=by
 unfold Tx at a;rcases Aw N H.length with b|b;rw[CO (by rw[Ru];exact b)]at a;by_cases g:N∈bs;have i:=dh g;rw[sU _ bs H O _ N h i b k]at a;cases d:O[bs.idxOf N]? with
 |none=>rw[d]at a;cases a
 |some f=>rw[d]at a;simp only[Bl,Am]at a;refine .inr ⟨bs.idxOf N,f,?_,d,a.symm⟩;unfold SE;rw[if_pos (lG g),QX,i];rfl
 rw[dv _ bs H O g]at a;exact .inl ⟨g,b,a⟩;rw[Ch (by rw[Ru];exact b),Ru,CD,JP]at a;cases d:O[bs.length+(N-H.length)]? with
 |none=>rw[d]at a;cases a
 |some f=>rw[d]at a;simp only[Bl,Am]at a;refine .inr ⟨_,f,?_,d,a.symm⟩;unfold SE;rw[if_neg o!];omega
theorem Zz{hc:Gh}(f:bs.Nodup)(a: ∀b∈bs,b<H.length)(j:Nat)(g:j<O.length):
  SE H bs j<(Tx H bs O).length/\(ND h H bs hc).gen (SE H bs j)=hc.gen j/\(ND h H bs hc).io (SE H bs j)=hc.io j/\(ND h H bs hc).cap (SE H bs j)=hc.cap j:=by
 rw[jI];unfold SE;split;grind[ND];have c:H.length+(j-bs.length)∉bs:=λc=>by have:=a _ c;omega
 have e:bs.length+(H.length+(j-bs.length)-H.length)=j:=o!
 simp only[ND,c,if_false,show¬(H.length+(j-bs.length)<H.length)from by omega,e,and_true];omega
theorem jv(c:bs.Nodup)(k: ∀b∈bs,b<H.length)(r:bs.length≤O.length)(s:owned (ND h H bs M) (Tx H bs O) N):
  (∃id e,id∉bs/\H[id]? =some e/\e≠FZ.dead/\h.io id=some N)\/owned M O N:=by
 obtain⟨id,e,o,l,a⟩:=s;rcases XP c r o with⟨u,p,t⟩|⟨j,m,rfl,q,d⟩;grind[ND];have i:j<O.length:=q!
 rw[(Zz (h:=h) (hc:=M) c k j i).2.2.1]at a;exact .inr ⟨j,m,q,λn=>l (d.trans (vg.2 n)),a⟩
theorem HC.back(l:bs.Nodup)(k: ∀b∈bs,b<H.length)(x:HC (VV h bs) (X9 H bs) w M O z):HC h H w (ND h H bs M) (Tx H bs O) z:=by
 have r:bs.length<=O.length:=by have:=x.n;simpa[X9]using this
 refine⟨x.os,x.tape,x.output,x.size,λB p hn=>x.keep B p λa=>?_,?_,?_,?_,?_,x.loops⟩;obtain⟨b,e,_,g,f,i⟩:=bX a;exact hn ⟨b,e,g,f,i⟩;rw[jI];omega;intro id c;by_cases d:id∈bs;have q:=dh d;have:=x.gen (bs.idxOf id) (by simpa[X9]using lG d);grind[ND,VV];simp[ND,d,c];intro id c;by_cases d:id∈bs;have q:=dh d;have:=x.same (bs.idxOf id) (by simpa[X9]using lG d);grind[ND,VV];simp[ND,d,c];intro B a;rcases jv l k r a with⟨id,e,_,g,f,i⟩|a;exact .inl ⟨id,e,g,f,i⟩;rcases x.fresh B a with a|a;obtain⟨b,e,_,g,f,i⟩:=bX a;exact .inl ⟨b,e,g,f,i⟩;grind
def Bp.back(g:bs.Nodup)(f: ∀d∈bs,d<H.length)(l:bs.length≤O.length)
  (r:Bp (cx (Xs X h H bs) M O w) e b):Bp (cx X (ND h H bs M) (Tx H bs O) w) (e.ren (SE H bs)) b:=by
 refine Bp.ren (x:=cx (Xs X h H bs) M O w) (y:=cx X (ND h H bs M) (Tx H bs O) w) (ρ:=SE H bs) (p:=λ_=>true) (λj _ k=>Zz (h:=h) (hc:=M) g f j k) rfl (λB a=>?_) r (nW e);rcases a with a|a;exact .inl (.inl a);rcases jv g f l a with a|a;exact .inl (.inr a);exact .inr a
theorem Ix.back(s:Ix X h H w)(l:bs.Nodup)(N: ∀b∈bs,b<H.length)(x:HC (VV h bs) (X9 H bs) w M O z)
  (sc:Ix (Xs X h H bs) M O z):Ix X (ND h H bs M) (Tx H bs O) z:=by
 have Y:bs.length<=O.length:=by have:=x.n;simpa[X9]using this
 have xb:=HC.back (h:=h) l N x;have n: ∀{id:Nat} {e:FZ} {B:Nat} {o:Obj},id∉bs->H[id]? =some e->e≠ .dead->h.io id=some B->w.heap[B]? =some o->z.heap[B]? =some o:=by intro id e B o y E ao c d;refine(x.keep B (O5 d) λho=>?_).trans d;obtain⟨b,e',ar,I,h0,S⟩:=bX ho;exact y (s.inj id b e e' B E I ao h0 c S▸ar)
 have lt: ∀{j:Nat} {D:FZ},O[j]? =some D->j<O.length:=by intro j D F;rcases Aw j O.length with A|A;exact A;grind[List.getElem?_eq_none]
 refine⟨λB C=>⟨DM (s.out B C).1 x.size,λho=>?_⟩,λid g cs U=>?_,λid L U=>?_,λid ax e e' B G A ad al I S=>?_,λid e U C=>?_⟩;rcases jv l N Y ho with⟨id,e,_,G,h0,A⟩|ho;exact(s.out B C).2 ⟨id,e,G,h0,A⟩;exact(sc.out B (.inl C)).2 ho;rcases XP l Y U with⟨y,k,E⟩|⟨j,D,rfl,F,a⟩;obtain⟨W,K⟩:=s.live id g cs E;refine⟨by simpa[cx,ND,y,k]using W,?_⟩;rcases K with⟨hn,rfl⟩|⟨B,Q,T,fz,f,c,d,J,Z,V,p⟩;exact .inl ⟨by simpa[cx,ND,y,k]using hn,rfl⟩;refine .inr ⟨B,Q,T,fz,f,by simpa[cx,ND,y,k]using c,n y E k! c d,by simpa[cx,ND,y,k]using J,Z,V,λi v P=>?_⟩;obtain⟨G,A,I⟩:=p i v P;exact⟨G,A,I.later (xb.later X)⟩;cases D with
 |dead=>simp[FZ.ren]at a
 |lp L=>simp[FZ.ren]at a
 |mp=>simp[FZ.ren]at a
 |it=>simp[FZ.ren]at a
 |live g0 R=>
  simp only[FZ.ren,FZ.live.injEq]at a;obtain⟨rfl,rfl⟩:=a;obtain⟨_,r1,r2,r3⟩:=Zz (h:=h) (hc:=M) l N j (lt F);obtain⟨W,K⟩:=sc.live j g R F;refine⟨r1.trans W,?_⟩;rcases K with⟨hn,rfl⟩|⟨B,Q,T,fz,f,c,d,J,Z,V,p⟩;exact .inl ⟨r2.trans hn,rfl⟩;refine .inr ⟨B,Q,T,fz,f,r2.trans c,d,J.trans r3.symm,by rw[OF,Bs];exact Z,V,λi v P=>?_⟩;rw[OF,CD]at P;cases hu:R[i]? with
  |none=>rw[hu]at P;cases P
  |some u=>rw[hu]at P;simp only[Bl,Am]at P;subst P;obtain⟨G,A,I⟩:=p i u hu;exact⟨G,A,Bp.back l N Y I⟩
 rcases XP l Y U with⟨y,k,E⟩|⟨j,D,rfl,F,a⟩;obtain⟨W,B,r,c,d,G,A,I,S,h5,h6,h7⟩:=s.lp id L E;exact⟨by simpa[cx,ND,y,k]using W,B,r,by simpa[cx,ND,y,k]using c,n y E k! c d,G,A,I,S,h5,h6,λt v m=>⟨(h7 t v m).1,(h7 t v m).2.later (xb.later X)⟩⟩;cases D with
 |dead=>simp[FZ.ren]at a
 |live g0 R=>simp[FZ.ren]at a
 |mp=>simp[FZ.ren]at a
 |it=>simp[FZ.ren]at a
 |lp L0=>simp only[FZ.ren,FZ.lp.injEq]at a;subst a;obtain⟨_,r1,r2,r3⟩:=Zz (h:=h) (hc:=M) l N j (lt F);obtain⟨W,B,r,c,d,G,A,I,S,h5,h6,h7⟩:=sc.lp j L0 F;refine⟨r1.trans W,B,r,r2.trans c,d,G,A,I,S,h5,h6,λt v m=>?_⟩;obtain⟨q,hq,e⟩:=Bh.1 m;simp only[Du]at e;obtain⟨rfl,rfl⟩:=e;exact⟨(h7 q.1 q.2 hq).1,Bp.back l N Y (h7 q.1 q.2 hq).2⟩
 have key: ∀{id:Nat} {e:FZ},(Tx H bs O)[id]? =some e→e≠ .dead→(ND h H bs M).io id=some B→
   (id∉bs/\H[id]? =some e/\h.io id=some B)\/ ∃j D,id=SE H bs j/\O[j]? =some D/\D≠ .dead/\M.io j=some B:=by
  intro id e U ao c;rcases XP l Y U with⟨y,k,E⟩|⟨j,D,rfl,F,a⟩;exact .inl ⟨y,E,by simpa[ND,y,k]using c⟩;exact .inr ⟨j,D,rfl,F,λh0=>ao (a.trans (vg.2 h0)),by rw[<-(Zz (h:=h) (hc:=M) l N j (lt F)).2.2.1];exact c⟩
 rcases key G ad I with⟨m1,a1,b1⟩|⟨j1,g1,e1,a1,d1,b1⟩<;>rcases key A al S with⟨m2,a2,b2⟩|⟨j2,g2,e2,a2,d2,b2⟩;exact s.inj _ _ _ _ B a1 a2 ad al b1 b2;exact((sc.out B (.inr ⟨_,_,m1,a1,ad,b1⟩)).2 ⟨j2,g2,a2,d2,b2⟩).elim;exact((sc.out B (.inr ⟨_,_,m2,a2,al,b2⟩)).2 ⟨j1,g1,a1,d1,b1⟩).elim;rw[e1,e2,sc.inj _ _ _ _ B a1 a2 d1 d2 b1 b2];rcases XP l Y U with⟨y,k,E⟩|⟨j,D,rfl,F,rfl⟩;have b:=s.bld id e E C;have a:e.ren (λx=>x)=e:=by cases e<;>simp_all[FZ.ren,FZ.isB]
 have:=b.ren (h':=ND h H bs M) (w':=z) (id':=id) (ρ:=λx=>x) (by simp[ND,y,k]) (by simp[ND,y,k]) (by simp[ND,y,k]) (λB o c hb=>(n y E (by rintro rfl;cases C) c hb).trans hb.symm);rwa [a]at this;rw[ah]at C;obtain⟨_,r1,r2,r3⟩:=Zz (h:=h) (hc:=M) l N j (lt F);exact(sc.bld j D F C).ren r2 r1 r3 (λ_ _ _ _=>rfl)
end
def kU(env:Env)(c:Call)(first caps:List AZ):List AZ:=first++c.args.toList.map (BL env)++caps
def fI(P:Program)(s f:Nat):Option (Nat×TypeId×Nat):=
 match P.underlying s with
 |some (.struct fs)=>
  match fs[f]? with
  |some fd=>
   match tI P fd.type with
   |some (_,n)=>some (fd.offset,fd.type,n)
   |none=>none
  |none=>none
 |_=>none
def eI(P:Program)(t:TypeId):Option (Option Nat×TypeId×Nat):=
 match P.underlying t with
 |some (.array len e)=>(tI P e).map λi=>(some len,e,i.2)
 |some (.slice e)=>(tI P e).map λi=>(none,e,i.2)
 |_=>none
inductive Kd where
 |bool|int (k:IntKind)|str|bytes|other
 deriving DecidableEq
def kd(P:Program)(t:TypeId):Kd:=
 match P.underlying t with
 |some .bool=>.bool
 |some (.int k)=>.int k
 |some .string=>.str
 |some (.slice e)=>match P.underlying e with|some (.int .u8)=>.bytes|_=>.other
 |_=>.other
def SP(H:Ax)(id g:Nat):Bool:=
 match H[id]? with
 |some (.live g' _)=>g'==g
 |_=>false
def Ix.cur{w:World}(s:Ix X h H w)(a:SP H N t=true):h.gen N=t:=by unfold SP at a;split at a;rename_i c b d;have:=(s.live N c b d).1;simp at a;exact this.trans a;cases a
def shift(H:Ax)(k:Nat):AZ->Option AZ
 | .ptr id g off=>if SP H id g then some (.ptr id g (off+k))else none
 | .vptr cs=>if k<=cs.length then some (.vptr (cs.drop k))else none
 |_=>none
theorem sW(s:Ix c h H w)(r:Bp (cx c h H w) e b)(k:shift H N e=some p):
  ∃B a,b= .pointer (some ⟨B,a,none⟩)/\Bp (cx c h H w) p (.pointer (some ((⟨B,a,none⟩:Addr).add N))):=by
 cases r with
 | @ptr id g a b v o t l=>simp only[shift]at k;split at k;rename_i d;simp at k;subst k;obtain⟨B,i,rfl⟩:=l (s.cur d);refine⟨B,a,rfl,.ptr v o rfl λ_=>⟨B,i,by rw[OR]⟩⟩;cases k
 | @vptr q B a f n m l x=>simp only[shift]at k;split at k;simp at k;subst k;refine⟨B,a,rfl,?_⟩;rw[OR];refine .vptr (λj=>f (N+j)) n m (λj e X=>?_) λj e X=>?_;grind;grind;cases k
 |_=>grind[shift]
def Un(P:Program)(H:Ax)(s f:Nat)(v:AZ):Option AZ:=
 match fI P s f with
 |some (off,_,n)=>if n=0 then none else shift H off v
 |none=>none
def qo(sim:Ix c h H w)(r:Bp (cx c h H w) e b)(d:Un P H N t e=some p):
  ∃i,(Instr.fieldAt N b t).run P w= .ok i w/\Bp (cx c h H w) p i:=by
 unfold Un at d;split at d;rename_i k X n a;split at d;cases d;rename_i hn;obtain⟨B,o,rfl,hr⟩:=sW sim r d;unfold fI at a;split at a;rename_i s g;split at a;rename_i l v;split at a;rename_i f m j;obtain⟨rfl,rfl,rfl⟩:=a;refine⟨_,?_,hr⟩;simp[Instr.fieldAt,run_underlying g,v,Instr.sureAddr,fieldPlace,K7 j,hn];cases a;cases a;cases a;cases d
def Us(P:Program)(H:Ax)(t:TypeId)(v:AZ)(i:AZ):Option AZ:=
 match eI P t,i with
 |some (some len,_,sz),.int _ i=>if 0<=i/\i<len then shift H (i.toNat*sz) v else none
 |some (none,_,sz),.int _ i=>
  match v with
  | .vs sz' rows=>if 0<=i/\sz=sz' then(rows[i.toNat]?).map λe=>.vptr e.cells else none
  | .sl id g sz' off len=>if 0<=i/\i<len/\sz=sz'/\SP H id g=true then some (.ptr id g (off+i.toNat*sz))else none
  |_=>none
 |_,_=>none
theorem qv(sim:Ix c h H w)(r:Bp (cx c h H w) e b)(T:Bp (cx c h H w) p A)
  (l:Us P H a e p=some F): ∃O,(Instr.indexAt a b A).run P w= .ok O w/\Bp (cx c h H w) F O:=by
 unfold Us at l;split at l;rename_i len u sz k n i;cases T;split at l;rename_i X;obtain⟨B,o,rfl,hr⟩:=sW sim r l;unfold eI at i;split at i;rename_i t y d;cases m:tI P y with
 |none=>rw[m]at i;cases i
 |some v=>rw[m]at i;simp only[Bl,Am,Du]at i;obtain⟨rfl,rfl,rfl⟩:=i;refine⟨_,?_,hr⟩;simp[Instr.indexAt,asIntOf,run_underlying d,Instr.sureAddr,X,K7 m]
 rename_i y d;cases m:tI P y<;>grind;cases i;cases l;rename_i u sz k n i;cases T;have d: ∃p,P.underlying a=some (.slice u)/\tI P u=some p/\p.2=sz:=by
  unfold eI at i;split at i;rename_i t y d;cases m:tI P y with
  |none=>rw[m]at i;cases i
  |some v=>rw[m]at i;simp at i
  rename_i y d;cases m:tI P y with
  |none=>rw[m]at i;cases i
  |some v=>rw[m]at i;simp only[Bl,Am,Du]at i;obtain⟨_,rfl,rfl⟩:=i;exact⟨v,d,m,rfl⟩
  cases i
 obtain⟨v,d,m,rfl⟩:=d;cases r with
 | @vs N q Q cap f C Y S W Z=>
  simp only at l;split at l;rename_i X;obtain⟨G,rfl⟩:=X;cases x:q[n.toNat]? with
  |none=>rw[x]at l;cases l
  |some R=>
   rw[x]at l;simp only[Bl,Am]at l;subst l;have s:n.toNat<q.length:=by rcases Aw n.toNat q.length with I|I;exact I;rw[Cn I]at x;cases x
   obtain⟨B,z,rfl,V,U,J⟩:=W (by intro u;rw[u]at s;simp at s);refine⟨.pointer (some ⟨B,z+n.toNat*v.2,none⟩),?_,.vptr (λj=>f n.toNat j) V U (λj e M=>?_) λj e M=>Z _ R _ e x M⟩;have E:n<q.length:=o!
   simp[Instr.indexAt,asIntOf,run_underlying d,G,E,K7 m,OR];have:=J _ R j e x M;rw[bm];exact this
  cases l
 | @sl id g N z len b K x h1 J=>simp only at l;split at l;rename_i X;obtain⟨G,s,rfl,D⟩:=X;simp only[Am]at l;subst l;rcases J (sim.cur D)with⟨_,hl,_,_⟩|⟨B,cap,L,C,_,rfl⟩;omega;refine⟨.pointer (some ⟨B,z+n.toNat*v.2,none⟩),?_,.ptr K x rfl λ_=>⟨B,L,rfl⟩⟩;simp[Instr.indexAt,asIntOf,run_underlying d,G,s,K7 m,OR];cases l
 |_=>cases l
 cases l
def qF(P:Program)(t:TypeId)(cs:List AZ)(off:Nat):Option AZ:=
 match tI P t with
 |some (true,n)=>if off+n<=cs.length then some (.agg ((cs.drop off).take n))else none
 |some (false,_)=>cs[off]?
 |none=>none
theorem vY{P:Program}{w:World}(l:i.size=d.length)(o: ∀(j:Nat) (c:Value),i[j]? =some c→c.oneCell'=true)
  (m: ∀(j:Nat) (v:AZ) (c:Value),d[j]? =some v->i[j]? =some c->Bp f v c) (t:qF P a d N=some e): ∃c,(part a i N).run P w= .ok c w/\Bp f e c:=by
 unfold qF at t;split at t;rename_i n b;split at t;rename_i x;simp at t;subst t;refine⟨.agg (i.extract N (N+n)),by simp[part,Wa b,K7 b],.agg w! (λj c h=>?_) λj v c h g=>?_⟩;grind[Array.getElem?_extract];grind;cases t;rename_i n b;have k:N<d.length:=q!
 have g:i[N]? =some (i[N]' o!):=L8 o!;exact⟨_,by simp[part,Wa b,g],m N e _ t g⟩;cases t
def pF(P:Program)(s f:Nat)(v:AZ):Option AZ:=
 match fI P s f,v with
 |some (off,t,_),.agg cs=>qF P t cs off
 |_,_=>none
def zI(r:Bp f e b)(d:pF P N t e=some p): ∃v,(Instr.field N b t).run P w= .ok v w/\Bp f p v:=by
 unfold pF at d;split at d;rename_i o x n i a;cases r with
 | @agg i j g k m=>obtain⟨v,l,hr⟩:=vY (P:=P) (w:=w) g k m d;unfold fI at a;split at a;rename_i q h;split at a;rename_i s u;split at a;simp at a;obtain⟨rfl,rfl,rfl⟩:=a;exact⟨v,by simp[Instr.field,run_underlying h,u,asAgg,l],hr⟩;cases a;cases a;cases a
 cases d
def gQ(P:Program)(t:TypeId)(v i:AZ):Option AZ:=
 match v,i with
 | .agg cs,.int _ i=>
  match eI P t with
  |some (some len,e,sz)=>if 0<=i/\i<len then qF P e cs (i.toNat*sz)else none
  |_=>none
 | .str s,.int _ i=>if kd P t= .str/\0<=i then(s[i.toNat]?).map λb=>.int .u8 b.toNat else none
 |_,_=>none
theorem ph{P:Program}(h:kd P a= .str):P.underlying a=some .string:=by unfold kd at h;grind
theorem AEv(h:kd P a= .int C):P.underlying a=some (.int C):=by unfold kd at h;grind
theorem zO(r:Bp f e b)(B:Bp f p A)(c:gQ P a e p=some F): ∃q,(Instr.index a b A).run P w= .ok q w/\Bp f F q:=by
 unfold gQ at c;split at c;rename_i C k n;cases B;split at c;rename_i len u sz d;split at c;rename_i g;cases r with
 | @agg C D m t J=>
  obtain⟨q,G,hr⟩:=vY (P:=P) (w:=w) m t J c;unfold eI at d;split at d;rename_i x E o;cases z:tI P E with
  |none=>grind
  |some v=>rw[z]at d;simp only[Bl,Am,Du]at d;obtain⟨rfl,rfl,rfl⟩:=d;exact⟨q,by simp[Instr.index,asIntOf,run_underlying o,g,K7 z,G],hr⟩
  simp_all;cases d
 cases c;cases c;rename_i s k n;cases B;cases r with
 | @str s h I=>
  split at c;rename_i g;subst I;cases y:h.data.toList[n.toNat]? with
  |none=>grind
  |some i=>
   rw[y]at c;simp only[Bl,Am]at c;subst c;have j:h[n.toNat]? =some i:=by
    obtain⟨H,d⟩:=Kb.1 y;have l:n.toNat<h.size:=by simpa using H
    rw[getElem?_pos h n.toNat l];exact congrArg some d
   exact⟨.int .u8 i.toNat,by simp[Instr.index,asIntOf,run_underlying (ph g.1),g.2,j],.int _ _⟩
  cases c
 cases c
def zt(P:Program)(g:TypeId->Option (List Kd)):List Field->Nat->Option (List Kd)
 |[],_=>some []
 |f::r,off=>
  if f.offset=off/\(f.name== "_")=false then
   match g f.type with
   |some ks=>if ks.length=P.cellsOf f.type then(zt P g r (off+ks.length)).map (ks++ ·)else none
   |none=>none
  else none
def tA(P:Program):Nat->TypeId->Option (List Kd)
 |0,_=>none
 |d+1,t=>
  match P.underlying t with
  |some .bool=>some [.bool]
  |some (.int k)=>some [.int k]
  |some .string=>some [.str]
  |some (.array n e)=>
   match tA P d e with
   |some ks=>if ks.length=P.cellsOf e/\(P.info? e).isSome then some (List.replicate n ks).flatten else none
   |none=>none
  |some (.struct fs)=>if P.stoodInHeld t then none else zt P (tA P d) fs.toList 0
  |_=>none
def wj:Kd->AZ->Bool
 | .bool,.bool _=>true
 | .int k,.int k' _=>decide (k=k')
 | .str,.str _=>true
 |_,_=>false
def typed:List Kd->List AZ->Bool
 |[],[]=>true
 |k::ks,v::vs=>wj k v&&typed ks vs
 |_,_=>false
def sEq:AZ->AZ->Bool
 | .bool a,.bool b=>a==b
 | .int _ a,.int _ b=>a==b
 | .str a,.str b=>a==b
 |_,_=>false
def qm:List AZ->List AZ->Bool
 |[],[]=>true
 |a::as,b::bs=>sEq a b&&qm as bs
 |_,_=>false
variable {B:List Kd}
def WO{b:List Kd}: ∀{a:List AZ},typed (B++b) a=true->typed B (a.take B.length)=true/\typed b (a.drop B.length)=true:=by
 induction B with
 |nil=>intro a h;exact⟨by simp[typed],by simpa using h⟩
 |cons k f e=>
  intro a h;cases a with
  |nil=>simp[typed]at h
  |cons v a=>simp only[ED,typed,BU]at h;obtain⟨c,d⟩:=e h.2;exact⟨by simp[typed,h.1,c],by simpa using d⟩
def GZ: ∀{a:List Kd} {b:List AZ},typed a b=true->b.length=a.length
 |[],[],_=>rfl
 |_::_,_::_,h=>by simp only[typed,BU]at h;simp[GZ h.2]
 |[],_::_,h=>by simp[typed]at h
 |_::_,[],h=>by simp[typed]at h
def mN: ∀(n:Nat) (c bs:List AZ),c.length=bs.length->qm c bs=(qm (c.take n) (bs.take n)&&qm (c.drop n) (bs.drop n))
 |0,c,bs,_=>by simp[qm]
 |n+1,[],[],_=>by simp[qm]
 |n+1,a::c,b::bs,h=>by simp only[Bo,Nat.add_right_cancel_iff]at h;simp only[qm,List.take_succ_cons,List.drop_succ_cons,mN n c bs h,Bool.and_assoc]
 |n+1,[],_::_,h=>by simp at h
 |n+1,_::_,[],h=>by simp at h
def Over(P:Program)(x:Cx)(t:TypeId)(as:List AZ)(a:Value):Prop:=
 ∃(b:Bool) (n:Nat) (cs:List Value),tI P t=some (b,n)/\as.length=n/\jM x as cs/\(if b then a= .agg cs.toArray else cs=[a])
def EqF(P:Program)(d:Nat)(t:TypeId)(ks:List Kd):Prop:=
 ∀(w:World) (x:Cx) (a b:Value) (as bs:List AZ),Over P x t as a->Over P x t bs b->typed ks as=true->typed ks bs=true->(Op.equalIn d t a b).run P w= .ok (qm as bs) w
def iK{P:Program}{off n:Nat}{w:World}(hr:jM f d v)(t:tI P a=some (s,n))(m:s=false→n=1)(o:off+n≤d.length):
  ∃h,(part a v.toArray off).run P w= .ok h w/\Over P f a ((d.drop off).take n) h:=by
 have e:jM f ((d.drop off).take n) ((v.drop off).take n):=by refine⟨by simp[hr.1],λj x c g i=>?_⟩;rw[Zw]at g i;split at g;rename_i k;rw[if_pos k]at i;rw[JP]at g i;exact hr.2 _ x c g i;cases g
 cases s with
 |true=>refine⟨.agg (v.toArray.extract off (off+n)),by simp[part,Wa t,K7 t],true,n,(v.drop off).take n,t,w!,e,?_⟩;simp only[if_true,Value.agg.injEq];apply Array.toList_inj.1;simp only[Array.toList_extract,rF,Wj]
 |false=>
  obtain rfl:=m rfl;have l:off<v.length:=by rw[hr.1];omega
  refine⟨v[off],by simp[part,Wa t,l],false,1,(v.drop off).take 1,t,w!,e,?_⟩;rw[if_neg k!,QV l];rfl
def j8{d:Nat}(h:tA P d a=some B): ∃b,tI P a=some (b,P.cellsOf a)/\(b=false->B.length=1):=by
 cases d with
 |zero=>simp[tA]at h
 |succ d=>
  unfold tA at h;unfold tI Program.cellsOf;cases f:P.info? a with
  |none=>
   have t:P.underlying a=none:=by simp[Program.underlying,f]
   rw[t]at h;cases h
  |some i=>
   cases t:P.underlying a with
   |none=>rw[t]at h;cases h
   |some c=>rw[t]at h;refine⟨_,rfl,?_⟩;cases c<;>simp_all<;>(subst h;rfl)
def vj{P:Program}{d:Nat}{g:TypeId→Option (List Kd)}(C: ∀t i,g t=some i→EqF P d t i∧ ∃b,tI P t=some (b,P.cellsOf t)∧(b=false→i.length=1)){x:Cx}{w:World}{l bs:List AZ}{H I:List Value}
  (A:jM x l H) (B:jM x bs I) (j:l.length=bs.length): ∀(m:List Field) (h:Nat) (i:List Kd),zt P g m h=some i->h<=l.length->typed i (l.drop h)=true->typed i (bs.drop h)=true->(Op.eqFields d H.toArray I.toArray m).run P w= .ok (qm (l.drop h) (bs.drop h)) w
 |[],h,i,hk,_,ta,tb=>by simp only[zt,Am]at hk;subst hk;have J:=GZ ta;have K:=GZ tb;rw[EP J,EP K];simp[Op.eqFields,qm]
 |f::m,h,i,hk,ho,ta,tb=>by
  simp only[zt]at hk;split at hk;rename_i L;obtain⟨rfl,k⟩:=L;split at hk;rename_i k1 u;split at hk;rename_i o;cases hr:zt P g m (f.offset+k1.length)with
  |none=>rw[hr]at hk;cases hk
  |some N=>
   rw[hr]at hk;simp only[Bl,Am]at hk;subst hk;obtain⟨q,y⟩:=WO ta;obtain⟨r,z⟩:=WO tb;obtain⟨s,b,D,n⟩:=C _ _ u;have E:=GZ q;have O:=GZ r;have v:f.name≠ "_" :=by simpa using k
   obtain⟨a,Q,F⟩:=iK (P:=P) (w:=w) (off:=f.offset) A D (λe=>o▸n e) (by rw[<-o];simp at E;omega);obtain⟨c,R,G⟩:=iK (P:=P) (w:=w) (off:=f.offset) B D (λe=>o▸n e) (by rw[<-o];simp at O;omega);rw[<-o]at F G;have p:=s w x a c _ _ F G q r;have M:=vj C (w:=w) A B j m (f.offset+k1.length) N hr (by simp at E;omega) (by simpa[Nf]using y) (by simpa[Nf]using z);rw[mN k1.length _ _ (by simp[j])];simp only[Op.eqFields,if_pos v,Sem.run_bind,Q,R,p,Result.andThen_ok];cases qm ((l.drop f.offset).take k1.length) ((bs.drop f.offset).take k1.length);simp;simp only[Cm,PG,if_false,Bool.true_and,M,Nf]
  cases hk;cases hk;cases hk
def sR{P:Program}{d:Nat}{e:TypeId}{f:List Kd}(o:EqF P d e f){b:Bool}(s:tI P e=some (b,f.length))(j:b=false→f.length=1){x:Cx}{w:World}{h bs:List AZ}{z A:List Value}
  (u:jM x h z) (v:jM x bs A) (g:h.length=bs.length): ∀(n i:Nat),i*f.length<=h.length->typed (List.replicate n f).flatten (h.drop (i*f.length))=true->typed (List.replicate n f).flatten (bs.drop (i*f.length))=true->(Op.eqItems d e f.length z.toArray A.toArray (List.range' i n)).run P w= .ok (qm (h.drop (i*f.length)) (bs.drop (i*f.length))) w
 |0,i,_,ta,tb=>by have B:=GZ ta;have C:=GZ tb;rw[EP (l:=h.drop _) (by simpa using B),EP (l:=bs.drop _) (by simpa using C)];simp[Op.eqItems,qm]
 |n+1,i,ho,ta,tb=>by
  rw[jS,mA]at ta tb;obtain⟨q,k⟩:=WO ta;obtain⟨r,m⟩:=WO tb;have y:=GZ q;have E:=GZ r;obtain⟨a,H,F⟩:=iK (P:=P) (w:=w) (off:=i*f.length) u s j (by simp at y;omega);obtain⟨c,I,G⟩:=iK (P:=P) (w:=w) (off:=i*f.length) v s j (by simp at E;omega);have p:=o w x a c _ _ F G q r;rw[Nf]at k m;have t:i*f.length+f.length=(i+1)*f.length:=by rw[FN];omega
  rw[t]at k m;have D:=sR o s j (w:=w) u v g n (i+1) (by simp at y;omega) k m;rw[mN f.length _ _ (by simp[g]),Nf,Nf,t];rw[List.range'_succ];simp only[Op.eqItems,Sem.run_bind,H,I,p,Result.andThen_ok];cases qm ((h.drop (i*f.length)).take f.length) ((bs.drop (i*f.length)).take f.length);simp;simp[D]
def tB{P:Program}(d:Nat): ∀(m:Nat) (t:TypeId) (y:List Kd),tA P m t=some y->EqF P (d+m) t y
 |0,_,_,h=>by simp[tA]at h
 |m+1,t,y,h=>by
  obtain⟨bt,T,_⟩:=j8 h;intro w x a b F bs X Y o p;obtain⟨O,n1,xs,c,U,ra,j⟩:=X;obtain⟨Z,n2,ys,r,V,E,l⟩:=Y;rw[c]at r;simp only[Am,Du]at r;obtain⟨rfl,rfl⟩:=r;have I:=GZ o;have J:=GZ p;have g: ∀q,P.underlying t=some q->O=(match q with| .struct _| .array _ _=>true|_=>false):=by intro q S;unfold tI at c;rw[S]at c;split at c;rename_i G;injection G with e;subst e;simp only[Am,Du]at c;exact c.1.symm;cases c
  unfold tA at h;split at h;rename_i f;simp only[Am]at h;subst h;have:=g _ f;simp only at this;subst this;simp only[PG,if_false]at j l;subst j l;match F,I,bs,J with
  |[u],_,[v],_=>have C:=ra.2 0 u a rfl rfl;have D:=E.2 0 v b rfl rfl;simp only[typed,PF]at o p;cases u<;>simp[wj]at o;cases v<;>simp[wj]at p;cases C;cases D;rw[show d+(m+1)=(d+m)+1 from rfl,run_equalIn_bool' w (d+m) t _ _ f];simp[qm,sEq]
  rename_i k f;simp only[Am]at h;subst h;have:=g _ f;simp only at this;subst this;simp only[PG,if_false]at j l;subst j l;match F,I,bs,J with
  |[u],_,[v],_=>have C:=ra.2 0 u a rfl rfl;have D:=E.2 0 v b rfl rfl;simp only[typed,PF]at o p;cases u<;>simp[wj]at o;cases v<;>simp[wj]at p;cases C;cases D;subst o p;rw[show d+(m+1)=(d+m)+1 from rfl,run_equalIn_int w (d+m) t _ _ _ _ f];simp[qm,sEq]
  rename_i f;simp only[Am]at h;subst h;have:=g _ f;simp only at this;subst this;simp only[PG,if_false]at j l;subst j l;match F,I,bs,J with
  |[u],_,[v],_=>
   have C:=ra.2 0 u a rfl rfl;have D:=E.2 0 v b rfl rfl;simp only[typed,PF]at o p;cases u<;>simp[wj]at o;cases v<;>simp[wj]at p;cases C with
   |str s1 Q=>
    cases D with
    |str s2 R=>subst Q R;rw[show d+(m+1)=(d+m)+1 from rfl,run_equalIn_string w (d+m) t _ _ f];simp[qm,sEq,ByteArray.toList_eq]
  rename_i n e f;split at h;rename_i k1 A;split at h;rename_i H;simp only[Am]at h;subst h;have:=g _ f;simp only at this;subst this;simp only[if_true]at j l;subst j l;obtain⟨N,s⟩:=bo.1 H.2;obtain⟨b,L,B⟩:=j8 A;rw[<-H.1]at L;have i:=sR (tB d m e k1 A) L B (w:=w) ra E o! n 0 k! (by simpa using o) (by simpa using p);rw[show d+(m+1)=(d+m)+1 from rfl,run_equalIn_array w (d+m) _ _ f s,<-H.1,List.range_eq_range'];simpa using i;cases h;cases h;rename_i K f;split at h;cases h;rename_i W;have:=g _ f;simp only at this;subst this;simp only[if_true]at j l;subst j l;have z:P.fieldsOf t=K:=by simp[Program.fieldsOf,f]
  have i:=vj (d:=d+m) (λt y M=>⟨tB d m t y M,j8 M⟩) (w:=w) ra E o! K.toList 0 y h k! (by simpa using o) (by simpa using p);rw[show d+(m+1)=(d+m)+1 from rfl,run_equalIn_struct w (d+m) t _ _ (by rw[z];exact f) (by simpa using W),z];simpa using i;cases h
def mB(op:BinOp)(k:IntKind)(a b:Int):Option AZ:=
 match op with
 | .add=>some (.int k (k.wrap (a+b)))
 | .sub=>some (.int k (k.wrap (a-b)))
 | .mul=>some (.int k (k.wrap (a*b)))
 | .quo=>if b=0 then none else some (.int k (k.wrap (a.tdiv b)))
 | .rem=>if b=0 then none else some (.int k (a.tmod b))
 | .and=>some (.int k (k.wrap (BitVec.ofInt k.bits a&&&BitVec.ofInt k.bits b).toNat))
 | .or=>some (.int k (k.wrap (BitVec.ofInt k.bits a|||BitVec.ofInt k.bits b).toNat))
 | .xor=>some (.int k (k.wrap (BitVec.ofInt k.bits a^^^BitVec.ofInt k.bits b).toNat))
 | .andNot=>some (.int k (k.wrap (BitVec.ofInt k.bits a&&& ~~~BitVec.ofInt k.bits b).toNat))
 | .eql=>some (.bool (a==b))
 | .neq=>some (.bool (a !=b))
 | .lss=>some (.bool (decide (a<b)))
 | .leq=>some (.bool (decide (a<=b)))
 | .gtr=>some (.bool (decide (a>b)))
 | .geq=>some (.bool (decide (a>=b)))
 | .shl| .shr=>none
def wO{d b:Int}(w:World)(h:mB E C d b=some e): ∃c,(binOp E a (.int C d) (.int C b)).run P w= .ok c w/\Bp f e c:=by
 cases E<;>simp only[mB]at h<;>(try split at h)<;>first
  |cases h;done
  |(simp at h;subst h;first
    |exact⟨_,by simp[binOp,Op.intArith,Op.intDiv,Op.intBits, *],.int _ _⟩
    |exact⟨_,by simp[binOp,Op.intCmp],.bool _⟩)
def gX(op:BinOp)(k:IntKind)(a b:Int):Option AZ:=
 if b<0 then none else
 match op with
 | .shl=>some (.int k (k.wrap (a*2^min b.toNat k.bits)))
 | .shr=>some (.int k (a.fdiv (2^min b.toNat k.bits)))
 |_=>none
def AAh(P:Program)(t:TypeId):Option (List Kd):=
 if P.eqGuardType P.depth t then none else
 match tA P 12 t with
 |some ks=>if tI P t=some (true,ks.length)then some ks else none
 |none=>none
def sm(op:BinOp)(a b:List UInt8):Option AZ:=
 match op with
 | .add=>if a.length+b.length<=9223372036854775807 then some (.str (a++b))else none
 | .eql=>some (.bool (a==b))
 | .neq=>some (.bool (a !=b))
 | .lss=>some (.bool (Op.bytesLess a b))
 | .leq=>some (.bool (Op.bytesLess a b||a==b))
 | .gtr=>some (.bool (!(Op.bytesLess a b||a==b)))
 | .geq=>some (.bool (!Op.bytesLess a b))
 |_=>none
def ue(P:Program)(op:BinOp)(t:TypeId)(x y:AZ):Option AZ:=
 match x,y with
 | .int k a,.int k' b=>
  match op with
  | .shl| .shr=>gX op k a b
  |_=>if k=k' then mB op k a b else none
 | .bool a,.bool b=>
  match op with
  | .eql=>if kd P t= .bool then some (.bool (a==b))else none
  | .neq=>if kd P t= .bool then some (.bool (!(a==b)))else none
  |_=>none
 | .str a,.str b=>sm op a b
 | .agg as,.agg bs=>
  match AAh P t with
  |some ks=>
   if typed ks as=true/\typed ks bs=true then
    match op with
    | .eql=>some (.bool (qm as bs))
    | .neq=>some (.bool (!qm as bs))
    |_=>none
   else none
  |none=>none
 |_,_=>none
theorem yL(h:kd P a= .bool):P.underlying a=some .bool:=by unfold kd at h;grind
def toList_data(t:ByteArray):t.toList=t.data.toList:=ByteArray.toList_eq t
def ACW(w:World)(ra:Bp f e b)(t:Bp f p A)(h:ue P E a e p=some F):
  ∃c,(do eqGuard E a k J b A;binOp E a b A:Sem Value).run P w= .ok c w/\Bp f F c:=by
 unfold ue at h;split at h;rename_i g n T U;cases ra;cases t;have m:(eqGuard E a k J (.int g n) (.int T U)).run P w= .ok () w:=by unfold eqGuard;cases E<;>simp
 simp only[Sem.run_bind,m,Result.andThen_ok];split at h;unfold gX at h;split at h;cases h;rename_i C;simp only[Am]at h;subst h;exact⟨_,by simp[binOp,Op.shift,C],.int _ _⟩;unfold gX at h;split at h;cases h;rename_i C;simp only[Am]at h;subst h;exact⟨_,by simp[binOp,Op.shift,C],.int _ _⟩;simp_all[wO];rename_i u q;cases ra;cases t;have m:(eqGuard E a k J (.bool u) (.bool q)).run P w= .ok () w:=by unfold eqGuard;cases E<;>simp
 simp only[Sem.run_bind,m,Result.andThen_ok];split at h;split at h;rename_i I;simp only[Am]at h;subst h;exact⟨_,run_eql_bool w a u q (yL I),.bool _⟩;cases h;split at h;rename_i I;simp only[Am]at h;subst h;refine⟨_,?_,.bool _⟩;simp only[binOp];simp[run_equal_bool w a u q (yL I)];cases h;cases h
 ·rename_i s1 s2;cases ra with
  |str s L=>
   cases t with
   |str z O=>
    have m:(eqGuard E a k J (.string s) (.string z)).run P w= .ok () w:=by unfold eqGuard;cases E<;>simp
    simp only[Sem.run_bind,m,Result.andThen_ok];subst L O;unfold sm at h;split at h;split at h;rename_i S;simp only[Am]at h;subst h;have o: ¬(((s.size+z.size:Nat):Int)>IntKind.i64.max):=by
     have Z:s.data.toList.length=s.size:=k!
     have e2:z.data.toList.length=z.size:=k!
     have K:IntKind.i64.max=9223372036854775807:=g!
     rw[K];omega
    exact⟨.string (s++z),by simp only[binOp];simp only[Op.stringOp,if_neg o];rfl,.str _ k!⟩;cases h;all_goals first
     |cases h;done
     |(simp only[Am]at h
       subst h;exact⟨_,by simp only[binOp];simp[Op.stringOp,toList_data,bne],.bool _⟩)
 rename_i B bs;cases ra with
 | @agg B b V M Y=>
  cases t with
  | @agg bs A W N vb=>
   split at h;rename_i ks d;unfold AAh at d;split at d;cases d;rename_i G;split at d;rename_i X x;split at d;rename_i r;simp only[Am]at d;subst d;split at h;rename_i i;have y:=tB (P:=P) 9988 12 a X x;have Q:=GZ i.1;have R:=GZ i.2;have l:(Op.equalIn 10000 a (.agg b) (.agg A)).run P w= .ok (qm B bs) w:=
    y w f (.agg b) (.agg A) B bs ⟨true,_,b.toList,r,o!,⟨by simpa using V,λj v c H D=>Y j v c H (by simpa using D)⟩,k!⟩
     ⟨true,_,A.toList,r,o!,⟨by simpa using W,λj v c H D=>vb j v c H (by simpa using D)⟩,k!⟩ i.1 i.2
   have m:(eqGuard E a k J (.agg b) (.agg A)).run P w= .ok () w:=run_eqGuard_agg w E a k J b A (by simpa using G);simp only[Sem.run_bind,m,Result.andThen_ok];split at h;simp only[Am]at h;subst h;exact⟨_,by rw[run_eql_struct,l];rfl,.bool _⟩;simp only[Am]at h;subst h;exact⟨_,by rw[run_neq_struct,l];rfl,.bool _⟩;cases h;cases h;cases d;cases d;cases h
 cases h
def unV(op:UnOp)(v:AZ):Option AZ:=
 match op,v with
 | .neg,.int k n=>some (.int k (k.wrap (0-n)))
 | .xor,.int k n=>some (.int k (k.wrap (BitVec.ofInt k.bits (if k.signed then-1 else k.max)^^^BitVec.ofInt k.bits n).toNat))
 | .not,.bool b=>some (.bool !b)
 |_,_=>none
def AFR{v:UnOp}(w:World)(r:Bp f e b)(h:unV v e=some p): ∃a,(Op.unary v b).run P w= .ok a w/\Bp f p a:=by unfold unV at h;split at h;cases r;simp at h;subst h;exact⟨_,by simp[Op.unary,Op.intArith],.int _ _⟩;cases r;simp at h;subst h;exact⟨_,by simp only[Op.unary];rfl,.int _ _⟩;cases r;simp at h;subst h;exact⟨_,by simp[Op.unary],.bool _⟩;cases h
def rowsOf(H:Ax):AZ->Option (List AZ)
 | .vs sz rows=>if sz=1 then some (rows.flatMap AZ.cells)else none
 | .sl id g sz off len=>
  match H[id]? with
  |some (.live g' cs)=>if g=g'/\sz=1/\off+len<=cs.length then some ((cs.drop off).take len)else none
  |_=>none
 | .nils=>some []
 |_=>none
def u8s:List AZ->Option (List UInt8)
 |[]=>some []
 | .int .u8 n::r=>(u8s r).map (UInt8.ofNat n.toNat:: ·)
 |_=>none
def Vv(P:Program)(H:Ax)(src dst:TypeId)(v:AZ):Option AZ:=
 match kd P dst,v with
 | .int k,.int _ n=>if(P.underlying src).isSome then some (.int k (k.wrap n))else none
 | .str,.str s=>if(P.underlying src).isSome then some (.str s)else none
 | .str,v=>
  if kd P src= .bytes then
   match rowsOf H v with
   |some cs=>(u8s cs).map AZ.str
   |none=>none
  else none
 |_,_=>none
theorem my{sz:Nat}: ∀{rows:List AZ},(∀(j:Nat) (e:AZ),rows[j]? =some e->e.cells.length=sz)->(rows.flatMap AZ.cells).length=rows.length*sz
 |[],_=>k!
 |e::r,h=>by have b:=h 0 e rfl;have d:=my (rows:=r) λj a c=>h (j+1) a q!;grind
theorem flat_get{sz:Nat}(c:0<sz): ∀{rows:List AZ},(∀(j:Nat) (e:AZ),rows[j]? =some e→e.cells.length=sz)→ ∀(i:Nat) (v:AZ),(rows.flatMap AZ.cells)[i]? =some v→
  ∃e,rows[i/sz]? =some e/\e.cells[i%sz]? =some v
 |e::r,h,i,v,hi=>by
  have d:=h 0 e rfl;simp at hi;rcases Aw i sz with f|a;grind[Nat.div_eq_of_lt,Nat.mod_eq_of_lt];rw[Ch o!,d]at hi;obtain⟨b,l,m⟩:=flat_get c (rows:=r) (λj b n=>h (j+1) b q!) (i-sz) v hi;have g:i/sz=(i-sz)/sz+1:=by rw[<-Nat.add_div_right _ c,Nat.sub_add_cancel a]
  have k:i%sz=(i-sz)%sz:=by rw[<-Nat.add_mod_right (i-sz),Nat.sub_add_cancel a]
  grind
def xP{P:Program}(s:Ix c h H w)(r:Bp (cx c h H w) e b)(hr:rowsOf H e=some d):
  ∃a n cap V,b= .slice a n cap/\n=d.length/\jM (cx c h H w) d V/\((a=none/\n=0)\/ ∃C,a=some C/\(loadCells C n).run P w= .ok V.toArray w):=by
 cases r with
 |nils=>simp only[rowsOf,Am]at hr;subst hr;exact⟨none,0,0,[],rfl,rfl,⟨rfl,λ_ _ _ h=>by cases h⟩,.inl ⟨rfl,rfl⟩⟩
 | @vs sz v a cap f D ax m Z hv=>
  simp only[rowsOf]at hr;split at hr;rename_i R;subst R;simp only[Am]at hr;subst hr;have l:=my m;rw[Nat.mul_one]at l;cases v with
  |nil=>
   cases a with
   |none=>exact⟨none,0,cap,[],rfl,rfl,⟨rfl,λ_ _ _ h=>by cases h⟩,.inl ⟨rfl,rfl⟩⟩
   |some C=>exact⟨some C,0,cap,[],rfl,rfl,⟨rfl,λ_ _ _ h=>by cases h⟩,.inr ⟨C,rfl,by simp[loadCells,loadCellsFrom]⟩⟩
  |cons Y I=>
   obtain⟨B,i,rfl,hO,hB,L⟩:=Z k!;generalize Y::I=v at*;refine⟨_,v.length,cap,(List.range v.length).map λj=>f j 0,rfl,l.symm,⟨by simp[l],λj e X A o=>?_⟩,.inr ⟨_,rfl,?_⟩⟩;obtain⟨K,p,E⟩:=flat_get o! m j e A;rw[Nat.div_one]at p;rw[Nat.mod_one]at E;have t:j<v.length:=by rcases Aw j v.length with y|y;exact y;rw[Cn y]at p;cases p
   rw[CD,QY t]at o;simp only[Bl,Am]at o;subst o;exact hv j K 0 e p E;have:=run_loadCells (P:=P) w ⟨B,i,none⟩ v.length (λj=>f j 0) λj A=>by have J:v[j]? =some (v[j]):=Au A;have hl:=m j _ J;have M:(v[j]).cells[0]? =some ((v[j]).cells[0]' o!):=Au o!;rw[OR];have:=(L j _ 0 _ J M).1;simpa[cx]using this
   exact this
  cases hr
 | @sl id g sz i len b ao hg R L=>
  simp only[rowsOf]at hr;split at hr;rename_i g' x J;split at hr;rename_i z;obtain⟨rfl,rfl,ar⟩:=z;simp only[Am]at hr;subst hr;obtain⟨G,F⟩:=s.live id g x J;rcases L G with⟨q,rfl,rfl,rfl⟩|⟨B,cap,q,D,N,rfl⟩;exact⟨none,0,0,[],rfl,k!,⟨k!,λ_ _ _ _ h=>by cases h⟩,.inl ⟨rfl,rfl⟩⟩;rcases F with⟨hn,_⟩|⟨Q,W,T,fz,f,u,hb,S,U,al,k⟩;rw[hn]at q;cases q;have:Q=B:=by rw[q]at u;injection u with K;exact K.symm
  subst this;refine⟨_,len,cap,(List.range len).map λj=>f (i+j),rfl,w!,⟨w!,λj e X A o=>?_⟩,.inr ⟨_,rfl,?_⟩⟩;have t:j<len:=by rcases Aw j len with y|y;exact y;rw[Cn (by simpa using y)]at o;cases o
  rw[Zw,if_pos t,JP]at A;rw[CD,QY t]at o;simp only[Bl,Am]at o;subst o;exact(k _ e A).2.2;exact run_loadCells (P:=P) w ⟨Q,i,none⟩ len (λj=>f (i+j)) λj A=>by have O:x[i+j]? =some (x[i+j]' o!):=Au o!;rw[OR,PJ (w:=w) hb];exact(k _ _ O).1
  cases hr;cases hr
 |_=>simp only[rowsOf]at hr;cases hr
theorem vu{x:Cx}: ∀{d:List AZ} {b:List Value} {bs:List UInt8},jM x d b->u8s d=some bs-> ∃e:List Int,b=e.map (Value.int .u8)/\bs=e.map λn=>UInt8.ofNat n.toNat
 |[],b,bs,hr,hb=>by simp only[u8s]at hb;rw[EP hr.1];simp_all
 |v::d,b,bs,hr,hb=>by
  match b,hr with
  |u::b,hr=>
   have h:=hr.2 0 v u rfl rfl;have l:jM x d b:=⟨by have:=hr.1;simpa using this,λj a c p o=>hr.2 (j+1) a c q! q!⟩
   unfold u8s at hb;split at hb<;>rename_i f<;>(try cases f)<;>try (cases hb;done)
   cases k:u8s d with
   |none=>grind
   |some g=>obtain⟨e,i,m⟩:=vu l k;cases h;exact⟨_::e,by rw[i];rfl,q!⟩
def wc(a:List Int): ∀s:ByteArray,(a.foldl (λr n=>r.push (UInt8.ofNat n.toNat)) s).data.toList=s.data.toList++a.map λn=>UInt8.ofNat n.toNat:=by induction a<;>simp_all
theorem ABB{P:Program}(h:kd P a= .bytes): ∃e,P.underlying a=some (.slice e)/\P.underlying e=some (.int .u8):=by unfold kd at h;grind
theorem AAo(s:Ix c h H w)(r:Bp (cx c h H w) e b)(o:Vv P H a I e=some p):
  ∃y,(convert a I b).run P w= .ok y w/\Bp (cx c h H w) p y:=by
 unfold Vv at o;split at o;rename_i k l n j;split at o;rename_i i;obtain⟨C,i⟩:=bo.1 i;simp only[Am]at o;subst o;cases r;exact⟨_,by simp[convert,run_underlying i,run_underlying (AEv j),Conv.intToInt],.int _ _⟩;cases o;rename_i J j;split at o;rename_i i;obtain⟨C,i⟩:=bo.1 i;simp only[Am]at o;subst o;cases r with
 |str t F=>exact⟨_,by simp[convert,run_underlying i,run_underlying (ph j)],.str _ F⟩
 cases o;rename_i L j _;split at o;rename_i D;split at o;rename_i B X;cases q:u8s B with
 |none=>rw[q]at o;cases o
 |some bs=>
  rw[q]at o;simp only[Bl,Am]at o;subst o;obtain⟨v,m,z⟩:=ABB D;obtain⟨u,n,cap,K,rfl,hn,d,f⟩:=xP (P:=P) s r X;obtain⟨x,rfl,rfl⟩:=vu d q;rcases f with⟨rfl,E⟩|⟨A,rfl,g⟩;have:x=[]:=by have G:=d.1;grind[List.length_map,List.eq_nil_of_length_eq_zero]
  subst this;exact⟨.string .empty,by simp[convert,run_underlying m,run_underlying (ph j),run_underlying z,Conv.bytesToString],.str _ rfl⟩;refine⟨_,?_,.str _ (wc x ByteArray.empty)⟩;simp only[convert,Sem.run_bind,run_underlying m,run_underlying (ph j),run_underlying z,Result.andThen_ok];exact run_bytesToString w A n cap x (by simpa using g)
 cases o;cases o;cases o
def pn(P:Program)(H:Ax)(t:TypeId)(v:AZ):Option AZ:=
 match P.underlying t,v with
 |some .string,.str s=>some (.int .i64 s.length)
 |some (.array n _),_=>some (.int .i64 n)
 |some (.slice _),.vs _ rows=>some (.int .i64 rows.length)
 |some (.slice _),.sl _ _ _ _ len=>some (.int .i64 len)
 |some (.slice _),.nils=>some (.int .i64 0)
 |_,_=>none
def AC9{P:Program}{w:World}{t ty:TypeId}(s:Ix c h H w)(r:Bp (cx c h H w) e b)(v:pn P H t e=some p):
  ∃f,(Builtin.len_ #[t] ty #[b]).run P w= .ok f w/\Bp (cx c h H w) p f:=by
 unfold pn at v;split at v;rename_i X d;simp only[Am]at v;subst v;cases r with
 |str j m=>
  refine⟨.int .i64 j.size,by simp[Builtin.len_,run_underlying d,goInt],?_⟩;have:X.length=j.size:=by rw[<-m];simp
  rw[this];exact .int _ _
 rename_i n u d;simp only[Am]at v;subst v;exact⟨.int .i64 n,by simp[Builtin.len_,run_underlying d,goInt],.int _ _⟩;rename_i sz i d;simp only[Am]at v;subst v;cases r;exact⟨_,by simp[Builtin.len_,run_underlying d,goInt],.int _ _⟩;rename_i id g sz o len d;simp only[Am]at v;subst v;cases r with
 |sl l x k q=>obtain⟨a,cap,rfl⟩:=k;exact⟨_,by simp[Builtin.len_,run_underlying d,goInt],.int _ _⟩
 rename_i d;simp only[Am]at v;subst v;cases r;exact⟨_,by simp[Builtin.len_,run_underlying d,goInt],.int _ _⟩;cases v
def mmV(mx:Bool):List AZ->Option AZ
 |[.int k a,.int _ b]=>some (.int k (if mx then(if b>a then b else a)else(if b<a then b else a)))
 |_=>none
def ABN{P:Program}{w:World}{mx:Bool}{ts:Array TypeId}{ty:TypeId}(g:Bp f p b)(h:Bp f e A)(a:mmV mx [p,e]=some F):
  ∃x,((if mx then Builtin.max_ ts ty #[b,A]else Builtin.min_ ts ty #[b,A]):Sem Value).run P w= .ok x w/\Bp f F x:=by
 cases p<;>try (simp[mmV]at a;done)
 cases e<;>try (simp[mmV]at a;done)
 cases g;cases h;simp only[mmV,Am]at a;subst a;cases mx;exact⟨_,by simp[Builtin.min_,Builtin.min2],.int _ _⟩;exact⟨_,by simp[Builtin.max_,Builtin.max2],.int _ _⟩
def mm3:AZ->AZ->AZ->Option AZ
 | .int k a,.int _ b,.int _ c=>some (.int k (if c<(if b<a then b else a)then c else(if b<a then b else a)))
 |_,_,_=>none
def ADE{P:Program}{w:World}{ts:Array TypeId}{ty:TypeId}{u:AZ}{g:Value}(i:Bp f e b)(j:Bp f p A)(k:Bp f F g)(a:mm3 e p F=some u):
  ∃x,(Builtin.min_ ts ty #[b,A,g]).run P w= .ok x w/\Bp f u x:=by
 unfold mm3 at a;split at a;cases i;cases j;cases k;simp at a;subst a;exact⟨_,by simp[Builtin.min_,Builtin.min2],.int _ _⟩;cases a
def pz:AZ->Option Nat
 | .int _ i=>if 0<=i then some i.toNat else none
 |_=>none
def V1(d:Nat):Option AZ->Option Nat
 |none=>some d
 |some v=>pz v
def gY(P:Program)(H:Ax)(t:TypeId)(v:AZ)(lo hi mx:Option AZ):Option AZ:=
 match v with
 | .str s=>
  match V1 0 lo,V1 s.length hi,mx with
  |some l,some h,none=>if kd P t= .str/\l<=h/\h<=s.length then some (.str ((s.drop l).take (h-l)))else none
  |_,_,_=>none
 | .vs sz rows=>
  match V1 0 lo,V1 rows.length hi,V1 rows.length mx,eI P t with
  |some l,some h,some m,some (none,_,sz')=>if sz=sz'/\l<=h/\h<=m/\m<=rows.length/\(mx.isSome=true->hi.isSome=true)then some (.vs sz ((rows.drop l).take (h-l)))else none
  |_,_,_,_=>none
 | .sl id g sz off len=>
  match V1 0 lo,V1 len hi,V1 len mx,eI P t with
  |some l,some h,some m,some (none,_,sz')=>
   if sz=sz'/\0<sz/\l<=h/\h<=m/\m<=len/\SP H id g=true/\(mx.isSome=true->hi.isSome=true)then
    if l=0 then some (.sl id g sz off h)else if l=h then some (.vs sz [])else some (.sl id g sz (off+l*sz) (h-l))
   else none
  |_,_,_,_=>none
 | .nils=>
  match V1 0 lo,V1 0 hi,V1 0 mx,eI P t with
  |some 0,some 0,some 0,some (none,_,_)=>if mx.isSome=true->hi.isSome=true then some .nils else none
  |_,_,_,_=>none
 |_=>none
theorem zW(r:Bp f e b)(h:pz e=some N): ∃k i,b= .int k i/\0<=i/\i.toNat=N:=by
 cases e<;>try (simp[pz]at h;done)
 cases r;grind[pz]
def run_sliceBound{P:Program}{w:World}{code:BoundsCode}(r:Bp f e b)(h:pz e=some N)(x:N<=t):(Instr.sliceBound b t code).run P w= .ok N w:=by
 obtain⟨k,i,rfl,a,rfl⟩:=zW r h;have:i<=t:=o!
 simp[Instr.sliceBound,asIntOf,a,this]
def XV{P:Program}{w:World}{isSlice:Bool}{len cap l h m:Nat}{k j mx:Option AZ}{e b cmx:Option Value}(i: ∀v,k=some v→ ∃c,e=some c∧Bp f v c)(g:k=none→e=none)
  (o: ∀v,j=some v-> ∃c,b=some c/\Bp f v c) (t:j=none->b=none) (z: ∀v,mx=some v-> ∃c,cmx=some c/\Bp f v c) (u:mx=none->cmx=none)
  (a:V1 0 k=some l) (q:V1 len j=some h) (D:V1 len mx=some m) (s:l<=h) (E:h<=m) (J:m<=len) (K:len<=cap) (F:mx.isSome=true->j.isSome=true):
  (Instr.sliceBounds isSlice len cap e b cmx).run P w= .ok (l,h,if mx.isSome then m else cap) w:=by
 unfold Instr.sliceBounds;cases mx with
 |none=>
  obtain rfl:=u rfl;cases j with
  |none=>
   obtain rfl:=t rfl;simp only[V1,Am]at q;subst q;cases k with
   |none=>obtain rfl:=g rfl;simp only[V1,Am]at a;simp[a]
   |some v=>obtain⟨d,rfl,r⟩:=i v rfl;have n:=λc=>run_sliceBound (P:=P) (w:=w) (code:=c) r a s;simp[n]
  |some A=>
   obtain⟨B,rfl,y⟩:=o A rfl;have p:=λc=>run_sliceBound (P:=P) (w:=w) (code:=c) y q (show h<=cap by omega);cases k with
   |none=>obtain rfl:=g rfl;simp only[V1,Am]at a;simp[a,p]
   |some v=>obtain⟨d,rfl,r⟩:=i v rfl;have n:=λc=>run_sliceBound (P:=P) (w:=w) (code:=c) r a s;simp[p,n]
 |some H=>
  obtain⟨I,rfl,G⟩:=z H rfl;have x:=F rfl;cases j with
  |none=>simp at x
  |some A=>
   obtain⟨B,rfl,y⟩:=o A rfl;have C:=λc=>run_sliceBound (P:=P) (w:=w) (code:=c) G D (show m<=cap by omega);have p:=λc=>run_sliceBound (P:=P) (w:=w) (code:=c) y q E;simp only[Sem.run_bind,C,p,Result.andThen_ok,Option.isSome_some,if_true];cases k with
   |none=>obtain rfl:=g rfl;simp only[V1,Am]at a;simp[a]
   |some v=>obtain⟨d,rfl,r⟩:=i v rfl;have n:=λc=>run_sliceBound (P:=P) (w:=w) (code:=c) r a s;simp[n]
theorem P7{P:Program}(t:eI P a=some (none,I,N)):P.underlying a=some (.slice I)/\ ∃b,tI P I=some (b,N):=by unfold eI at t;split at t;simp_all;rename_i c d;cases f:tI P c<;>grind;cases t
theorem zp{lo V q:Option AZ}{N L A:Option Value}(s:Ix c h H w)(r:Bp (cx c h H w) e b)
  (K: ∀e,lo=some e-> ∃b,N=some b/\Bp (cx c h H w) e b) (G:lo=none->N=none)
  (J: ∀e,V=some e-> ∃b,L=some b/\Bp (cx c h H w) e b) (F:V=none->L=none) (R: ∀e,q=some e-> ∃b,A=some b/\Bp (cx c h H w) e b) (I:q=none->A=none)
  (d:gY P H a e lo V q=some p): ∃c',(Instr.sliceAt a b N L A).run P w= .ok c' w/\Bp (cx c h H w) p c':=by
 unfold gY at d;split at d;rename_i s';split at d;rename_i l X S O;split at d;rename_i o;obtain⟨hk,h1,U⟩:=o;simp only[Am]at d;subst d;obtain rfl:=I rfl;cases r with
 |str t' ht=>
  have x:s'.length=t'.size:=by rw[<-ht];simp
  rw[x]at O U;have o:=XV (P:=P) (w:=w) (isSlice:=false) (len:=t'.size) (cap:=t'.size) (mx:=none) (cmx:=none) K G J F (λ_ h=>by cases h) (λ_=>rfl) S O rfl h1 U (Aq _) (Aq _) (λh=>by cases h);refine⟨.string (t'.extract l X),?_,.str _ ?_⟩;simp only[Instr.sliceAt,Instr.slice,Sem.run_bind,run_underlying (ph hk),Result.andThen_ok,Option.isSome_none,PG,if_false,o,Sem.run_pure];simp_all[rF]
 cases d;cases d;rename_i sz k;split at d;rename_i l X m v a2 S O Z he;split at d;rename_i o;obtain⟨rfl,h1,U,h3,h4⟩:=o;simp only[Am]at d;subst d;obtain⟨z,t,y⟩:=P7 he;cases r with
 | @vs sz k u cap f C Y ao ha d=>
  have o:=XV (P:=P) (w:=w) (isSlice:=true) (len:=k.length) (cap:=cap) K G J F R I S O Z h1 U h3 C h4;have E: ∀{j:Nat} {v:AZ},((k.drop l).take (X-l))[j]? =some v->k[l+j]? =some v:=q!
  have x:((k.drop l).take (X-l)).length=X-l:=w!
  refine⟨.slice (if(if q.isSome then m else cap)=l then u else u.map (·.add (l*sz))) (X-l) ((if q.isSome then m else cap)-l),?_,?_⟩;simp only[Instr.sliceAt,Instr.slice,Sem.run_bind,run_underlying z,Result.andThen_ok,o,K7 y,Sem.run_pure];have hM:X<=(if q.isSome then m else cap):=by split<;>omega
  generalize (if q.isSome then m else cap)=M at hM;have T:Bp (cx c h H w) (.vs sz ((k.drop l).take (X-l))) (.slice (if M=l then u else u.map (·.add (l*sz))) ((k.drop l).take (X-l)).length (M-l)):=?_;rw[x]at T;exact T;refine .vs (λj i=>f (l+j) i) (by rw[x];omega) Y (λj v hj=>ao _ v (E hj)) (λa5=>?_) λj v i e hj V=>d _ v i e (E hj) V;have a4:l<X:=by rcases Aw l X with h5|h5;exact h5;simp_all[EP]
  obtain⟨B,n,rfl,hO,hB,hc⟩:=ha (by intro v;rw[v]at h3;simp at h3;omega);refine⟨B,n+l*sz,?_,hO,hB,λj v i e hj V=>?_⟩;grind[OR];have:=hc _ v i e (E hj) V;rw[FN]at this;rw[show n+l*sz+(j*sz+i)=n+(l*sz+j*sz+i)from by omega];exact this
 cases d;cases d;rename_i id g sz n len;split at d;rename_i l X m v a2 S O Z he;split at d;rename_i o;obtain⟨rfl,Y,h1,U,h3,ad,h4⟩:=o;obtain⟨z,t,y⟩:=P7 he;cases r with
 | @sl id g sz n len b W hg a3 hc=>
  rcases hc (s.cur ad)with⟨Q,rfl,rfl,rfl⟩|⟨B,cap,Q,C,D,rfl⟩;have o:=XV (P:=P) (w:=w) (isSlice:=true) (len:=0) (cap:=0) K G J F R I S O Z h1 U h3 (Aq _) h4;have a0:l=0:=o!
  have ax:X=0:=o!
  have a1:m=0:=o!
  subst a0 ax a1;simp only[if_true,Am]at d;subst d;refine⟨.slice none 0 0,?_,.sl W hg ⟨_,_,rfl⟩ λ_=>.inl ⟨Q,rfl,rfl,rfl⟩⟩;simp only[Instr.sliceAt,Instr.slice,Sem.run_bind,run_underlying z,Result.andThen_ok,o,K7 y,Sem.run_pure];cases q<;>simp;have o:=XV (P:=P) (w:=w) (isSlice:=true) (len:=len) (cap:=cap) K G J F R I S O Z h1 U h3 C h4
  have ar:(Instr.sliceAt a (.slice (some ⟨B,n,none⟩) len cap) N L A).run P w=
    .ok (.slice (if(if q.isSome then m else cap)=l then some ⟨B,n,none⟩else(some ⟨B,n,none⟩:Option Addr).map (·.add (l*sz))) (X-l) ((if q.isSome then m else cap)-l)) w:=by
   simp only[Instr.sliceAt,Instr.slice,Sem.run_bind,run_underlying z,Result.andThen_ok,o,K7 y,Sem.run_pure]
  refine⟨_,ar,?_⟩;have hM:X<=(if q.isSome then m else cap)/\(if q.isSome then m else cap)<=cap:=by split<;>omega
  generalize (if q.isSome then m else cap)=M at hM;split at d;rename_i hl;subst hl;simp only[Am]at d;subst d;refine .sl W hg ⟨_,_,rfl⟩ λ_=>.inr ⟨B,M,Q,hM.1,?_,?_⟩;exact DH (Nat.add_le_add_left (OV _ hM.2) _) D;simp[OR];rename_i hl;split at d;rename_i al;subst al;simp only[Am]at d;subst d;rw[Ge];exact Bp.vs (rows:=[]) (λ_ _=>undef) (Bi _) Y (λ_ _ h=>by simp at h) (λh=>(h rfl).elim) λ_ _ _ _ h=>by simp at h
  rename_i al;simp only[Am]at d;subst d;refine .sl W hg ⟨_,_,rfl⟩ λ_=>.inr ⟨B,M-l,Q,o!,?_,?_⟩;rw[bm,<-FN];have:l+(M-l)=M:=o!
  rw[this];exact DH (Nat.add_le_add_left (OV _ hM.2) _) D;rw[if_neg o!];simp[OR]
 cases d;cases d;split at d;rename_i v sz S O Z he;split at d;rename_i h4;simp only[Am]at d;subst d;obtain⟨z,t,y⟩:=P7 he;cases r;have o:=XV (P:=P) (w:=w) (isSlice:=true) (len:=0) (cap:=0) K G J F R I S O Z (Aq _) (Aq _) (Aq _) (Aq _) h4;refine⟨.slice none 0 0,?_,.nils⟩;simp only[Instr.sliceAt,Instr.slice,Sem.run_bind,run_underlying z,Result.andThen_ok,o,K7 y,Sem.run_pure];cases q<;>simp;cases d;cases d;cases d
def AZ.solid:AZ->Bool
 | .any=>false
 | .tup _=>false
 |_=>true
def cells_one(h:b.oneCell'=true):b.cells= #[b]:=by cases b<;>first|rfl|(simp[Value.oneCell']at h;done)
theorem VT(r:Bp f e b)(h:e.solid=true):Bp f (.agg e.cells) (.agg b.cells):=by
 have one: ∀{u:AZ} {d:Value},Bp f u d->d.oneCell'=true->d.cells= #[d]->u.cells=[u]->Bp f (.agg u.cells) (.agg d.cells):=by intro u d A g q z;rw[q,z];refine .agg rfl (λj b s=>?_) λj e b s l=>?_;grind;grind
 cases r with
 |agg o g p=>exact .agg o g p
 |any b=>simp[AZ.solid]at h
 |tup o p=>simp[AZ.solid]at h
 |ptr i m g l=>exact one (.ptr i m g l) g (cells_one g) rfl
 |sl i m g l=>obtain⟨a,cap,rfl⟩:=g;exact one (.sl i m ⟨a,cap,rfl⟩ l) rfl (cells_one rfl) rfl
 |bool v=>exact one (.bool v) rfl rfl rfl
 |int k n=>exact one (.int k n) rfl rfl rfl
 |str t y=>exact one (.str t y) rfl rfl rfl
 |nilp=>exact one .nilp rfl rfl rfl
 |vptr c a v b d=>exact one (.vptr c a v b d) rfl rfl rfl
 |nils=>exact one .nils rfl rfl rfl
 |vs c a v b d x=>exact one (.vs c a v b d x) rfl rfl rfl
 |fn a v b d=>exact one (.fn a v b d) rfl rfl rfl
 |yf i g l=>exact one (.yf i g l) g (cells_one g) rfl
 |mp i g l=>exact one (.mp i g l) g (cells_one g) rfl
 |itp i w g l=>exact one (.itp i w g l) g (cells_one g) rfl
 |nilf=>exact one .nilf rfl rfl rfl
def VS(cs:List AZ)(off:Nat)(vs:List AZ):List AZ:=cs.take off++vs++cs.drop (off+vs.length)
theorem gW{c:List AZ}(h:N+c.length<=d.length):(VS d N c).length=d.length:=by grind[VS]
theorem qP{b:List AZ}(h:N+b.length<=d.length)(j:Nat):(VS d N b)[j]? =if N<=j/\j<N+b.length then b[j-N]? else d[j]? :=by grind[VS,List.getElem?_append_left]
inductive YV where
 |arr (sz:Nat)
 |str (l:List (Nat×Nat))
def YV.at_:YV->Nat->Option (Nat×Nat)
 | .arr sz,i=>some (i*sz,sz)
 | .str l,i=>l[i]?
def XZ(P:Program)(t:TypeId):Option (List AZ):=
 match (P.info? t).bind (·.zero)with
 |some z=>if z.cells.toList.all (·.oneCell')then some (z.cells.toList.map nP)else none
 |none=>none
def qI(P:Program)(t:TypeId):Option YV:=
 match P.underlying t with
 |some (.struct fs)=>(fs.toList.mapM λf=>(P.info? f.type).map λi=>(f.offset,i.size)).map YV.str
 |some (.array _ e)=>(P.info? e).map λi=>YV.arr i.size
 |_=>none
def nS(p:YV):List AZ->List (Nat×AZ)->Option (List AZ)
 |cs,[]=>some cs
 |cs,(i,v)::r=>
  match p.at_ i with
  |some (off,size)=>if v.solid=true/\v.cells.length=size/\off+size<=cs.length then nS p (VS cs off v.cells) r else none
  |none=>none
def om(P:Program)(t:TypeId)(parts:List (Nat×AZ)):Option AZ:=
 match XZ P t,qI P t with
 |some z,some p=>(nS p z parts).map AZ.agg
 |_,_=>none
theorem bd(x:Cx)(h:XZ P a=some d): ∃i v,P.info? a=some i/\i.zero=some v/\Bp x (.agg d) (.agg v.cells):=by
 unfold XZ at h;cases t:P.info? a with
 |none=>grind
 |some i=>
  cases b:i.zero with
  |none=>grind
  |some v=>rw[t]at h;simp only[AD,b]at h;split at h;rename_i z;simp at h;subst h;refine⟨i,v,rfl,b,.agg k! (λj c e=>?_) λj u c e f=>?_⟩;grind;grind[mK];cases h
theorem foldl_set(a:Nat): ∀(l:List Value) (k:Nat) (b:Array Value),a+k+l.length≤b.size→
  ((l.zipIdx k).foldl (λb (p:Value×Nat)=>b.setIfInBounds (a+p.2) p.1) b).size=b.size/\∀j,((l.zipIdx k).foldl (λb (p:Value×Nat)=>b.setIfInBounds (a+p.2) p.1) b)[j]? =if a+k<=j/\j<a+k+l.length then l[j-(a+k)]? else b[j]?
 |[],k,b,_=>by simp;intro j c d;omega
 |v::l,k,b,h=>by simp at h⊢;obtain⟨c,d⟩:=foldl_set a l (k+1) (b.setIfInBounds (a+k) v) w!;grind
theorem ABw{g:List AZ}{e:Array Value}{off:Nat}(r:Bp f (.agg d) (.agg i))(p:Bp f (.agg g) (.agg e))(h:off+g.length≤d.length)(a:Array Value)
  (b:a.size=i.size) (x: ∀j,a[j]? =if off<=j/\j<off+e.size then e[j-off]? else i[j]?):Bp f (.agg (VS d off g)) (.agg a):=by
 cases r with
 |agg m q t=>
  cases p with
  |agg n k o=>refine .agg (by rw[b,m,gW h]) (λj c l=>?_) λj v c l s=>?_;grind;grind[qP]
theorem rV{x:Cx}(p:YV): ∀(b:List (Nat×AZ)) (a:List (Nat×Value)) (f:List AZ) (d:Array Value) (n:List AZ),a.map (·.1)=b.map (·.1)→
  (∀(j:Nat) (q:Nat×AZ) (o:Nat×Value),b[j]? =some q->a[j]? =some o->Bp x q.2 o.2)->Bp x (.agg f) (.agg d)->nS p f b=some n->
  ∃l,Instr.fill p.at_ d a=some l/\Bp x (.agg n) (.agg l)
 |[],a,f,d,n,m,_,r,h=>by
  have:a=[]:=t!
  subst this;simp only[nS,Am]at h;subst h;exact⟨d,rfl,r⟩
 |(i,v)::b,(i',c)::a,f,d,n,m,hr,r,h=>by
  simp at m;obtain⟨rfl,m⟩:=m;simp only[nS]at h;split at h;rename_i e size E;split at h;rename_i u;obtain⟨g,rfl,s⟩:=u;have t:=VT (hr 0 (i',v) (i',c) rfl rfl) g;have z:c.cells.size=v.cells.length:=by cases t with|agg h _ _=>exact h
  have w:d.size=f.length:=by cases r with|agg h _ _=>exact h
  have k:=foldl_set e c.cells.toList 0 d q!;have B:c.cells.zipIdx.foldl (λf (p:Value×Nat)=>f.setIfInBounds (e+p.2) p.1) d=(c.cells.toList.zipIdx 0).foldl (λf (p:Value×Nat)=>f.setIfInBounds (e+p.2) p.1) d:=by rw[<-Array.foldl_toList,Array.toList_zipIdx]
  have A:=ABw (off:=e) r t s ((c.cells.toList.zipIdx 0).foldl (λf (p:Value×Nat)=>f.setIfInBounds (e+p.2) p.1) d) k.1 (λj=>q!);obtain⟨l,C,D⟩:=rV p b a _ _ n m (λj q o F y=>hr (j+1) q o q! q!) A h;grind[Instr.fill];cases h;cases h
theorem yx{b:List (Nat×AZ)}{t:Array (Nat×Value)}(E:t.toList.map (·.1)=b.map (·.1))
  (hr: ∀(j:Nat) (q:Nat×AZ) (A:Nat×Value),b[j]? =some q->t.toList[j]? =some A->Bp f q.2 A.2) (h:om P a b=some e): ∃c,(Instr.build a t).run P w= .ok c w/\Bp f e c:=by
 unfold om at h;split at h;rename_i z p F d;cases y:nS p z b with
 |none=>grind
 |some H=>
  rw[y]at h;simp at h;subst h;obtain⟨i,v,D,k,G⟩:=bd f F;obtain⟨m,s,C⟩:=rV p b t.toList z v.cells H E hr G y;refine⟨.agg m,run_build w a t m ?_,C⟩;unfold Program.built;rw[D];unfold qI at d;split at d;rename_i B r;rw[r];cases o:B.toList.mapM (λu=>(P.info? u.type).map λi=>(u.offset,i.size))with
  |none=>grind
  |some l=>simp only[k,o];rw[<-s];congr 1;grind[YV.at_]
  rename_i n x r;rw[r];cases g:P.info? x with
  |none=>grind
  |some I=>rw[g]at d;simp at d;subst d;simp only[k,g];exact s
  cases d
 cases h
def Cb(P:Program)(env:Env)(H:Ax):Op->Option AZ
 | .move x| .assign x=>some (BL env x)
 | .pick c a b=>
  match BL env c with
  | .bool t=>some (if t then BL env a else BL env b)
  |_=>none
 | .load t a=>eJ P t H (BL env a)
 | .nilCheck x=>
  match BL env x with
  | .ptr id g off=>if SP H id g then some (.ptr id g off)else none
  | .vptr cs=>some (.vptr cs)
  | .fn (.func f) a b=>some (.fn (.func f) a b)
  |_=>none
 | .binOp op t x y _=>ue P op t (BL env x) (BL env y)
 | .unOp op _ x=>unV op (BL env x)
 | .convert s d x=>Vv P H s d (BL env x)
 | .fieldAddr s x f=>Un P H s f (BL env x)
 | .field s x f=>pF P s f (BL env x)
 | .indexAddr t x i=>Us P H t (BL env x) (BL env i)
 | .index t x i=>gQ P t (BL env x) (BL env i)
 | .slice t x lo hi mx=>gY P H t (BL env x) (lo.map (BL env)) (hi.map (BL env)) (mx.map (BL env))
 | .extract x i=>
  match BL env x with
  | .tup vs=>vs[i]?
  |_=>none
 | .makeFunc f a b=>some (.fn f (a.toList.map (BL env)) (b.toList.map (BL env)))
 | .build t parts=>om P t (parts.toList.map λp=>(p.1,BL env p.2))
 | .call {callee:=.builtin .len,args:=⟨[x]⟩,argTypes:=⟨[t]⟩}=>pn P H t (BL env x)
 | .call {callee:=.builtin .max,args:=⟨[x,y]⟩,.. }=>mmV true [BL env x,BL env y]
 | .call {callee:=.builtin .min,args:=⟨[x,y]⟩,.. }=>mmV false [BL env x,BL env y]
 | .call {callee:=.builtin .min,args:=⟨[x,y,z]⟩,.. }=>mm3 (BL env x) (BL env y) (BL env z)
 |_=>none
def ze{P:Program}{N:Nat}{X:Nat→Prop}{h:Gh}{env:Env}{H:Ax}{a:Act}{w:World}{o:Oper}{v:AZ}(s:St X h N env H a w)(b:Cb P env H o.op=some v):
  ∃c,(execOp a.eval o).run P w= .ok (.value c) w/\Bp (cx X h H w) v c:=by
 have k:=λx=>DA s.env x;have d: ∀{m:Sem Value},(∃c,m.run P w= .ok c w/\Bp (cx X h H w) v c)-> ∃c,(do pure (Next.value (<-m)):Sem Next).run P w= .ok (.value c) w/\Bp (cx X h H w) v c:=by rintro m ⟨c,u,hr⟩;exact⟨c,by simp[u],hr⟩
 unfold execOp;cases e:o.op with
 |move x=>rw[e]at b;simp only[Cb,Am]at b;subst b;exact⟨_,rfl,k x⟩
 |assign x=>rw[e]at b;simp only[Cb,Am]at b;subst b;exact⟨_,rfl,k x⟩
 |pick c x y=>rw[e]at b;simp only[Cb]at b;split at b;rename_i t ht;have u:=k c;rw[ht]at u;simp only[Am]at b;subst b;generalize W:a.eval c=cv at u;cases u;simp only[W,asBool];cases t;exact⟨_,k!,k y⟩;exact⟨_,k!,k x⟩;cases b
 |load t x=>rw[e]at b;simp only[Cb]at b;obtain⟨B,ad,D,E,hl,hr⟩:=vN s.sim (k x) b;exact d ⟨D,by rw[E];simp[Instr.loadAt,Instr.sureAddr,hl],hr⟩
 |nilCheck x=>
  rw[e]at b;simp only[Cb]at b;have z:=k x;split at b;rename_i id g ad E;rw[E]at z;split at b;rename_i M;simp only[Am]at b;subst b;generalize A:a.eval x=c at z;cases z with
  |ptr Y S n u=>obtain⟨B,al,rfl⟩:=u (s.sim.cur M);exact⟨_,by simp only[A];rfl,.ptr Y S n u⟩
  cases b;rename_i cs E;rw[E]at z;simp only[Am]at b;subst b;generalize A:a.eval x=c at z;cases z with
  |vptr f n r U V=>exact⟨_,by simp only[A];rfl,.vptr f n r U V⟩
  rename_i f p q E;rw[E]at z;simp only[Am]at b;subst b;generalize A:a.eval x=c at z;cases z with
  |fn n r U V=>exact⟨_,by simp only[A];rfl,.fn n r U V⟩
  cases b
 |binOp op t x y yt=>rw[e]at b;simp only[Cb]at b;exact d (ACW w (k x) (k y) b)
 |unOp op t x=>rw[e]at b;simp only[Cb]at b;exact d (AFR w (k x) b)
 |convert p q x=>rw[e]at b;simp only[Cb]at b;exact d (AAo s.sim (k x) b)
 |fieldAddr p x f=>rw[e]at b;simp only[Cb]at b;exact d (qo s.sim (k x) b)
 |field p x f=>rw[e]at b;simp only[Cb]at b;exact d (zI (k x) b)
 |indexAddr t x i=>rw[e]at b;simp only[Cb]at b;exact d (qv s.sim (k x) (k i) b)
 |index t x i=>rw[e]at b;simp only[Cb]at b;exact d (zO (k x) (k i) b)
 |slice t x lo hi T=>
  rw[e]at b;simp only[Cb]at b;have G: ∀(y:Option Operand) (v:AZ),y.map (BL env)=some v-> ∃c,y.map a.eval=some c/\Bp (cx X h H w) v c:=by
   intro y v Q;cases y with
   |none=>cases Q
   |some y=>simp only[Bl,Am]at Q;subst Q;exact⟨_,rfl,k y⟩
  have C: ∀(y:Option Operand),y.map (BL env)=none->y.map a.eval=none:=by
   intro y Q;cases y with
   |none=>rfl
   |some y=>cases Q
  exact d (zp s.sim (k x) (G lo) (C lo) (G hi) (C hi) (G T) (C T) b)
 |extract x i=>
  rw[e]at b;simp only[Cb]at b;have z:=k x;split at b;rename_i vs E;rw[E]at z;generalize u:a.eval x=c at z;cases z with
  | @tup vs R hs Z=>
   have ao:i<vs.length:=by rcases Aw i vs.length with r|r;exact r;rw[Cn r]at b;cases b
   have S:R[i]? =some (R[i]' o!):=L8 o!;refine d ⟨_,?_,Z i v _ b S⟩;simp only[Instr.extract,u,S];rfl
  cases b
 |makeFunc f p q=>
  rw[e]at b;simp only[Cb,Am]at b;subst b;have L: ∀(p:Array Operand) (j:Nat) (v:AZ) (c:Value),(p.toList.map (BL env))[j]? =some v->(p.map a.eval)[j]? =some c->Bp (cx X h H w) v c:=by
   intro p j v c J u;rw[CD,Nd]at J;rw[Wl]at u;cases O:p[j]? with
   |none=>rw[O]at J;cases J
   |some y=>rw[O]at J u;simp only[Bl,Am]at J u;subst J u;exact k y
  exact d ⟨_,rfl,.fn k! k! (L p) (L q)⟩
 |build t I=>
  rw[e]at b;simp only[Cb]at b;refine d (yx ?_ ?_ b);simp;intro j q q' K F;rw[CD,Nd]at K;rw[Nd,Wl]at F;cases O:I[j]? with
  |none=>rw[O]at K;cases K
  |some y=>rw[O]at K F;simp only[Bl,Am]at K F;subst K F;exact k y.2
 |call c=>
  rw[e]at b;simp only[Cb]at b;split at b<;>rename_i l<;>first
   |(cases b;done)
   |(cases l;done)
   |skip
  injection l with l;subst l;simp only[resolve,invoke,builtin,Sem.run_bind,Sem.run_pure,Result.andThen_ok,Pw,Bv,HE];obtain⟨D,n,r⟩:=AC9 (ty:=o.type) s.sim (k _) b;exact⟨D,by rw[n];rfl,r⟩;injection l with l;subst l;simp only[resolve,invoke,builtin,Sem.run_bind,Sem.run_pure,Result.andThen_ok,Pw,Bv,HE];obtain⟨D,n,r⟩:=ABN (P:=P) (w:=w) (mx:=true) (ts:=_) (ty:=o.type) (k _) (k _) b;exact⟨D,by simp only[if_true]at n;rw[n];rfl,r⟩;injection l with l;subst l;simp only[resolve,invoke,builtin,Sem.run_bind,Sem.run_pure,Result.andThen_ok,Pw,Bv,HE];obtain⟨D,n,r⟩:=ABN (P:=P) (w:=w) (mx:=false) (ts:=_) (ty:=o.type) (k _) (k _) b;exact⟨D,by simp only[PG,if_false]at n;rw[n];rfl,r⟩;injection l with l;subst l;simp only[resolve,invoke,builtin,Sem.run_bind,Sem.run_pure,Result.andThen_ok,Pw,Bv,HE];obtain⟨D,n,r⟩:=ADE (P:=P) (w:=w) (ts:=_) (ty:=o.type) (k _) (k _) (k _) b;exact⟨D,by rw[n];rfl,r⟩
 |_=>rw[e]at b;simp[Cb]at b
def Dj{P:Program}{N:Nat}{H:Ax}{v:AZ}(b:Cb P g H o.op=some v)(e:K v H):JC P N o g H K:=by apply C2 (by cases f:o.op<;>first|rfl|(rw[f]at b;simp[Cb]at b));intro X h a w s Q;obtain⟨c,d,hr⟩:=ze s b;unfold Oper.wp;rw[d,Oper.upon_value];exact⟨c,v,h,H,rfl,e,hr,s.sim,HC.refl _ _ _⟩
section
variable {X:Nat->Prop} {h:Gh} {H:Ax} {w:World}
def Gh.at_(h:Gh)(id:Nat)(io:Option Nat)(gen cap:Nat):Gh:=
 ⟨λi=>if i=id then io else h.io i,λi=>if i=id then gen else h.gen i,λi=>if i=id then cap else h.cap i⟩
def Holds(x:Cx)(cs:List AZ)(arr:Array Value)(fz:Nat×Nat):Prop:=
 ∃f:Nat->Value,cs.length<=arr.size/\(∀i,i<arr.size->(decide (fz.1<=i)&&decide (i<fz.2))=false)/\
  ∀(j:Nat) (v:AZ),cs[j]? =some v->arr[j]? =some (f j)/\(f j).oneCell'=true/\Bp x v (f j)
def Pf(r:Bp f (.agg d) (.agg i)):Holds f d i (0,0):=by
 cases r with
 |agg l h k=>
  refine⟨λj=>i.getD j undef,o!,λx _=>k!,λj v a=>?_⟩;have b:j<i.size:=by rcases Aw j d.length with g|g;omega;rw[Cn g]at a;cases a
  have c:i[j]? =some (i[j]):=L8 b;have e:i.getD j undef=i[j]:=by simp[b]
  show i[j]? =some (i.getD j undef)/\(i.getD j undef).oneCell'=true/\Bp f v (i.getD j undef);rw[e];exact⟨c,h j _ c,k j v _ a c⟩
def Ix.of_ext'(s:Ix X h H w)(V:HC h H w M O z)
  (key: ∀(id:Nat) (e:FZ),O[id]? =some e->e≠ .dead->(H[id]? =some e/\M.gen id=h.gen id/\M.io id=h.io id/\M.cap id=h.cap id/\ ∀B,h.io id=some B->z.heap[B]? =w.heap[B]?)\/((∃g K,e= .live g K/\xc (cx X M O z) id g K)\/(∃L,e= .lp L/\sg (cx X M O z) id L)\/(e.isB=true/\BAt M z id e)))
  (inj: ∀(id x:Nat) (e W:FZ) (B:Nat),O[id]? =some e->O[x]? =some W->e≠ .dead->W≠ .dead->M.io id=some B->M.io x=some B->id=x):Ix X M O z:=by
 have hl:=V.later X;refine⟨λB l=>⟨DM (s.out B l).1 V.size,λN=>?_⟩,λid g K I=>?_,λid L I=>?_,inj,λid e I l=>?_⟩;rcases V.fresh B N with N|N;exact(s.out B l).2 N;have:=(s.out B l).1;omega;rcases key id _ I k! with⟨c,y,q,A,p⟩|⟨Y,D,e,hn⟩|⟨L,e,_⟩|⟨e,_⟩;obtain⟨T,J⟩:=s.live id g K c;refine⟨y.trans T,?_⟩;rcases J with⟨hn,rfl⟩|⟨B,C,T',P,f,d,R,G,U,S,o⟩;exact .inl ⟨q.trans hn,rfl⟩;refine .inr ⟨B,C,T',P,f,q.trans d,(p B d).trans R,G.trans A.symm,U,S,λj v hj=>?_⟩;obtain⟨p1,p2,p3⟩:=o j v hj;exact⟨p1,p2,p3.later hl⟩;injection e with a b;subst a b;exact hn;cases e;cases e;rcases key id _ I k! with⟨c,y,q,A,p⟩|⟨Y,D,e,hn⟩|⟨L',e,hn⟩|⟨e,_⟩;obtain⟨T,B,r,d,R,u,E,F,Q,h5,h6,Z⟩:=s.lp id L c;exact⟨y.trans T,B,r,q.trans d,(p B d).trans R,u,E,F,Q,h5,h6,λt v m=>⟨(Z t v m).1,(Z t v m).2.later hl⟩⟩;cases e;injection e with a;subst a;exact hn;cases e;rcases key id _ I (by rintro rfl;cases l)with⟨c,y,q,A,p⟩|⟨Y,D,e,hn⟩|⟨L',e,hn⟩|⟨_,hn⟩;cases e with
 |mp k es=>obtain⟨B,i,u,E,F,Q⟩:=s.bld id _ c l;exact⟨B,i,q.trans u,y.trans E,(p B u).trans F,Q⟩
 |it n seen=>obtain⟨B,u,E,F⟩:=s.bld id _ c l;exact⟨B,q.trans u,y.trans E,by rw[A];exact(p B u).trans F⟩
 |_=>cases l
 subst e;cases l;subst e;cases l;exact hn
def Ix.of_ext(s:Ix X h H w)(m:HC h H w M O z)
  (key: ∀(id:Nat) (e:FZ),O[id]? =some e->e≠ .dead->(H[id]? =some e/\M.gen id=h.gen id/\M.io id=h.io id/\M.cap id=h.cap id/\ ∀B,h.io id=some B->z.heap[B]? =w.heap[B]?)\/((∃g j,e= .live g j/\xc (cx X M O z) id g j)\/ ∃L,e= .lp L/\sg (cx X M O z) id L))
  (inj: ∀(id c:Nat) (e k:FZ) (B:Nat),O[id]? =some e->O[c]? =some k->e≠ .dead->k≠ .dead->M.io id=some B->M.io c=some B->id=c):Ix X M O z:=
 s.of_ext' m (λi e l f=>(key i e l f).imp id λh=>h.imp id .inl) inj
def Ij{e:FZ}(a:(H++[m])[N]? =some e):(N<H.length/\H[N]? =some e)\/(N=H.length/\e=m):=by rcases P1 N H.length with b|rfl|c;rw[CO b]at a;exact .inl ⟨b,a⟩;rw[Ch (Aq _),Ge]at a;simp at a;exact .inr ⟨rfl,a.symm⟩;rw[Cn w!]at a;cases a
def JB{e:FZ}(c:N<H.length)(a:(H.set N m)[t]? =some e):(t≠N/\H[t]? =some e)\/(t=N/\e=m):=by by_cases b:t=N;subst b;rw[H8 c]at a;simp at a;exact .inr ⟨rfl,a.symm⟩;rw[Dy (λe=>b e.symm)]at a;exact .inl ⟨b,a⟩
def HC.push(o:Obj)(cap:Nat)(E:FZ):
  HC h H w (h.at_ H.length (some w.heap.size) 0 cap) (H++[E]) {w with heap:=w.heap.push o}where
 os:=rfl
 tape:=rfl
 output:=rfl
 size:=k!
 keep B hB _:=by simp[SX,Be hB]
 n:=k!
 gen id hid:=by simp[Gh.at_,Be hid]
 same id hid _:=by simp[Gh.at_,Be hid]
 fresh B ho:=by obtain⟨id,e,b,d,a⟩:=ho;rcases Ij b with⟨c,b⟩|⟨rfl,rfl⟩;exact .inl ⟨id,e,b,d,by simpa[Gh.at_,Be c]using a⟩;simp[Gh.at_]at a;exact .inr o!
 loops B r hB:=⟨r,by have:=O5 hB;simp[SX,Be this,hB]⟩
def Ix.push_any(s:Ix X h H w)(o:Obj)(cap:Nat)(E:FZ)
  (t:E≠ .dead->((∃g l,E= .live g l/\xc (cx X (h.at_ H.length (some w.heap.size) 0 cap) (H++[E]) {w with heap:=w.heap.push o}) H.length g l)\/∃L,E= .lp L/\sg (cx X (h.at_ H.length (some w.heap.size) 0 cap) (H++[E]) {w with heap:=w.heap.push o}) H.length L)):
  Ix X (h.at_ H.length (some w.heap.size) 0 cap) (H++[E]) {w with heap:=w.heap.push o}:=by
 refine s.of_ext (HC.push o cap E) (λid e f d=>?_) λid u e v B p q b c i j=>?_;rcases Ij f with⟨a,f⟩|⟨rfl,rfl⟩;refine .inl ⟨f,by simp[Gh.at_,Be a],by simp[Gh.at_,Be a],by simp[Gh.at_,Be a],λB k=>?_⟩;have:=s.io_at f d k;simp[SX,Be this];exact .inr (t d);rcases Ij p with⟨l1,m⟩|⟨rfl,_⟩<;>rcases Ij q with⟨l2,n⟩|⟨rfl,_⟩;exact s.inj _ _ _ _ B m n b c (by simpa[Gh.at_,Be l1]using i) (by simpa[Gh.at_,Be l2]using j);have r:=s.io_at m b (by simpa[Gh.at_,Be l1]using i);simp[Gh.at_]at j;omega;have r:=s.io_at n c (by simpa[Gh.at_,Be l2]using j);simp[Gh.at_]at i;omega;rfl
def Ix.push(s:Ix X h H w)(a:Array Value)(T:TypeId)(c:Nat×Nat)(g:List AZ)(i:Holds (cx X h H w) g a c):
  Ix X (h.at_ H.length (some w.heap.size) 0 a.size) (H++[.live 0 g]) {w with heap:=w.heap.push (.cells a T c)}:=by
 refine s.push_any _ _ _ λ_=>.inl ⟨0,g,rfl,?_⟩;obtain⟨f,e,d,b⟩:=i;refine⟨by simp[cx,Gh.at_],.inr ⟨w.heap.size,a,T,c,f,by simp[cx,Gh.at_],by show(w.heap.push (.cells a T c))[w.heap.size]? =_;simp,by simp[cx,Gh.at_],e,d,λj v k=>?_⟩⟩;obtain⟨l,m,n⟩:=b j v k;exact⟨l,m,n.later ((HC.push _ _ _).later X)⟩
def Ix.upd(s:Ix X h H w){id g g' B:Nat}{K cs':List AZ}{arr:Array Value}{T:TypeId}{fz:Nat×Nat}{w':World}(y:H[id]? =some (FZ.live g K))(hg:g≤g')
  (z:g'=g->h.io id=some B/\h.cap id=arr.size) (a:h.io id=some B\/w.heap.size<=B) (hb:w'.heap[B]? =some (.cells arr T fz)) (N: ∀k,k<w.heap.size->k≠B->w'.heap[k]? =w.heap[k]?)
  (R:w'.os=w.os) (C:w'.tape=w.tape) (G:w'.output=w.output) (A:w.heap.size<=w'.heap.size) (hh:Holds (cx X h H w) cs' arr fz):
  Ix X (h.at_ id (some B) g' arr.size) (H.set id (.live g' cs')) w'/\HC h H w (h.at_ id (some B) g' arr.size) (H.set id (.live g' cs')) w':=by
 have q:id<H.length:=by rcases Aw id H.length with o|o;exact o;rw[Cn o]at y;cases y
 have u:h.gen id=g:=(s.live id g K y).1;have S:HC h H w (h.at_ id (some B) g' arr.size) (H.set id (.live g' cs')) w':=by refine⟨R,C,G,A,λk O hn=>?_,k!,λi n=>?_,λi n e=>?_,λk ho=>?_,λk r hr=>⟨r,?_⟩⟩;refine N k O λe=>?_;subst e;rcases a with a|a;exact hn ⟨id,_,y,k!,a⟩;omega;by_cases e:i=id;subst e;simp[Gh.at_,u,hg];simp[Gh.at_,e];by_cases Z:i=id;subst Z;simp only[Gh.at_,if_true]at e⊢;have:=z (e.trans u);exact⟨this.1.symm,this.2.symm⟩;simp[Gh.at_,Z];obtain⟨i,d,t,b,o⟩:=ho;rcases JB q t with⟨n,l⟩|⟨rfl,_⟩;exact .inl ⟨i,d,l,b,by simpa[Gh.at_,n]using o⟩;simp[Gh.at_]at o;subst o;rcases a with a|a;exact .inl ⟨i,_,y,k!,a⟩;exact .inr a;have Q:=O5 hr;refine(N k Q λe=>?_).trans hr;subst e;rcases a with a|a;rcases(s.live id g K y).2 with⟨hn,_⟩|⟨W,Y,T',ad,f',x,D,_⟩;rw[show(cx X h H w).io id=h.io id from rfl,a]at hn;cases hn;rw[show(cx X h H w).io id=h.io id from rfl,a]at x;injection x with e;subst e;rw[show(cx X h H w).w.heap=w.heap from rfl,hr]at D;cases D;omega
 have hl:=S.later X;have c: ∀{i:Nat} {d:FZ},i≠id->H[i]? =some d->d≠ .dead->h.io i=some B->False:=by intro i d n t b m;rcases a with a|a;exact n (s.inj i id d _ B t y b k! m a);have:=s.io_at t b m;omega
 refine⟨s.of_ext S (λi d t b=>?_) (λi i' d L k t o E F I J=>?_),S⟩;rcases JB q t with⟨n,l⟩|⟨rfl,rfl⟩;refine .inl ⟨l,by simp[Gh.at_,n],by simp[Gh.at_,n],by simp[Gh.at_,n],λW m=>N W (s.io_at l b m) λe=>?_⟩;subst e;exact c n l b m;obtain⟨f,P,M,p⟩:=hh;refine .inr (.inl ⟨g',cs',rfl,by simp[cx,Gh.at_],.inr ⟨B,arr,T,fz,f,by simp[cx,Gh.at_],hb,by simp[cx,Gh.at_],P,M,λj v hj=>?_⟩⟩);obtain⟨p1,p2,p3⟩:=p j v hj;exact⟨p1,p2,p3.later hl⟩;rcases JB q t with⟨U,d⟩|⟨rfl,_⟩<;>rcases JB q o with⟨V,L⟩|⟨rfl,_⟩;exact s.inj _ _ _ _ k d L E F (by simpa[Gh.at_,U]using I) (by simpa[Gh.at_,V]using J);simp[Gh.at_]at J;subst J;exact(c U d E (by simpa[Gh.at_,U]using I)).elim;simp[Gh.at_]at I;subst I;exact(c V L F (by simpa[Gh.at_,V]using J)).elim;rfl
end
def zL(h:w.heap[N]? =some (.cells i a x))(B:Nat):w.frozen? ⟨N,B,none⟩=(decide (x.1<=B)&&decide (B<x.2)):=by unfold World.frozen?;rw[h]
def T1{P:Program}{B off:Nat}{T:TypeId}{h:Nat×Nat}: ∀(g:List Value) (i:Nat) (a:Array Value) (w:World),w.heap[B]? =some (.cells a T h)→off+i+g.length≤a.size→
  (∀j,j<a.size->(decide (h.1<=j)&&decide (j<h.2))=false)->(∀v∈g,v.oneCell'=true)->
  ∃d b,(storeCells ⟨B,off,none⟩ g i).run P w= .ok () d/\d.heap[B]? =some (.cells b T h)/\b.size=a.size/\(∀j,b[j]? =if off+i<=j/\j<off+i+g.length then g[j-(off+i)]? else a[j]?)/\(∀k,k≠B->d.heap[k]? =w.heap[k]?)/\d.os=w.os/\d.tape=w.tape/\d.output=w.output/\d.heap.size=w.heap.size
 |[],i,a,w,hb,_,_,_=>⟨w,a,rfl,hb,rfl,λj=>by rw[if_neg k!],λ_ _=>rfl,rfl,rfl,rfl,rfl⟩
 |v::g,i,a,w,hb,hle,hfz,h1=>by
  simp only[Bo]at hle;have o:w.cell? ⟨B,off+i,none⟩=some (a[off+i]' o!):=by rw[PJ (w:=w) hb];exact L8 o!
  have p:w.frozen? ⟨B,off+i,none⟩=false:=by rw[zL hb];exact hfz _ o!
  have c:(store ⟨B,off+i,none⟩ v).run P w= .ok () (w.setCell ⟨B,off+i,none⟩ v):=by rw[run_store P w _ v .plain (h1 v k!),o];simp[p]
  have l:(w.setCell ⟨B,off+i,none⟩ v).heap[B]? =some (.cells (a.setIfInBounds (off+i) v) T h):=by simp[World.setCell,Zo,hb]
  obtain⟨d,b,r,s,t,x,y,z,A,C,D⟩:=T1 (P:=P) (off:=off) g (i+1) (a.setIfInBounds (off+i) v) (w.setCell ⟨B,off+i,none⟩ v) l w!
   (by simpa using hfz) (λu q=>h1 u (Cd _ q))
  refine⟨d,b,?_,s,by rw[t];simp,λj=>?_,λk n=>?_,z,A,C,by rw[D];simp[World.setCell]⟩;simp only[storeCells,OR,Sem.run_bind,c,Result.andThen_ok];exact r;rw[x];by_cases m:j=off+i;subst m;rw[if_neg o!,if_pos k!,Array.getElem?_setIfInBounds_self_of_lt o!];simp;by_cases f:off+(i+1)<=j/\j<off+(i+1)+g.length;rw[if_pos f,if_pos w!,show j-(off+i)=(j-(off+(i+1)))+1 from by omega];rfl;rw[if_neg f,if_neg w!,rC (λe=>m e.symm)];rw[y k n];simp[World.setCell,Zo,Ue n]
section
variable {P:Program} {N:Nat} {o:Oper} {env:Env} {H:Ax} {K:AZ->Ax->Prop}
def JC.alloc(t:o.op= .alloc a)(g:XZ P a=some d)(f:K (.ptr H.length 0 0) (H++[.live 0 d])):JC P N o env H K:=by
 apply C2 (by rw[t];rfl);intro X h z w s Q;obtain⟨i,v,e,c,j⟩:=bd (cx X h H w) g;have b:(execOp z.eval o).run P w= .ok (.value (.pointer (some ⟨w.heap.size,0,none⟩))) {w with heap:=w.heap.push (.cells v.cells a)}:=by unfold execOp;rw[t];simp[Instr.alloc,zeroValue,typeInfo,e,c,newVar,newRow]
 unfold Oper.wp;rw[b,Oper.upon_value];refine⟨_,_,_,_,rfl,f,?_,s.sim.push v.cells a (0,0) d (Pf j),HC.push _ _ _⟩;exact .ptr (by simp[cx]) (by simp[cx,Gh.at_]) rfl λ_=>⟨w.heap.size,by simp[cx,Gh.at_],rfl⟩
def JC.box(c:o.op= .box a k)(g:BL env k=e)(f:e.solid=true)(t:K (.ptr H.length 0 0) (H++[.live 0 e.cells])):JC P N o env H K:=by
 apply C2 (by rw[c];rfl);intro X h x w s Q;have d:=DA s.env k;rw[g]at d;have i:=VT d f;have b:(execOp x.eval o).run P w= .ok (.value (.pointer (some ⟨w.heap.size,0,none⟩))) {w with heap:=w.heap.push (.cells (x.eval k).cells a)}:=by unfold execOp;rw[c];simp[Instr.box,newVar,newRow]
 unfold Oper.wp;rw[b,Oper.upon_value];refine⟨_,_,_,_,rfl,t,?_,s.sim.push _ a (0,0) e.cells (Pf i),HC.push _ _ _⟩;exact .ptr (by simp[cx]) (by simp[cx,Gh.at_]) rfl λ_=>⟨w.heap.size,by simp[cx,Gh.at_],rfl⟩
def JC.store{id g off:Nat}{v:AZ}{cs:List AZ}{b:Bool}(ho:o.op= .store a k J)(hx:BL env k= .ptr id g off)(hy:BL env J=v)(hs:v.solid=true)
  (he:H[id]? =some (FZ.live g cs)) (ht:tI P a=some (b,v.cells.length)) (y:off+v.cells.length<=cs.length) (V:K .any (H.set id (.live g (VS cs off v.cells)))):JC P N o env H K:=by
 apply C2 (by rw[ho];rfl);intro X h t w s Q;have Z:=DA s.env k;rw[hx]at Z;have Y:=DA s.env J;rw[hy]at Y;have rz:=VT Y hs;obtain⟨I,F⟩:=s.sim.live id g cs he;obtain⟨B,i,S⟩: ∃B,h.io id=some B/\t.eval k= .pointer (some ⟨B,off,none⟩):=by
  generalize t.eval k=c at Z;cases Z with
  |ptr al O h1 hc=>obtain⟨B,i,rfl⟩:=hc I;exact⟨B,i,rfl⟩
 rcases F with⟨hn,_⟩|⟨B',D,T,R,f,z,hb,E,ad,G,m⟩;rw[show(cx X h H w).io id=h.io id from rfl,i]at hn;cases hn;rw[show(cx X h H w).io id=h.io id from rfl,i]at z;injection z with e;subst e;generalize U:t.eval J=c at Y rz;obtain⟨M,A,W⟩:c.cells.size=v.cells.length/\(∀(j:Nat) (d:Value),c.cells[j]? =some d->d.oneCell'=true)/\(∀(j:Nat) (u:AZ) (d:Value),v.cells[j]? =some u->c.cells[j]? =some d->Bp (cx X h H w) u d):=by cases rz with|agg p q r=>exact⟨p,q,r⟩
 obtain⟨w',n,p1,p2,p3,p4,p5,p6,p7,p8,p9⟩:=T1 (P:=P) (off:=off) c.cells.toList 0 D w hb w! G (λd hd=>by obtain⟨j,C⟩:=Dm hd;exact A j d (by simpa using C));have L:(execOp t.eval o).run P w= .ok .skip w':=by unfold execOp;rw[ho];simp only[S,U,Instr.storeAt,Instr.sureAddr,Sem.run_bind,Sem.run_pure,Result.andThen_ok,storeVar,K7 ht];rw[if_neg (by simp[M])];simp only[Result.andThen_ok,p1]
 have hh:Holds (cx X h H w) (VS cs off v.cells) n R:=by
  refine⟨λj=>if off<=j/\j<off+v.cells.length then c.cells.getD (j-off) undef else f j,by rw[gW y];omega,by rw[p3];exact G,λj u C=>?_⟩;rw[qP y]at C;rw[p4];simp only[P0,Dk,M,Nd];split at C;rename_i l;rw[if_pos l,if_pos l];have hl:j-off<c.cells.size:=o!
  have O:c.cells[j-off]? =some (c.cells[j-off]):=L8 hl;have e:c.cells.getD (j-off) undef=c.cells[j-off]:=by simp[hl]
  rw[e];exact⟨O,A _ _ O,W _ u _ C O⟩;rename_i l;rw[if_neg l,if_neg l];exact m j u C
 obtain⟨q1,q2⟩:=s.sim.upd (g':=g) (B:=B) (arr:=n) (T:=T) (fz:=R) (w':=w') he (Aq _) (λ_=>⟨i,by rw[p3];exact E.symm⟩) (.inl i) p2 (λx _ V=>p5 x V) p6 p7 p8 (by rw[p9];exact Aq _) hh;unfold Oper.wp;rw[L,Oper.upon_skip];exact⟨_,_,_,_,rfl,V,.any _,q1,q2⟩
end
section
variable {X:Nat->Prop} {h:Gh} {H:Ax} {w w':World}
def HC.grow(b:w'.os=w.os)(f:w'.tape=w.tape)(d:w'.output=w.output)(e:w.heap.size<=w'.heap.size)(c: ∀k,k<w.heap.size->w'.heap[k]? =w.heap[k]?):HC h H w h H w':=⟨b,f,d,e,λB a _=>c B a,Aq _,λ_ _=>Aq _,λ_ _ _=>⟨rfl,rfl⟩,λ_ h=>.inl h,λB r a=>⟨r,(c B (O5 a)).trans a⟩⟩
def Ix.grow(s:Ix X h H w)(c:w'.os=w.os)(i:w'.tape=w.tape)(f:w'.output=w.output)(g:w.heap.size<=w'.heap.size)(e: ∀k,k<w.heap.size->w'.heap[k]? =w.heap[k]?):Ix X h H w':=s.of_ext (HC.grow c i f g e) (λ_ _ d b=>.inl ⟨d,rfl,rfl,rfl,λB a=>e B (s.io_at d b a)⟩) s.inj
def HC.virt:HC h H w (h.at_ H.length none 0 0) (H++[.live 0 []]) w where
 os:=rfl
 tape:=rfl
 output:=rfl
 size:=Aq _
 keep B _ _:=rfl
 n:=k!
 gen id hid:=by simp[Gh.at_,Be hid]
 same id hid _:=by simp[Gh.at_,Be hid]
 fresh B ho:=by obtain⟨id,e,b,d,a⟩:=ho;rcases Ij b with⟨c,b⟩|⟨rfl,rfl⟩;exact .inl ⟨id,e,b,d,by simpa[Gh.at_,Be c]using a⟩;simp[Gh.at_]at a
 loops B r hB:=⟨r,hB⟩
theorem Ix.virt(s:Ix X h H w):Ix X (h.at_ H.length none 0 0) (H++[.live 0 []]) w:=by refine s.of_ext HC.virt (λid e f m=>?_) λid n e o B j k a b c d=>?_;rcases Ij f with⟨l,f⟩|⟨rfl,rfl⟩;grind[Gh.at_];exact .inr (.inl ⟨0,[],rfl,by simp[cx,Gh.at_],.inl ⟨by simp[cx,Gh.at_],rfl⟩⟩);rcases Ij j with⟨l1,g⟩|⟨rfl,_⟩<;>rcases Ij k with⟨l2,i⟩|⟨rfl,_⟩;exact s.inj _ _ _ _ B g i a b (by simpa[Gh.at_,Be l1]using c) (by simpa[Gh.at_,Be l2]using d);simp[Gh.at_]at d;simp[Gh.at_]at c;rfl
def Ix.bump(s:Ix X h H w){id g:Nat}{cs:List AZ}(n:H[id]? =some (FZ.live g cs))(hn:h.io id=none):
  Ix X (h.at_ id none (g+1) (h.cap id)) (H.set id (.live (g+1) [])) w/\HC h H w (h.at_ id none (g+1) (h.cap id)) (H.set id (.live (g+1) [])) w:=by
 have a:id<H.length:=by rcases Aw id H.length with b|b;exact b;rw[Cn b]at n;cases n
 have c:h.gen id=g:=(s.live id g cs n).1;have own: ∀B,owned (h.at_ id none (g+1) (h.cap id)) (H.set id (.live (g+1) [])) B->owned h H B:=by rintro B ⟨i,e,j,l,b⟩;rcases JB a j with⟨f,d⟩|⟨rfl,_⟩;exact⟨i,e,d,l,by simpa[Gh.at_,f]using b⟩;simp[Gh.at_]at b
 have u:HC h H w (h.at_ id none (g+1) (h.cap id)) (H.set id (.live (g+1) [])) w:=by refine⟨rfl,rfl,rfl,Aq _,λk A hn=>rfl,k!,λi f=>?_,λi f e=>?_,λB C=>.inl (own B C),λB r y=>⟨r,y⟩⟩;by_cases e:i=id;subst e;simp[Gh.at_,c];simp[Gh.at_,e];by_cases m:i=id;subst m;simp[Gh.at_,c]at e;simp[Gh.at_,m]
 refine⟨s.of_ext u (λi e j l=>?_) (λi F e m k j b o p q t=>?_),u⟩;rcases JB a j with⟨f,d⟩|⟨rfl,rfl⟩;exact .inl ⟨d,by simp[Gh.at_,f],by simp[Gh.at_,f],by simp[Gh.at_,f],λB z=>rfl⟩;exact .inr (.inl ⟨g+1,[],rfl,by simp[cx,Gh.at_],.inl ⟨by simp[cx,Gh.at_],rfl⟩⟩);rcases JB a j with⟨D,v⟩|⟨rfl,_⟩<;>rcases JB a b with⟨E,x⟩|⟨rfl,_⟩;exact s.inj _ _ _ _ k v x o p (by simpa[Gh.at_,D]using q) (by simpa[Gh.at_,E]using t);simp[Gh.at_]at t;simp[Gh.at_]at q;rfl
end
def NY(H:Ax)(sz:Nat):AZ->Option (Nat×List AZ)
 | .vs sz' rows=>if sz=sz' then some (rows.length,rows.flatMap AZ.cells)else none
 | .sl id g sz' off len=>
  match H[id]? with
  |some (.live g' cs)=>if g=g'/\sz=sz'/\off+len*sz<=cs.length then some (len,(cs.drop off).take (len*sz))else none
  |_=>none
 | .nils=>some (0,[])
 |_=>none
theorem OM{P:Program}{X:Nat→Prop}{h:Gh}{H:Ax}{w:World}{v:AZ}{c:Value}{sz m:Nat}{J:List AZ}(s:Ix X h H w)(r:Bp (cx X h H w) v c)(N:0<sz)(hr:NY H sz v=some (m,J)):
  ∃a cap S,c= .slice a m cap/\J.length=m*sz/\jM (cx X h H w) J S/\(∀u∈S,u.oneCell'=true)/\(Builtin.lenOf c).run P w= .ok m w/\(Builtin.firstCells sz m c).run P w= .ok S.toArray w:=by
 cases r with
 |nils=>simp only[NY,Am,Du]at hr;obtain⟨rfl,rfl⟩:=hr;exact⟨none,0,[],rfl,k!,⟨rfl,λ_ _ _ h=>by cases h⟩,(λ_ h=>by cases h),rfl,rfl⟩
 | @vs R b a cap f y Z D ha hv=>
  simp only[NY]at hr;split at hr;rename_i F;subst F;simp only[Am,Du]at hr;obtain⟨rfl,rfl⟩:=hr;have q:=my D;cases b with
  |nil=>refine⟨a,cap,[],rfl,k!,⟨rfl,λ_ _ _ h=>by cases h⟩,(λ_ h=>by cases h),rfl,?_⟩;cases a<;>simp[Builtin.firstCells,loadCells,loadCellsFrom]
  |cons e0 E=>
   obtain⟨B,k,rfl,hO,hB,L⟩:=ha k!;generalize e0::E=b at*;have K: ∀j,j<b.length*sz-> ∃e v,b[j/sz]? =some e/\e.cells[j%sz]? =some v:=by intro j o;have F:j/sz<b.length:=(Nat.div_lt_iff_lt_mul N).2 o;have I:b[j/sz]? =some (b[j/sz]):=Au F;grind[Nat.mod_lt,List.getElem?_eq_getElem]
   refine⟨_,cap,(List.range (b.length*sz)).map λj=>f (j/sz) (j%sz),rfl,q,⟨by simp[q],λj v d o G=>?_⟩,λu O=>?_,rfl,?_⟩;grind[flat_get,Nat.lt_or_ge,List.getElem?_eq_none,List.getElem?_range,Option.some.injEq];grind;have:=run_loadCells (P:=P) w ⟨B,k,none⟩ (b.length*sz) (λj=>f (j/sz) (j%sz)) λj o=>by obtain⟨e,v,I,Q⟩:=K j o;rw[OR];have V:=(L _ e _ v I Q).1;rw[Nat.div_add_mod' j sz]at V;exact V
   grind[Builtin.firstCells]
  cases hr
 | @sl id g R k len c ao hg F L=>
  simp only[NY]at hr;split at hr;rename_i g' l I;split at hr;rename_i x;obtain⟨rfl,rfl,ar⟩:=x;simp only[Am,Du]at hr;obtain⟨rfl,rfl⟩:=hr;obtain⟨A,z⟩:=s.live id g l I;rcases L A with⟨n,rfl,rfl,rfl⟩|⟨B,cap,n,y,M,rfl⟩;exact⟨none,0,[],rfl,k!,⟨k!,λ_ _ _ _ h=>by cases h⟩,(λ_ h=>by cases h),rfl,rfl⟩;rcases z with⟨hn,_⟩|⟨U,ad,T,fz,f,p,hb,W,Y,al,i⟩;rw[hn]at n;cases n;have:U=B:=by rw[n]at p;injection p with e;exact e.symm
  subst this;refine⟨_,cap,(List.range (len*sz)).map λj=>f (k+j),rfl,w!,⟨w!,λj v d o G=>?_⟩,λu O=>?_,rfl,?_⟩;have C:j<len*sz:=by grind[Nat.lt_or_ge,List.getElem?_eq_none]
  rw[Zw,if_pos C,JP]at o;rw[CD,QY C]at G;simp only[Bl,Am]at G;subst G;exact(i _ v o).2.2;simp only[Bh,Hi]at O;obtain⟨j,o,rfl⟩:=O;have t:l[k+j]? =some (l[k+j]' o!):=Au o!;exact(i _ _ t).2.1;have:=run_loadCells (P:=P) w ⟨U,k,none⟩ (len*sz) (λj=>f (k+j)) λj o=>by have t:l[k+j]? =some (l[k+j]' o!):=Au o!;rw[OR,PJ (w:=w) hb];exact(i _ _ t).1
  simpa[Builtin.firstCells]using this;cases hr;cases hr
 |_=>simp only[NY]at hr;cases hr
theorem w6(a b:Nat)(h:b<a):Builtin.nextslicecap a b<=2*a+2048:=by grind[Builtin.nextslicecap,Builtin.growBy]
def RI(P:Program)(e:TypeId):Bool:=
 match P.info? e with
 |some i=>decide (i.bytes<=1048576)&&(match i.zero with|some z=>decide (z.cells.size=i.size)|none=>false)
 |none=>false
section
variable {P:Program} {N:Nat} {o:Oper} {env:Env} {H:Ax} {K:AZ->Ax->Prop}
theorem TE(h:RI P a=true): ∃i z,P.info? a=some i/\i.bytes<=1048576/\i.zero=some z/\z.cells.size=i.size:=by grind[RI]
theorem iS(h:tI P a=some (s,N))(t:P.info? a=some q):q.size=N:=by unfold tI at h;grind
theorem JC.buildSlice{t e:TypeId}{len sz:Nat}{f:Array (Nat×Operand)}{W:List AZ}(ho:o.op= .buildSlice t len f)(he:eI P t=some (none,e,sz))(a1:0<sz)(a6:RI P e=true)
  (C:f.toList.map (·.1)=List.range len) (a8:f.toList.map (λp=>BL env p.2)=W) (O: ∀v∈W,v.solid=true/\v.cells.length=sz) (L:len<=4096/\sz<=4096) (hk:K (.vs sz W) H):JC P N o env H K:=by
 apply C2 (by rw[ho];rfl);intro X h a w s Q;obtain⟨a2,b,hi⟩:=P7 he;obtain⟨i,z,D,_,hz,a9⟩:=TE a6;have A:=iS hi D;have V:W.length=len:=by have n:=congrArg List.length C;grind[List.length]
 let g:List Value:=f.toList.map λp=>a.eval p.2;have U:g.length=len:=by grind[List.length]
 have M: ∀(j:Nat) (v:AZ) (c:Value),W[j]? =some v->g[j]? =some c->Bp (cx X h H w) (.agg v.cells) (.agg c.cells)/\v.cells.length=sz:=by
  intro j v c G Y;have hm:=O v (BP G);refine⟨?_,hm.2⟩;subst a8;simp only[g,CD]at G Y;cases Z:f.toList[j]? with
  |none=>rw[Z]at G;cases G
  |some p=>rw[Z]at G Y;simp only[Bl,Am]at G Y;subst G Y;exact VT (DA s.env p.2) hm.1
 have y: ∀c∈g,c.cells.size=sz:=by
  intro c Y;obtain⟨j,B⟩:=Dm Y;have E:j<W.length:=by grind[Nat.lt_or_ge,List.getElem?_eq_none]
  obtain⟨n,r⟩:=M j _ c (Au E) B;cases n<;>grind
 have R:(f.map λ(q:Nat×Operand)=>(q.1,a.eval q.2)).toList=(g.zipIdx 0).map λx=>(x.2,x.1):=by
  apply H7;intro j;simp only[Array.toList_map,CD,List.getElem?_zipIdx,EL,g];cases Z:f.toList[j]? with
  |none=>rfl
  |some p=>
   have n:(f.toList.map (·.1))[j]? =some p.1:=by rw[CD,Z];rfl
   rw[C]at n;have E:j<len:=by rcases Aw j len with r|r;exact r;rw[Cn (by simpa using r)]at n;cases n
   rw[QY E]at n;simp only[Am]at n;simp[n]
 have a5:(g.flatMap λc=>c.cells.toList).length=len*sz:=by
  clear R;have: ∀l:List Value,(∀c∈l,c.cells.size=sz)->(l.flatMap λc=>c.cells.toList).length=l.length*sz:=by
   intro l;induction l with
   |nil=>simp
   |cons c l ih=>intro V;simp only[Iq,Ag,Dk,V c k!,ih (λd I=>V d (Cd _ I)),Bo,FN];omega
  rw[this g y,U]
 have al: ∀(j:Nat) (c:Value) (q:Nat) (d:Value),g[j]? =some c->c.cells[q]? =some d->(g.flatMap λc=>c.cells.toList)[j*sz+q]? =some d:=by
  have: ∀(l:List Value),(∀c∈l,c.cells.size=sz)-> ∀(j:Nat) (c:Value) (q:Nat) (d:Value),l[j]? =some c->c.cells[q]? =some d->(l.flatMap λc=>c.cells.toList)[j*sz+q]? =some d:=by
   intro l;induction l with
   |nil=>intro _ j c q d B;simp at B
   |cons c0 l ih=>
    intro V j c q d B I;simp only[Iq];have h0:=V c0 k!;cases j with
    |zero=>simp at B;subst B;rw[Nat.zero_mul,EL,CO (by rcases Aw q c0.cells.size with r|r;simpa using r;rw[oi r]at I;cases I)];simpa using I
    |succ j=>rw[Ch (by rw[Dk,h0,FN];omega),Dk,h0];rw[show(j+1)*sz+q-sz=j*sz+q from by rw[FN];omega];exact ih (λd I=>V d (Cd _ I)) j c q d (by simpa using B) I
  exact this g y
 have F: ∃m:Array Value,(execOp a.eval o).run P w= .ok (.value (.slice (some ⟨w.heap.size,0,none⟩) len len)) {w with heap:=w.heap.push (.cells m e)}/\m.toList=g.flatMap λc=>c.cells.toList:=by
  unfold execOp;rw[ho];by_cases h0:len=0;subst h0;have:g=[]:=EP U;refine⟨#[],?_,by rw[this];rfl⟩;have Z:f= #[]:=by have n:=congrArg List.length C;simp at n;exact n
  simp[Instr.buildSlice,run_underlying a2,K7 hi,Z,Instr.fill,newRow,show Array.range 0= #[]from rfl];refine⟨(g.flatMap λc=>c.cells.toList).toArray,?_,rfl⟩;have ar: ¬len*i.size=0:=by rw[A];exact Nat.mul_ne_zero h0 o!
  have a7: ¬len*i.size>2^24:=by rw[A];have:=jW L.1 L.2;omega
  have hf:=Go.Great.fill_whole (s:=sz) a1 g ((Array.range (len*i.size)).map (z.cells[· %z.cells.size]!)) y (by simp[U,A]);have:=run_buildSlice (P:=P) w t e len (f.map λ(q:Nat×Operand)=>(q.1,a.eval q.2)) _ i z a2 D hz a7 ar (by rw[R,A]at*;exact hf);simp only[Sem.run_bind];rw[show(f.map λx=>match x with|(i,x)=>(i,a.eval x))=(f.map λ(q:Nat×Operand)=>(q.1,a.eval q.2))from rfl,this];rfl
 obtain⟨m,F,ad⟩:=F;unfold Oper.wp;rw[F,Oper.upon_value];have a0:=s.sim.grow (w':={w with heap:=w.heap.push (.cells m e)}) rfl rfl rfl k! (λk hk=>by simp[SX,Be hk]);have J:=HC.grow (h:=h) (H:=H) (w:=w) (w':={w with heap:=w.heap.push (.cells m e)}) rfl rfl rfl k! (λk hk=>by simp[SX,Be hk]);refine⟨_,_,h,H,rfl,hk,?_,a0,J⟩;subst V;refine .vs (λj q=>((g.getD j undef).cells.getD q undef)) (Aq _) a1 (λj v B=>(O v (BP B)).2) (λao=>⟨w.heap.size,0,rfl,?_,by simp[cx],λj v q u B hq=>?_⟩) λj v q u B hq=>?_;rintro(hX|ho);have:=(s.sim.out _ hX).1;omega;obtain⟨id,e1,n,ao,r⟩:=ho;have:=s.sim.io_at n ao r;omega;all_goals
  have E:j<g.length:=by rcases Aw j W.length with r|r;omega;rw[Cn r]at B;cases B
  have S:g[j]? =some (g[j]):=Au E;have a4:g.getD j undef=g[j]:=by simp[QX,S]
  obtain⟨r1,r2⟩:=M j v _ B S;rw[a4];cases r1 with
  |agg hs n G=>
   have ax:q<(g[j]).cells.size:=by rcases Aw q v.cells.length with r|r;omega;rw[Cn r]at hq;cases hq
   have T:(g[j]).cells[q]? =some ((g[j]).cells[q]):=L8 ax;have a3:(g[j]).cells.getD q undef=(g[j]).cells[q]:=by simp[ax]
   rw[a3];first
    |exact(G q u _ hq T).later (J.later X)
    |(refine⟨?_,n q _ T⟩
      have hb:(w.heap.push (.cells m e))[w.heap.size]? =some (.cells m e (0,0)):=k!
      rw[EL];show World.cell? {w with heap:=w.heap.push (.cells m e)} _=_;rw[PJ (w:={w with heap:=w.heap.push (.cells m e)}) hb,<-Nd,ad];exact al j _ q _ S T)
end
section
variable {P:Program}
def Xa(z:Array Value)(n:Nat):(Builtin.zeroCells z n).size=n*z.size:=by simp[Builtin.zeroCells]
def ja{t ty e:TypeId}(g:P.underlying t=some (.slice e))(j:P.info? e=some q){base:Option Addr}{n cap m:Nat}{w w':World}
  (d:(Builtin.lenOf b).run P w= .ok m w) (f:(Builtin.firstCells q.size m b).run P w= .ok v.toArray w) (c:n+m<=cap)
  (i:(match base with
   |some a=>storeCells (a.add (n*q.size)) v
   |none=>pure ():Sem Unit).run P w= .ok () w'):
  (Builtin.append_ #[t,t] ty #[.slice base n cap,b]).run P w= .ok (.slice base (n+m) cap) w':=by
 cases base<;>simp only at i<;>simp[Builtin.append_,run_underlying g,sizeOf,typeInfo,j,d,f,c,i];simp at i;exact i
def nG{t ty e:TypeId}(g:P.underlying t=some (.slice e))(p:P.info? e=some q)(r:q.zero=some b)(l:q.bytes≤1048576){base:Option Addr}{n cap m:Nat}{os j:List Value}
  (f:(Builtin.lenOf A).run P w= .ok m w) (z:(Builtin.firstCells q.size n (.slice base n cap)).run P w.drew= .ok os.toArray w.drew) (hn:(Builtin.firstCells q.size m A).run P w.drew= .ok j.toArray w.drew)
  (i:cap<n+m) (h:n+m<=16777216):
  ∃a,n+m<=a/\(Builtin.append_ #[t,t] ty #[.slice base n cap,A]).run P w=.ok (.slice (some ⟨w.heap.size,0,none⟩) (n+m) a) {w.drew with heap:=w.drew.heap.push (.cells (os.toArray++j.toArray++Builtin.zeroCells b.cells (a-(n+m))) e)}:=by
 have d: ¬(Builtin.nextslicecap (n+m) cap*q.bytes>2^48):=by have s:=w6 (n+m) cap i;have u:Builtin.nextslicecap (n+m) cap*q.bytes<=33556480*1048576:=jW o! l;omega
 refine⟨(Question.appendCap (n+m) cap e).cut (w.tape w.drawn (.appendCap (n+m) cap e)),by simp[Question.cut],?_⟩;have k:IntKind.i64.max=9223372036854775807:=g!
 have c: ¬((9223372036854775807:Int)<(n:Int)+(m:Int)/\q.bytes=0):=o!
 have o:(Question.appendCap (n+m) cap e).forced=false:=rfl;simp[Builtin.append_,sizeOf,typeInfo,zeroValue,run_underlying g,p,r,f,d,newRow,k];rw[if_neg o!,if_neg c,if_neg (by rw[o];simp),z];simp only[Result.andThen_ok];rw[hn];simp only[Result.andThen_ok,Result.ok.injEq];refine⟨rfl,?_⟩;rw[<-List.append_toArray,Array.append_assoc];rfl
end
section
variable {P:Program} {N:Nat} {o:Oper} {env:Env} {H:Ax} {K:AZ->Ax->Prop}
def QT{d:Operand→Value}(e:o.op= .call {callee:=.builtin .append,args:= #[k,J],argTypes:= #[a,a]})
  (h:(Builtin.append_ #[a,a] o.type #[d k,d J]).run P w= .ok b z):(execOp d o).run P w= .ok (.value b) z:=by
 unfold execOp;rw[e];simp only[resolve,invoke,builtin,Sem.run_bind,Sem.run_pure,Result.andThen_ok,Pw,Bv,HE];rw[h];rfl
def Ix.drew{X:Nat->Prop}{h:Gh}{H:Ax}{w:World}(s:Ix X h H w):Ix X h H w.drew:=s.grow rfl rfl rfl (Aq _) λ_ _=>rfl
def HC.drew{h:Gh}{H:Ax}{w:World}:HC h H w h H w.drew:=HC.grow rfl rfl rfl (Aq _) λ_ _=>rfl
def rf{as bs:List AZ}{os a:List Value}{n:Array Value}(ra:jM f as os)(g:jM f bs a)(k: ∀u∈os,u.oneCell'=true)(l: ∀u∈a,u.oneCell'=true):
  Holds f (as++bs) (os.toArray++a.toArray++n) (0,0):=by
 refine⟨λj=>(os++a).getD j undef,?_,λi _=>k!,λj v d=>?_⟩;simp[ra.1,g.1];have x:j<(os++a).length:=by rcases Aw j (as++bs).length with b|b;simp[ra.1,g.1]at*;omega;rw[Cn b]at d;cases d
 have c:(os++a)[j]? =some ((os++a)[j]):=Au x;have e:(os++a).getD j undef=(os++a)[j]:=by rw[QX,c];rfl
 show _=some ((os++a).getD j undef)/\((os++a).getD j undef).oneCell'=true/\Bp f v ((os++a).getD j undef);rw[e];refine⟨?_,?_,?_⟩;rw[U3 (by simpa using x),List.append_toArray,Zx];exact c;have m:(os++a)[j]∈os++a:=PH x;rcases Ao.1 m with h|h;exact k _ h;exact l _ h;rcases Aw j as.length with b|b;rw[CO b]at d;rw[CO (by rw[ra.1];exact b)]at c;exact ra.2 j v _ d c;rw[Ch b]at d;rw[Ch (by rw[ra.1];exact b),ra.1]at c;exact g.2 _ v _ d c
theorem JC.append_nil{D T:Operand}{t e:TypeId}{sz m:Nat}{d:List AZ}(I:o.op= .call {callee:=.builtin .append,args:= #[D,T],argTypes:= #[t,t]})(he:eI P t=some (none,e,sz))(v:0<sz)(J:RI P e=true)
  (hs:BL env D= .nils) (M:NY H sz (BL env T)=some (m,d)) (V:m<=16777216) (U:K (.sl H.length 0 sz 0 m) (H++[.live 0 d])):JC P N o env H K:=by
 apply C2 (by rw[I];rfl);intro X h a w s Q;obtain⟨B,b,hi⟩:=P7 he;obtain⟨i,z,f,G,hz,O⟩:=TE J;have j:=iS hi f;have R:=DA s.env D;rw[hs]at R;have y:a.eval D= .slice none 0 0:=by generalize a.eval D=c at R;cases R;rfl
 have S:=DA s.env T;unfold Oper.wp;rcases Ud m with W|W;subst W;obtain⟨Z,x,E,F,A,g,p,l,q⟩:=OM (P:=P) s.sim S v M;have u:d=[]:=EP o!;subst u;have L:E=[]:=EP g.1;subst L;have k:=ja (ty:=o.type) (base:=none) (n:=0) (cap:=0) (w':=w) B f l (by rw[j];exact q) o! rfl;rw[QT I (by rw[y];exact k),Oper.upon_value];exact⟨_,_,_,_,rfl,U,.sl (by simp[cx]) q! ⟨_,_,rfl⟩ λ_=>.inl ⟨by simp[cx,Gh.at_],rfl,rfl,rfl⟩,s.sim.virt,HC.virt⟩;have Y:=s.sim.drew;obtain⟨Z,x,E,F,A,g,p,l,q⟩:=OM (P:=P) Y (S.later (HC.drew.later X)) v M;obtain⟨_,_,_,_,_,_,_,r,_⟩:=OM (P:=P) s.sim S v M;obtain⟨C,hC,k⟩:=nG (ty:=o.type) (base:=none) (n:=0) (cap:=0) (os:=[]) B f hz G r (by rfl) (by rw[j];exact q) o! o!;rw[QT I (by rw[y];exact k),Oper.upon_value];have hh:Holds (cx X h H w.drew) d (#[]++E.toArray++Builtin.zeroCells z.cells (C-(0+m))) (0,0):=rf (as:=[]) (os:=[]) ⟨rfl,λ_ _ _ h=>by cases h⟩ g (λ_ h=>by cases h) p;refine⟨_,_,_,_,rfl,U,?_,Y.push _ e (0,0) d hh,HC.drew.trans (HC.push _ _ _)⟩;rw[EL];refine .sl (by simp[cx]) q! ⟨_,_,rfl⟩ λ_=>.inr ⟨w.heap.size,C,by simp[cx,Gh.at_],o!,?_,rfl⟩;have e1:E.length=m*sz:=by rw[g.1,A]
 simp only[cx,Gh.at_,if_true,Array.size_append,bi,Xa,O,j,e1];have:(C-(0+m))*sz+m*sz=C*sz:=by rw[<-FN];congr 1;omega
 grind
end
end Go.Ab
