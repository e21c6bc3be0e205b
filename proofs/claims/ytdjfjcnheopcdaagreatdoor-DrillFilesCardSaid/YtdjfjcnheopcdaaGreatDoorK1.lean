/- Texts of wip, joined and shortened by wip/tools/pack.py; nothing is assumed. -/
import Derived.Calls
import Derived.Below
import Derived.RangeFuncRecord
import Derived.OrdersIn
import Derived.Lib.FrozenHead
import Derived.Orders
import Derived.Laws.Cells
import Derived.Laws.Entries
import Derived.Laws.StructEq
import Derived.ChangeKeysEq
import Derived.Laws.BytesString
import Derived.Laws.Tables
import Derived.Great.FillDense
import Derived.Great.BuildSlice
namespace Go
theorem n!{A B:Prop}(h: ¬A:=by decide):A->B:=λa=>absurd a h
theorem o!{P:Prop}(h:P:=by omega):P:=h
theorem d!{P:Prop}(h:P:=by dsimp only;omega):P:=h
theorem g!{P:Prop}(h:P:=by decide):P:=h
theorem k!{P:Prop}(h:P:=by simp):P:=h
theorem q!{P:Prop}(h:P:=by grind):P:=h
theorem w!{P:Prop}(h:P:=by simp;omega):P:=h
theorem v!{P:Prop}(h:P:=by assumption):P:=h
theorem u!{P:Prop}(h:P:=by dsimp only;decide):P:=h
theorem t!{P:Prop}(h:P:=by simp_all):P:=h
end Go
noncomputable section
set_option linter.all false
namespace Go
def nl:=@Array.eq_empty_of_size_eq_zero
def nm:=@Array.extract_size
def Q2:=@Array.getD_eq_getD_getElem?
def Ye:=@Array.getElem?_append_left
def su:=@Array.getElem?_append_right
def N2:=@Array.getElem?_eq_getElem
def sw:=@Array.getElem?_eq_none
def yJ:=@Array.getElem?_eq_none_iff
def cE:=@Array.getElem?_eq_some_iff
def cH:=@Array.getElem?_map
def bx:=@Array.getElem?_modify
def Tr:=@Array.getElem?_push
def vO:=@Array.getElem?_setIfInBounds_ne
def P0:=@Array.getElem?_toList
def Dh:=@Array.length_toList
def vP:=@Array.mem_of_getElem?
def pM:=@Array.size_setIfInBounds
def vQ:=@BitVec.eq_of_getLsbD_eq
def pN:=@BitVec.ofInt_natCast
def pO:=@BitVec.toNat_ofNat
def pP:=@Bool.and_eq_false_iff
def BO:=@Bool.and_eq_true
def YI:=@Bool.and_self
def P1:=@Bool.and_true
def Ts:=@Bool.eq_false_iff
def pQ:=@Bool.false_and
def P2:=@Bool.false_eq_true
def P3:=@Bool.not_eq_true'
def Cg:=@Bool.not_true
def YJ:=@Bool.or_eq_true
def RX:=@Decidable.byContradiction
def FF:=@Int.eq_ofNat_of_zero_le
def lL:=@Int.fdiv_eq_ediv_of_nonneg
def Ad:=@Int.le_refl
def pR:=@Int.le_trans
def lM:=@Int.lt_or_le
def pS:=@Int.mul_ediv_add_emod
def Ct:=@Int.toNat_natCast
def I1:=@Int.toNat_of_nonneg
def pT:=@List.Pairwise.imp_of_mem
def vR:=@List.Perm.eq_of_pairwise
def lO:=@List.Perm.refl
def pU:=@List.all_cons
def Fq:=@List.all_eq_true
def pV:=@List.all_nil
def pW:=@List.any_eq_true
def A6:=@List.append_assoc
def MF:=@List.append_inj
def D4:=@List.append_nil
def cA:=@List.cons_append
def cC:=@List.drop_append
def pX:=@List.drop_append_of_le_length
def MG:=@List.drop_drop
def RY:=@List.drop_eq_getElem_cons
def lP:=@List.drop_eq_nil_of_le
def RZ:=@List.drop_left
def lQ:=@List.drop_left'
def YK:=@List.drop_of_length_le
def YL:=@List.drop_zero
def EL:=@List.eq_nil_of_length_eq_zero
def I2:=@List.ext_getElem?
def vS:=@List.extract_eq_take_drop
def vT:=@List.filterMap_append
def pY:=@List.filterMap_cons
def Gl:=@List.filter_append
def N3:=@List.filter_cons
def vU:=@List.filter_cons_of_neg
def vV:=@List.filter_cons_of_pos
def lR:=@List.filter_nil
def YM:=@List.flatMap_append
def IA:=@List.flatMap_cons
def pZ:=@List.flatMap_nil
def pe:=@List.flatten_cons
def lS:=@List.foldl_append
def lT:=@List.foldl_cons
def Ra:=@List.getD_eq_getElem?_getD
def CL:=@List.getElem?_append_left
def Cb:=@List.getElem?_append_right
def vW:=@List.getElem?_cons_succ
def lU:=@List.getElem?_cons_zero
def Ja:=@List.getElem?_drop
def A4:=@List.getElem?_eq_getElem
def Cc:=@List.getElem?_eq_none
def Kf:=@List.getElem?_eq_some_iff
def CE:=@List.getElem?_map
def Di:=@List.getElem?_of_mem
def Rb:=@List.getElem?_range
def cD:=@List.getElem?_set
def Dw:=@List.getElem?_set_ne
def HG:=@List.getElem?_set_self
def cF:=@List.getElem?_take
def Jb:=@List.getElem?_take_of_lt
def YN:=@List.getElem?_toArray
def Rc:=@List.getElem_mem
def Aa:=@List.length_append
def Cu:=@List.length_cons
def FY:=@List.length_drop
def lV:=@List.length_eq_zero_iff
def Gm:=@List.length_filter_le
def B5:=@List.length_map
def Ck:=@List.length_nil
def Fz:=@List.length_replicate
def fB:=@List.length_set
def so:=@List.length_singleton
def BM:=@List.length_take
def fC:=@List.length_take_le
def M5:=@List.map_append
def M6:=@List.map_congr_left
def Bt:=@List.map_cons
def mq:=@List.map_drop
def fD:=@List.map_id
def Qu:=@List.map_map
def Hg:=@List.map_nil
def Qv:=@List.map_toArray
def A1:=@List.mem_append
def Gb:=@List.mem_append_left
def M7:=@List.mem_append_right
def A8:=@List.mem_cons
def CQ:=@List.mem_cons_of_mem
def Iy:=@List.mem_cons_self
def Bk:=@List.mem_filter
def TW:=@List.mem_filterMap
def Hh:=@List.mem_flatMap
def WG:=@List.mem_iff_getElem
def Iz:=@List.mem_iff_getElem?
def Bl:=@List.mem_map
def WH:=@List.mem_map_of_mem
def BU:=@List.mem_of_getElem?
def WI:=@List.mem_of_mem_drop
def Hi:=@List.mem_of_mem_take
def WJ:=@List.mem_or_eq_of_mem_set
def Hj:=@List.mem_range
def BI:=@List.mem_singleton
def sq:=@List.mem_zipIdx_iff_getElem?
def Cp:=@List.nil_append
def Qw:=@List.nodup_append
def Gc:=@List.nodup_cons
def I0:=@List.nodup_iff_pairwise_ne
def Qx:=@List.nodup_nil
def HA:=@List.pairwise_iff_getElem
def TX:=@List.pairwise_map
def mr:=@List.perm_ext_iff_of_nodup
def ms:=@List.replicate_succ
def TY:=@List.set_append_right
def Ya:=@List.set_set
def ss:=@List.singleton_append
def fE:=@List.size_toArray
def WK:=@List.sum_cons
def Ce:=@List.take_add_one
def mu:=@List.take_append
def Da:=@List.take_append_drop
def fF:=@List.take_append_of_le_length
def Yb:=@List.take_left
def EW:=@List.take_left'
def Hk:=@List.take_length
def BK:=@List.take_of_length_le
def Ko:=@List.take_take
def fG:=@Nat.add_assoc
def mv:=@Nat.add_comm
def FG:=@Nat.add_mul
def Yc:=@Nat.add_sub_cancel_left
def Qy:=@Nat.add_zero
def HB:=@Nat.beq_refl
def DR:=@Nat.eq_of_beq_eq_true
def WL:=@Nat.eq_zero_or_pos
def O5:=@Nat.le_of_ble_eq_true
def Am:=@Nat.le_refl
def Cz:=@Nat.le_trans
def C7:=@Nat.lt_of_lt_of_le
def Au:=@Nat.lt_or_ge
def Qz:=@Nat.lt_trichotomy
def Q1:=@Nat.min_eq_left
def WM:=@Nat.mod_eq_of_lt
def Yd:=@Nat.mod_lt
def mw:=@Nat.mul_le_mul
def O6:=@Nat.mul_le_mul_right
def BZ:=@Nat.ne_of_lt
def fH:=@Nat.pow_le_pow_right
def Gd:=@Nat.sub_self
def fJ:=@Nat.sub_zero
def D7:=@Nat.zero_add
def Bi:=@Nat.zero_le
def O7:=@Ne.symm
def Db:=@Option.bind_eq_some_iff
def AD:=@Option.bind_some
def my:=@Option.getD_some
def fK:=@Option.isSome_iff_exists
def WN:=@Option.map_eq_some_iff
def Bn:=@Option.map_some
def Ba:=@Option.some.inj
def Al:=@Option.some.injEq
def mz:=@Option.toList_some
def DT:=@Prod.ext
def EK:=@Prod.mk.injEq
def nA:=@Sum.elim_inr
end Go
namespace Go.Ab
inductive AY where
 |bool (b:Bool)
 |int (k:IntKind) (n:Int)
 |str (s:List UInt8)
 |nilp
 |ptr (id g off:Nat)
 |vptr (cs:List AY)
 |nils
 |vs (sz:Nat) (rows:List AY)
 |sl (id g sz off len:Nat)
 |fn (f:Fn) (first caps:List AY)
 |yf (id:Nat)
 |mp (id:Nat)
 |itp (id m:Nat)
 |nilf
 |agg (cs:List AY)
 |tup (vs:List AY)
 |any
 deriving Inhabited
def AY.cells:AY->List AY
 | .agg cs=>cs
 |v=>[v]
structure Cx where
 w:World
 n:Nat
 io:Nat->Option Nat
 gen:Nat->Nat
 cap:Nat->Nat
 O:Nat->Prop
inductive Bp(x:Cx):AY->Value->Prop where
 |bool (b:Bool):Bp x (.bool b) (.bool b)
 |int (k:IntKind) (n:Int):Bp x (.int k n) (.int k n)
 |str {s:List UInt8} (t:ByteArray) (h:t.data.toList=s):Bp x (.str s) (.string t)
 |nilp:Bp x .nilp (.pointer none)
 |ptr {id g off:Nat} {c:Value} (hid:id<x.n) (hg:g≤x.gen id) (h1:c.oneCell'=true)
   (hc:x.gen id=g-> ∃B,x.io id=some B/\c= .pointer (some ⟨B,off,none⟩)):Bp x (.ptr id g off) c
 |vptr {cs:List AY} {B off:Nat} (f:Nat→Value) (hO: ¬x.O B) (hB:B<x.w.heap.size)
   (hc: ∀(j:Nat) (v:AY),cs[j]? =some v->x.w.cell? ⟨B,off+j,none⟩=some (f j)/\(f j).oneCell'=true)
   (hv: ∀(j:Nat) (v:AY),cs[j]? =some v->Bp x v (f j)):Bp x (.vptr cs) (.pointer (some ⟨B,off,none⟩))
 |nils:Bp x .nils (.slice none 0 0)
 |vs {sz:Nat} {rows:List AY} {a:Option Addr} {cap:Nat} (f:Nat→Nat→Value) (hcap:rows.length≤cap) (hsz:0<sz)
   (hrow: ∀(j:Nat) (e:AY),rows[j]? =some e->e.cells.length=sz)
   (ha:rows≠ []-> ∃B off,a=some ⟨B,off,none⟩/\ ¬x.O B/\B<x.w.heap.size/\
    ∀(j:Nat) (e:AY) (i:Nat) (v:AY),rows[j]? =some e->e.cells[i]? =some v->x.w.cell? ⟨B,off+(j*sz+i),none⟩=some (f j i)/\(f j i).oneCell'=true)
   (hv: ∀(j:Nat) (e:AY) (i:Nat) (v:AY),rows[j]? =some e->e.cells[i]? =some v->Bp x v (f j i)):Bp x (.vs sz rows) (.slice a rows.length cap)
 |sl {id g sz off len:Nat} {c:Value} (hid:id<x.n) (hg:g≤x.gen id) (h1: ∃a cap,c= .slice a len cap)
   (hc:x.gen id=g->(x.io id=none/\len=0/\off=0/\c= .slice none 0 0)\/
    ∃B cap,x.io id=some B/\len<=cap/\off+cap*sz<=x.cap id/\c= .slice (some ⟨B,off,none⟩) len cap):Bp x (.sl id g sz off len) c
 |fn {f:Fn} {first caps:List AY} {first' caps':Array Value} (h1:first'.size=first.length) (h2:caps'.size=caps.length)
   (hv1: ∀(j:Nat) (v:AY) (c:Value),first[j]? =some v->first'[j]? =some c->Bp x v c) (hv2: ∀(j:Nat) (v:AY) (c:Value),caps[j]? =some v->caps'[j]? =some c->Bp x v c):
   Bp x (.fn f first caps) (.func f first' caps')
 |yf {id:Nat} {c:Value} (hid:id<x.n) (h1:c.oneCell'=true) (hc:x.gen id=0-> ∃B,x.io id=some B/\c= .func (.yield B) #[] #[]):Bp x (.yf id) c
 |mp {id:Nat} {c:Value} (hid:id<x.n) (h1:c.oneCell'=true) (hc:x.gen id=0-> ∃B,x.io id=some B/\c= .map (some B)):Bp x (.mp id) c
 |itp {id m:Nat} {c:Value} (hid:id<x.n) (hm:m<x.n) (h1:c.oneCell'=true) (hc:x.gen id=0-> ∃B,x.io id=some B/\c= .pointer (some ⟨B,0,none⟩)/\(x.gen m=0->x.io m=some (x.cap id))):Bp x (.itp id m) c
 |nilf:Bp x .nilf .nilFunc
 |agg {cs:List AY} {cs':Array Value} (h:cs'.size=cs.length) (h1: ∀(j:Nat) (c:Value),cs'[j]? =some c→c.oneCell'=true)
   (hv: ∀(j:Nat) (v:AY) (c:Value),cs[j]? =some v->cs'[j]? =some c->Bp x v c):Bp x (.agg cs) (.agg cs')
 |tup {vs:List AY} {vs':Array Value} (h:vs'.size=vs.length)
   (hv: ∀(j:Nat) (v:AY) (c:Value),vs[j]? =some v->vs'[j]? =some c->Bp x v c):Bp x (.tup vs) (.tuple vs')
 |any (c:Value):Bp x .any c
structure Cx.Later(x y:Cx):Prop where
 size:x.w.heap.size<=y.w.heap.size
 keep: ∀B,B<x.w.heap.size-> ¬x.O B-> ∀off,y.w.cell? ⟨B,off,none⟩=x.w.cell? ⟨B,off,none⟩
 own: ∀B,B<x.w.heap.size->y.O B->x.O B
 n:x.n<=y.n
 gen: ∀id,id<x.n->x.gen id<=y.gen id
 same: ∀id,id<x.n->y.gen id=x.gen id->y.io id=x.io id/\y.cap id=x.cap id
variable {N t:Nat}{w A:World}{a J:TypeId}{b B:Value}{P:Program}{c:Nat→Prop}{d p G:AY}{e:List AY}{f:Cx}{i:Array Value}{j:Act}{k L:Operand}{l:Option (List Deferred)}{o:Oper}{n:Code}{X:Nat->Prop}{q:TypeInfo}{r:List Nat}{s:Bool}{v:Option Nat}{x:List Value}{y:Nat×Nat}{z:Nat->Nat}{D:IntKind}{E:FuncId}{F:BinOp}{I:Func}{M:Obj}
theorem mb(h:A.heap[N]? =w.heap[N]?)(a:Nat):A.cell? ⟨N,a,none⟩=w.cell? ⟨N,a,none⟩:=by grind[World.cell?]
theorem Bp.later{x y:Cx}(h:x.Later y)(r:Bp x d b):Bp y d b:=by
 induction r with
 |bool v=>exact .bool v
 |int k n=>exact .int k n
 |str t J=>exact .str t J
 |nilp=>exact .nilp
 |ptr a w c m=>refine .ptr (C7 a h.n) (Cz w (h.gen _ a)) c λe=>?_;have c:=h.gen _ a;have l:=h.same _ a o!;grind
 |vptr f q g m K p=>refine .vptr f (λo=>q (h.own _ g o)) (C7 g h.size) (λj d H=>?_) p;rw[h.keep _ g q];grind
 |nils=>exact .nils
 |vs f s C u G K p=>refine .vs f s C u (λA=>?_) p;obtain⟨B,F,e,q,g,m⟩:=G A;refine⟨B,F,e,(λo=>q (h.own _ g o)),C7 g h.size,λj e i d H N=>?_⟩;rw[h.keep _ g q];grind
 |sl a w c m=>refine .sl (C7 a h.n) (Cz w (h.gen _ a)) c λe=>?_;have c:=h.gen _ a;have l:=h.same _ a o!;grind
 |fn c l _ _ D E=>exact .fn c l D E
 |yf a c m=>refine .yf (C7 a h.n) c λe=>?_;have c:=h.gen _ a;have l:=h.same _ a o!;grind
 |mp a c m=>refine .mp (C7 a h.n) c λe=>?_;have c:=h.gen _ a;have l:=h.same _ a o!;grind
 |itp a z c m=>refine .itp (C7 a h.n) (C7 z h.n) c λe=>?_;have c:=h.gen _ a;have l:=h.same _ a o!;obtain⟨B,g,I,O⟩:=m o!;refine⟨B,l.1.trans g,I,λe=>?_⟩;have L:=h.gen _ z;have M:=h.same _ z o!;grind
 |nilf=>exact .nilf
 |agg h c _ p=>exact .agg h c p
 |tup h _ p=>exact .tup h p
 |any b=>exact .any b
abbrev Env:=List (Nat×AY)
structure mW where
 n:Nat
 env:Env
 params:Array Tmp
 assign:Code
 body:Code
 state:LoopState
 pending:Option Code
inductive FU where
 |dead
 |live (g:Nat) (cells:List AY)
 |lp (L:mW)
 |mp (k:IntKind) (es:List (Int×AY))
 |it (n:Nat) (seen:List Nat)
 deriving Inhabited
def FU.isB:FU->Bool
 | .mp _ _=>true
 | .it _ _=>true
 |_=>false
abbrev Az:=List FU
structure Gh where
 io:Nat->Option Nat
 gen:Nat->Nat
 cap:Nat->Nat
def owned(h:Gh)(H:Az)(B:Nat):Prop:= ∃id e,H[id]? =some e/\e≠FU.dead/\h.io id=some B
def cx(X:Nat->Prop)(h:Gh)(H:Az)(w:World):Cx:=⟨w,H.length,h.io,h.gen,h.cap,λB=>X B\/owned h H B⟩
def AA8(x:Cx)(id g:Nat)(cs:List AY):Prop:=
 x.gen id=g/\((x.io id=none/\cs=[])\/ ∃(B:Nat) (arr:Array Value) (T:TypeId) (fz:Nat×Nat) (f:Nat->Value),x.io id=some B/\x.w.heap[B]? =some (.cells arr T fz)/\arr.size=x.cap id/\
  cs.length<=arr.size/\(∀i,i<arr.size->(decide (fz.1<=i)&&decide (i<fz.2))=false)/\
  ∀(j:Nat) (v:AY),cs[j]? =some v->arr[j]? =some (f j)/\(f j).oneCell'=true/\Bp x v (f j))
def wb(x:Cx)(id:Nat)(L:mW):Prop:=
 x.gen id=0/\ ∃(B:Nat) (r:Loop),x.io id=some B/\x.w.heap[B]? =some (.loop r)/\r.state=L.state/\r.pending=L.pending/\r.params=L.params/\r.assign=L.assign/\r.body=L.body/\r.tmps.size=L.n/\
  ∀t v,(t,v)∈L.env->t<L.n/\Bp x v (r.tmps.getD t undef)
def BAt(h:Gh)(w:World)(id:Nat):FU->Prop
 | .mp k es=> ∃(B:Nat) (arr:Array MapEntry),h.io id=some B∧h.gen id=0∧w.heap[B]? =some (.map arr arr.size)∧arr.size=es.length∧
   ∀(j:Nat) (p:Int×AY),es[j]? =some p-> ∃e:MapEntry,arr[j]? =some e/\e.born=j/\e.key= .int k p.1/\ ∀x,Bp x p.2 e.val
 | .it n seen=> ∃B,h.io id=some B/\h.gen id=0/\w.heap[B]? =some (.mapIter (some (h.cap id)) n seen.toArray n)
 |_=>True
structure JN(X:Nat->Prop)(h:Gh)(H:Az)(w:World):Prop where
 out: ∀B,X B->B<w.heap.size/\ ¬owned h H B
 live: ∀(id g:Nat) (cs:List AY),H[id]? =some (FU.live g cs)->AA8 (cx X h H w) id g cs
 lp: ∀(id:Nat) (L:mW),H[id]? =some (FU.lp L)->wb (cx X h H w) id L
 inj: ∀(id id':Nat) (e e':FU) (B:Nat),H[id]? =some e->H[id']? =some e'->e≠ .dead->e'≠ .dead->h.io id=some B->h.io id'=some B->id=id'
 bld: ∀(id:Nat) (e:FU),H[id]? =some e->e.isB=true->BAt h w id e
variable {H R:Az}{h O:Gh}{g:Env}{m:FU}{u:AY→Az→Prop}{K:AY->Az->Prop}
def JN.bldKeep(s:JN c h H w)
  (key: ∀(id:Nat) (e:FU),R[id]? =some e->e.isB=true->H[id]? =some e/\O.io id=h.io id/\O.gen id=h.gen id/\O.cap id=h.cap id/\ ∀B (o:Obj),h.io id=some B->w.heap[B]? =some o->(∀z,o≠ .deferred z)->A.heap[B]? =w.heap[B]?):
  ∀(id:Nat) (e:FU),R[id]? =some e->e.isB=true->BAt O A id e:=by
 intro id e v q;obtain⟨m,g,a,f,r⟩:=key id e v q;have b:=s.bld id e m q;cases e with
 |mp k x=>obtain⟨B,j,X,l,d,u⟩:=b;exact⟨B,j,g.trans X,a.trans l,(r B _ X d (λz=>k!)).trans d,u⟩
 |it n seen=>obtain⟨B,X,l,d⟩:=b;exact⟨B,g.trans X,a.trans l,by rw[f];exact(r B _ X d (λz=>k!)).trans d⟩
 |_=>trivial
def Oz(x:Cx)(env:Env)(a:Act):Prop:= ∀t v,(t,v)∈env->t<a.tmps.size/\Bp x v (a.tmps.getD t undef)
structure St(X:Nat->Prop)(h:Gh)(N:Nat)(env:Env)(H:Az)(a:Act)(w:World):Prop where
 sim:JN X h H w
 env:Oz (cx X h H w) env a
 size:a.tmps.size=N
structure Ha(h:Gh)(H:Az)(w:World)(h':Gh)(H':Az)(w':World):Prop where
 os:w'.os=w.os
 tape:w'.tape=w.tape
 output:w'.output=w.output
 size:w.heap.size<=w'.heap.size
 keep: ∀B,B<w.heap.size-> ¬owned h H B->w'.heap[B]? =w.heap[B]?
 n:H.length<=H'.length
 gen: ∀id,id<H.length->h.gen id<=h'.gen id
 same: ∀id,id<H.length->h'.gen id=h.gen id->h'.io id=h.io id/\h'.cap id=h.cap id
 fresh: ∀B,owned h' H' B->owned h H B\/w.heap.size<=B
 loops: ∀(B:Nat) (r:Loop),w.heap[B]? =some (.loop r)-> ∃r':Loop,w'.heap[B]? =some (.loop r')
def Ha.refl(h:Gh)(H:Az)(w:World):Ha h H w h H w:=⟨rfl,rfl,rfl,Am _,λ_ _ _=>rfl,Am _,λ_ _=>Am _,λ_ _ _=>⟨rfl,rfl⟩,λ_ h=>.inl h,λ_ r h=>⟨r,h⟩⟩
theorem Ha.trans{c j k:Gh}{f g i:Az}{l m o:World}(a:Ha c f l j g m)(b:Ha j g m k i o):Ha c f l k i o where
 os:=b.os.trans a.os
 tape:=b.tape.trans a.tape
 output:=b.output.trans a.output
 size:=Cz a.size b.size
 keep B hB hn:=(b.keep B (C7 hB a.size) λd=>by rcases a.fresh B d with h|h;grind;omega).trans (a.keep B hB hn)
 n:=Cz a.n b.n
 gen id hid:=Cz (a.gen id hid) (b.gen id (C7 hid a.n))
 same id hid e:=by have q:=a.gen id hid;have s:=b.gen id (C7 hid a.n);have u:=a.same id hid o!;have v:=b.same id (C7 hid a.n) o!;grind
 fresh B d:=by rcases b.fresh B d with h|h;exact a.fresh B h;exact .inr (Cz a.size h)
 loops B r h:=by obtain⟨p,c⟩:=a.loops B r h;exact b.loops B p c
def Ha.later{h c:Gh}{H b:Az}{w d:World}(e:Ha h H w c b d)(X:Nat->Prop):(cx X h H w).Later (cx X c b d)where
 size:=e.size
 keep B hB hO off:=mb (e.keep B hB λa=>hO (.inr a)) off
 own B hB a:=by rcases a with a|a;exact .inl a;rcases e.fresh B a with h|h;exact .inr h;simp only[cx]at hB;omega
 n:=e.n
 gen:=e.gen
 same:=e.same
def Oz.later{x y:Cx}(l:x.Later y)(h:Oz x g j):Oz y g j:=λt v m=>⟨(h t v m).1,(h t v m).2.later l⟩
def EM(P:Program)(F:FuncId)(args:List AY)(H:Az)(Q:AY->Az->Prop):Prop:=
 ∀(X:Nat->Prop) (h:Gh) (w:World) (cargs:Array Value),JN X h H w->cargs.size=args.length->
  (∀(j:Nat) (v:AY) (c:Value),args[j]? =some v->cargs[j]? =some c->Bp (cx X h H w) v c)->
  Calls P F cargs w λe w'=> ∃c v h' H',e= .returned c/\Q v H'/\JN X h' H' w'/\Bp (cx X h' H' w') v c/\Ha h H w h' H' w'
def FR(r:Option Nat):Fence:={Fence.wide with round:=r}
def aJ(a:Act)(w:World)(a':Act)(w':World):Prop:=
 ∃ds,a'.defers=ds++a.defers/\ds.Nodup/\ ∀d∈ds,∃D,d={target:=.collected D,args:= #[]}/\w.heap.size<=D/\w'.heap[D]? =some (.deferred (some []))
def nk(r:Option Nat)(w:World):Prop:= ∀l,r=some l-> ∃x:Loop,w.heap[l]? =some (.loop x)
def aJ.same{b:Act}{w c:World}(h:b.defers=j.defers):aJ j w b c:=⟨[],by simp[h],.nil,λ_ h=>by cases h⟩
def JN.deferred(s:JN X h H w)(j:w.heap[N]? =some (.deferred l)): ¬owned h H N:=by
 rintro⟨id,e,D,o,b⟩;cases e with
 |dead=>exact o rfl
 |live g p=>rcases(s.live id g p D).2 with⟨hn,_⟩|⟨B,m,T,t,f,a,i,_⟩;rw[show(cx X h H w).io id=h.io id from rfl,b]at hn;cases hn;rw[show(cx X h H w).io id=h.io id from rfl,b]at a;injection a with e;subst e;rw[show(cx X h H w).w.heap=w.heap from rfl,j]at i;cases i
 |lp L=>obtain⟨_,B,r,a,i,_⟩:=s.lp id L D;rw[show(cx X h H w).io id=h.io id from rfl,b]at a;injection a with e;subst e;rw[show(cx X h H w).w.heap=w.heap from rfl,j]at i;cases i
 |mp k q=>obtain⟨B,m,c,_,d,_⟩:=s.bld id _ D rfl;rw[b]at c;injection c with e;subst e;rw[j]at d;cases d
 |it n seen=>obtain⟨B,c,_,d⟩:=s.bld id _ D rfl;rw[b]at c;injection c with e;subst e;rw[j]at d;cases d
theorem sK(h:w.heap[N]? =some M):N<w.heap.size:=q!
def Ha.defs(x:Ha h H w O R A)(s:JN X h H w)(a:w.heap[N]? =some (.deferred l)):A.heap[N]? =some (.deferred l):=(x.keep N (sK a) (s.deferred a)).trans a
theorem aJ.trans{X:Nat->Prop}{h j b:Gh}{H f n:Az}{a a1 a2:Act}{w e m:World}(o:aJ a w a1 e)(s:JN X j f e)(z:Ha h H w j f e)(x:Ha j f e b n m)(p:aJ a1 e a2 m):aJ a w a2 m:=by obtain⟨g,B,t,v⟩:=o;obtain⟨i,C,u,y⟩:=p;refine⟨i++g,q!,Qw.2 ⟨u,t,λd r A q E=>?_⟩,λd c=>?_⟩;grind;rcases A1.1 c with c|c;obtain⟨D,k,b,l⟩:=y d c;exact⟨D,k,Cz z.size b,l⟩;obtain⟨D,k,b,l⟩:=v d c;exact⟨D,k,b,x.defs s l⟩
def nk.later{h c:Gh}{H b:Az}{w a:World}(k:nk v w)(x:Ha h H w c b a):nk v a:=λl e=>by obtain⟨y,d⟩:=k l e;exact x.loops l y d
def M2(P:Program)(N:Nat)(c:Code)(env:Env)(H:Az)(Q:Exit->Env->Az->Prop):Prop:=
 ∀(r:Option Nat) (X:Nat->Prop) (h:Gh) (a:Act) (w:World),St X h N env H a w->nk r w->
  c.wpIn (FR r) 0 P (λe a' w'=> ∃h' env' H',Q e env' H'/\St X h' N env' H' a' w'/\Ha h H w h' H' w'/\aJ a w a' w') a w
def EM.mono{P:Program}{F:FuncId}{args:List AY}{H:Az}{Q d:AY->Az->Prop}(h:EM P F args H Q)(i: ∀v b,Q v b->d v b):EM P F args H d:=λX g w a s j hr=>(h X g w a s j hr).mono λ_ _ ⟨c,v,f,b,e,q,r⟩=>⟨c,v,f,b,e,i _ _ q,r⟩
def M2.mono{P:Program}{N:Nat}{H:Az}{Q f:Exit->Env->Az->Prop}(h:M2 P N n g H Q)(j: ∀e b d,Q e b d->f e b d):M2 P N n g H f:=λr X c a w s k=>wpIn_mono (h r X c a w s k) λ_ _ _ ⟨i,b,d,q,r⟩=>⟨i,b,d,j _ _ _ q,r⟩
def wV(K:Env->Az->Prop)(Q:Exit->Env->Az->Prop):Exit->Env->Az->Prop
 | .normal,env,H=>K env H
 |e,env,H=>Q e env H
def pk(id:Nat)(Q:Exit->Env->Az->Prop):Exit->Env->Az->Prop
 | .exit id',env,H=>if id'=id then Q .normal env H else Q (.exit id') env H
 |e,env,H=>Q e env H
section rules
variable {P:Program} {N:Nat} {env:Env} {H:Az} {Q:Exit->Env->Az->Prop}
def M2.skip(h:Q .normal env H):M2 P N .skip env H Q:=λ_ _ _ _ _ s _=>wpIn_skip ⟨_,_,_,h,s,Ha.refl _ _ _,.same rfl⟩
def M2.ret(h:Q .ret env H):M2 P N .ret env H Q:=λ_ _ _ _ _ s _=>wpIn_ret ⟨_,_,_,h,s,Ha.refl _ _ _,.same rfl⟩
def M2.exit(h:Q (.exit t) env H):M2 P N (.exit t) env H Q:=λ_ _ _ _ _ s _=>wpIn_exit ⟨_,_,_,h,s,Ha.refl _ _ _,.same rfl⟩
def M2.seq{x y:Code}(h:M2 P N x env H (wV (λb d=>M2 P N y b d Q) Q)):M2 P N (.seq x y) env H Q:=by
 intro r X g a w s k;refine wpIn_seq (wpIn_mono (h r X g a w s k) ?_);rintro e n u ⟨j,b,d,q,f,c,i⟩;cases e with
 |normal=>apply wpIn_mono (q r X j n u f (k.later c));rintro e a2 v ⟨p,env2,m,q2,t,l,o⟩;exact⟨p,env2,m,q2,t,c.trans l,i.trans f.sim c l o⟩
 |_=>exact⟨j,b,d,q,f,c,i⟩
theorem M2.block{id:Nat}(h:M2 P N n env H (pk id Q)):M2 P N (.block id n) env H Q:=by intro r X g a w s k;refine wpIn_block (wpIn_mono (h r X g a w s k) ?_);rintro e f j ⟨i,b,d,q,r⟩;cases e<;>grind[pk,Exit.inBlock]
def Fv(N n0:Nat)(env:Env)(H:Az)(env2:Env)(H2:Az):Prop:=
 n0<=H2.length/\ ∀(X:Nat->Prop) (h:Gh) (a:Act) (w:World),St X h N env H a w->
  ∃h2,St X h2 N env2 H2 a w/\(∀id,id<n0->h2.gen id=h.gen id/\h2.io id=h.io id/\h2.cap id=h.cap id)/\ ∀B,owned h2 H2 B->owned h H B
def Fv.ext{d:Gh}{f:Az}(hn:f.length=N)(o:N≤R.length)
  (k: ∀id,id<N->d.gen id=h.gen id/\d.io id=h.io id/\d.cap id=h.cap id) (m: ∀B,owned d R B->owned h H B) (x:Ha O f A h H w):Ha O f A d R w where
 os:=x.os
 tape:=x.tape
 output:=x.output
 size:=x.size
 keep:=x.keep
 n:=o!
 gen id hid:=by rw[(k id o!).1];exact x.gen id hid
 same id hid e:=by obtain⟨a,b,c⟩:=k id o!;rw[a]at e;rw[b,c];exact x.same id hid e
 fresh B hB:=x.fresh B (m B hB)
 loops:=x.loops
theorem Fv.refl(N:Nat)(env:Env)(H:Az):Fv N H.length env H env H:=⟨Am _,λ_ h _ _ s=>⟨h,s,λ_ _=>⟨rfl,rfl,rfl⟩,λ_ h=>h⟩⟩
def M2.weak(f:Fv N H.length env H g R)(h:M2 P N n g R Q):M2 P N n env H Q:=by intro r X d a w s k;obtain⟨m,t,c,o⟩:=f.2 X d a w s;apply wpIn_mono (h r X m a w t k);rintro e v x ⟨l,b,i,q,p,u,j⟩;exact⟨l,b,i,q,p,(Fv.ext rfl f.1 c o (Ha.refl d H w)).trans u,j⟩
end rules
def Env.get:Env->Nat->AY
 |[],_=>.any
 |(k,v)::r,t=>if k=t then v else Env.get r t
def Env.put(env:Env)(t:Nat)(v:AY):Env:=(t,v)::env.filter λp=>decide (p.1≠t)
def Env.putO(env:Env):Option Nat->AY->Env
 |some t,v=>env.put t v
 |none,_=>env
theorem N8{env:Env}{t:Nat}:Env.get env t= .any\/(t,Env.get env t)∈env:=by induction env<;>grind[Env.get]
def rE:Value->AY
 | .bool b=>.bool b
 | .int k n=>.int k n
 | .string s=>.str s.data.toList
 | .pointer none=>.nilp
 | .slice none 0 0=>.nils
 | .nilFunc=>.nilf
 |_=>.any
def ACJ:Value->AY
 | .agg cs=>if cs.toList.all (·.oneCell')then .agg (cs.toList.map rE)else .any
 |v=>rE v
theorem qA(x:Cx)(v:Value):Bp x (rE v) v:=by unfold rE;split;exact .bool _;exact .int _ _;exact .str _ rfl;exact .nilp;exact .nils;exact .nilf;exact .any _
theorem ya(x:Cx)(v:Value):Bp x (ACJ v) v:=by unfold ACJ;split;rename_i b;split;rename_i h;refine .agg k! (λj c a=>?_) λj v c a d=>?_;grind;grind[qA];exact .any _;exact qA x _
def BJ(env:Env):Operand->AY
 | .tmp t=>env.get t
 | .const v=>ACJ v
 | .global _=>.any
 | .func f=>.fn (.func f) [] []
def DU(h:Oz f g j)(o:Operand):Bp f (BJ g o) (j.eval o):=by
 cases o with
 |tmp t=>rcases N8 (env:=g) (t:=t)with e|m;simp only[BJ,e];exact .any _;exact(h _ _ m).2
 |const v=>exact ya f v
 |global x=>exact .any _
 |func a=>exact .fn rfl rfl (λ_ _ _ h=>by simp at h) (λ_ _ _ h=>by simp at h)
theorem Oz.put(h:Oz f g j){d:Nat}{v:AY}(i:d<j.tmps.size)(a:Bp f v b):Oz f (g.put d v) (j.put (some d) b):=by
 intro t u m;simp only[Act.put];rcases A8.1 m with e|m;simp_all;rw[Bk]at m;obtain⟨m,x⟩:=m;have x:t≠d:=q!
 obtain⟨k,c⟩:=h t u m;have:(j.tmps.setIfInBounds d b).getD t undef=j.tmps.getD t undef:=by rw[Q2,Q2,vO (λe=>x e.symm)]
 grind
def Oz.putO(h:Oz f g j){d:Option Nat}{v:AY}(b: ∀t,d=some t->t<j.tmps.size)(e:Bp f v B):Oz f (g.putO d v) (j.put d B):=by
 cases d with
 |none=>exact h
 |some d=>exact h.put (b d rfl) e
def eU(a:Act)(d:Option Nat)(c:Value):(a.put d c).tmps.size=a.tmps.size:=by cases d<;>simp[Act.put]
def JM(P:Program)(N:Nat)(o:Oper)(env:Env)(H:Az)(K:AY->Az->Prop):Prop:=
 ∀(r:Option Nat) (X:Nat->Prop) (h:Gh) (a:Act) (w:World),St X h N env H a w-> ∀Q:Exit->Act->World->Prop,
  Oper.wpIn (FR r) 0 P o a w (λa' w'=> ∃c v h' H',a'=a.put o.dst c/\K v H'/\Bp (cx X h' H' w') v c/\JN X h' H' w'/\Ha h H w h' H' w') Q
def JM.mono{P:Program}{N:Nat}{H:Az}{d:AY->Az->Prop}(h:JM P N o g H K)(i: ∀v b,K v b->d v b):JM P N o g H d:=λr X j a w s Q=>Oper.wpIn_mono (λ_ _ ⟨c,v,f,b,e,k,r⟩=>⟨c,v,f,b,e,i _ _ k,r⟩) (h r X j a w s Q)
def Op.plain:Op->Bool
 | .defer _=>false
 |_=>true
def Cv(n:Op.plain o.op=true)(h: ∀(X:Nat→Prop) (h:Gh) (a:Act) (w:World),St X h N g H a w→ ∀Q:Exit→Act→World→Prop,
  Oper.wp P o a w (λp b=> ∃c v i e,p=a.put o.dst c/\u v e/\Bp (cx X i e b) v c/\JN X i e b/\Ha h H w i e b) Q):JM P N o g H u:=by
 intro r X K a w s Q;have d:=h X K a w s Q;refine⟨λ_ _=>trivial,?_⟩;rw[Oper.semAt_eq _ _ _ (λc j=>by rw[j]at n;cases n)];unfold Oper.wp at d;generalize (execOp a.eval o).run P w=res at d;have j: ∀{f:FuncId} {args:Array Value} {b:World} {R:Ending->World->Prop},Calls P f args b R->CallsIn (FR r) (0-1) P f args b R:=by
  intro f args b R t;have m:CallsIn Fence.wide (0-1) P f args b R:=callsIn_wide.2 t;cases r with
  |none=>exact m
  |some l=>exact m
 cases res with
 |ok v b=>
  cases v with
  |enter f args=>exact⟨(λh=>by cases h),j d⟩
  |row row args=>refine⟨(λh=>by cases h),λc q _=>?_⟩;obtain⟨v,k,z,y⟩:=d c q;exact⟨v,k,z,stepsIn_wide.2 y⟩
  |round l f tmps assign body=>exact d.elim
  |_=>exact d
 |halt x b=>cases x<;>exact d
def Wx(ops:Array Oper)(env:Env)(j:Nat):AY:=
 match (ops[j]?).bind (·.dst)with
 |some d=>env.get d
 |none=>.any
def YW(ops:Array Oper)(g:Option (Nat×Bool))(env:Env)(A B:Prop):Prop:=
 match g with
 |none=>A
 |some (j,want)=>
  match Wx ops env j with
  | .bool b=>(b=want->A)/\(b=(!want)->B)
  | .tup []=>B
  |_=>False
def PH(n:Nat)(ops:List Oper):Bool:=ops.all λo=>match o.dst with|some d=>decide (d<n)|none=>true
theorem yu{y:Array Oper}(s:Oz f g j){A B:Prop}(h:YW y o.guard g A B):
  (Region.wanted o (yielded y j.tmps)=true/\A)\/(Region.wanted o (yielded y j.tmps)=false/\B):=by
 unfold YW at h;unfold Region.wanted;cases v:o.guard with
 |none=>grind
 |some p=>
  obtain⟨a,k⟩:=p;rw[v]at h;simp only at h⊢;cases x:Wx y g a with
  |bool b=>
   rw[x]at h;simp only at h;have r:yielded y j.tmps a=some b:=by
    unfold Wx at x;unfold yielded;cases n:(y[a]?).bind (·.dst)with
    |none=>grind
    |some d=>
     rw[n]at x;simp only at x;simp only[AD];rcases N8 (env:=g) (t:=d)with e|m;grind;rw[x]at m;obtain⟨q,hr⟩:=s _ _ m;have:j.tmps[d]? =some (.bool b):=by
      have i:j.tmps.getD d undef= .bool b:=by generalize j.tmps.getD d undef=c at hr;cases hr;rfl
      rw[Q2]at i;grind[Array.getElem?_eq_getElem]
     rw[this]
   rw[r];by_cases u:b=k;grind;refine .inr ⟨by simp[u],h.2 ?_⟩;cases b<;>cases k<;>simp_all
  |tup w=>
   cases w with
   |cons _ _=>grind
   |nil=>
    rw[x]at h;simp only at h;refine .inr ⟨?_,h⟩;have r:yielded y j.tmps a=none:=by
     unfold Wx at x;unfold yielded;cases n:(y[a]?).bind (·.dst)with
     |none=>rfl
     |some d=>
      rw[n]at x;simp only at x;simp only[AD];rcases N8 (env:=g) (t:=d)with e|m;grind;rw[x]at m;obtain⟨q,hr⟩:=s _ _ m;have i: ∃l,j.tmps.getD d undef= .tuple l:=by generalize j.tmps.getD d undef=c at hr;cases hr;exact⟨_,rfl⟩
      obtain⟨l,i⟩:=i;have:j.tmps[d]? =some (.tuple l):=t!
      rw[this]
    rw[r];rfl
  |_=>grind
section
variable {P:Program} {N:Nat} {env:Env} {H:Az} {Q:Exit->Env->Az->Prop}
def M2.cond{y:Code}{b:Bool}(d:BJ env k= .bool b)(h:b=true->M2 P N n env H Q)(f:b=false->M2 P N y env H Q):M2 P N (.cond k n y) env H Q:=by
 intro r X g a w s c;have hr:=DU s.env k;rw[d]at hr;have e:a.eval k= .bool b:=by generalize a.eval k=v at hr;cases hr;rfl
 apply wpIn_cond e;cases b;exact f rfl r X g a w s c;exact h rfl r X g a w s c
end
mutual
def AY.idsAll(p:Nat->Bool):AY->Bool
 | .ptr id _ _=>p id
 | .sl id _ _ _ _=>p id
 | .yf id=>p id
 | .mp id=>p id
 | .itp id m=>p id&&p m
 | .vptr cs=>AY.idsAllL p cs
 | .vs _ rows=>AY.idsAllL p rows
 | .fn _ a b=>AY.idsAllL p a&&AY.idsAllL p b
 | .agg cs=>AY.idsAllL p cs
 | .tup cs=>AY.idsAllL p cs
 | .bool _| .int _ _| .str _| .nilp| .nils| .nilf| .any=>true
def AY.idsAllL(p:Nat->Bool):List AY->Bool
 |[]=>true
 |v::r=>AY.idsAll p v&&AY.idsAllL p r
end
mutual
def AY.ren(ρ:Nat->Nat):AY->AY
 | .ptr id g off=>.ptr (ρ id) g off
 | .sl id g sz off len=>.sl (ρ id) g sz off len
 | .yf id=>.yf (ρ id)
 | .mp id=>.mp (ρ id)
 | .itp id m=>.itp (ρ id) (ρ m)
 | .vptr cs=>.vptr (AY.renL ρ cs)
 | .vs sz rows=>.vs sz (AY.renL ρ rows)
 | .fn f a b=>.fn f (AY.renL ρ a) (AY.renL ρ b)
 | .agg cs=>.agg (AY.renL ρ cs)
 | .tup cs=>.tup (AY.renL ρ cs)
 | .bool b=>.bool b
 | .int k n=>.int k n
 | .str s=>.str s
 | .nilp=>.nilp
 | .nils=>.nils
 | .nilf=>.nilf
 | .any=>.any
def AY.renL(ρ:Nat->Nat):List AY->List AY
 |[]=>[]
 |v::r=>AY.ren ρ v::AY.renL ρ r
end
theorem Ol(a:Nat->Nat)(l:List AY):AY.renL a l=l.map (AY.ren a):=by induction l<;>grind[AY.renL]
theorem Dd(p:Nat->Bool)(l:List AY):AY.idsAllL p l=true↔ ∀v∈l,v.idsAll p=true:=by induction l<;>grind[AY.idsAllL]
theorem M0{p:Nat->Bool}(h:AY.idsAllL p e=true)(a:e[N]? =some d):d.idsAll p=true:=by grind[Dd]
theorem wO(a:Nat->Nat)(v:AY):(v.ren a).cells=v.cells.map (AY.ren a):=by cases v<;>simp[AY.ren,AY.cells,Ol]
def Ve{p:Nat->Bool}(h:d.idsAll p=true): ∀u∈d.cells,u.idsAll p=true:=by
 cases d<;>simp only[AY.cells,BI]<;>first
  |(intro u a;subst a;exact h)
  |(simp only[AY.idsAll]at h;exact(Dd _ _).1 h)
theorem Bp.ren{x y:Cx}{p:Nat→Bool}{ρ:Nat→Nat}(F: ∀id,p id=true→id<x.n→ρ id<y.n∧y.gen (ρ id)=x.gen id∧y.io (ρ id)=x.io id∧y.cap (ρ id)=x.cap id)
  (Y:y.w=x.w) (hO: ∀B,y.O B->x.O B) {v:AY}  (r:Bp x v b):v.idsAll p=true->Bp y (v.ren ρ) b:=by
 induction r with
 |bool c=>exact λ_=>.bool c
 |int k n=>exact λ_=>.int k n
 |str t L=>exact λ_=>.str t L
 |nilp=>exact λ_=>.nilp
 | @ptr id g H b A T E z=>intro q;obtain⟨a,c,d,e⟩:=F id q A;refine .ptr a (by rw[c];exact T) E λC=>?_;rw[c]at C;rw[d];exact z C
 | @vptr cs B H f K S z X M=>intro q;simp only[AY.idsAll]at q;simp only[AY.ren,Ol];refine .vptr f (λo=>K (hO B o)) (by rw[Y];exact S) (λj v l=>?_) λj v l=>?_;grind;grind[Option.some.injEq,M0]
 |nils=>exact λ_=>.nils
 | @vs sz D a cap f P W ag ha X M=>
  intro q;simp only[AY.idsAll]at q;simp only[AY.ren,Ol];have I: ∀{j:Nat} {e:AY},(D.map (AY.ren ρ))[j]? =some e-> ∃u,D[j]? =some u/\e=u.ren ρ:=by grind[Option.some.injEq]
  have G: ∀{u:AY} {i:Nat} {v:AY},(u.ren ρ).cells[i]? =some v-> ∃t,u.cells[i]? =some t/\v=t.ren ρ:=by grind[wO,Option.some.injEq]
  have J:(D.map (AY.ren ρ)).length=D.length:=k!
  rw[<-J];refine .vs f (by rw[J];exact P) W (λj e l=>?_) (λV=>?_) λj e i v l U=>?_;grind[wO,List.length_map];obtain⟨B,H,e,K,S,z⟩:=ha (by simpa using V);refine⟨B,H,e,λo=>K (hO B o),by rw[Y];exact S,λj e i v l U=>?_⟩;obtain⟨u,s,rfl⟩:=I l;obtain⟨t,L,rfl⟩:=G U;rw[Y];exact z j u i t s L;obtain⟨u,s,rfl⟩:=I l;obtain⟨t,L,rfl⟩:=G U;exact M j u i t s L (Ve (M0 q s) _ (BU L))
 | @sl id g sz H len b A T E z=>intro q;obtain⟨a,c,d,e⟩:=F id q A;refine .sl a (by rw[c];exact T) E λC=>?_;rw[c]at C;rw[d,e];exact z C
 | @fn f first N Q R E h2 ao ap Z ad=>
  intro q;simp only[AY.idsAll,BO]at q;simp only[AY.ren,Ol];refine .fn (by simpa using E) (by simpa using h2) (λj v b l z=>?_) λj v b l z=>?_;rw[CE]at l;cases s:first[j]? with
  |none=>rw[s]at l;cases l
  |some u=>rw[s]at l;simp only[Bn,Al]at l;subst l;exact Z j u b s z (M0 q.1 s)
  rw[CE]at l;cases s:N[j]? with
  |none=>rw[s]at l;cases l
  |some u=>rw[s]at l;simp only[Bn,Al]at l;subst l;exact ad j u b s z (M0 q.2 s)
 | @yf id b A E z=>intro q;obtain⟨a,c,d,e⟩:=F id q A;refine .yf a E λC=>?_;rw[c]at C;rw[d];exact z C
 | @mp id b A E z=>intro q;obtain⟨a,c,d,e⟩:=F id q A;refine .mp a E λC=>?_;rw[c]at C;rw[d];exact z C
 | @itp id m b A hm E z=>intro q;simp only[AY.idsAll,BO]at q;obtain⟨a,c,d,e⟩:=F id q.1 A;obtain⟨a2,b2,d2,e2⟩:=F m q.2 hm;refine .itp a a2 E λC=>?_;rw[c]at C;rw[d,b2,d2,e];exact z C
 |nilf=>exact λ_=>.nilf
 | @agg cs al h E X M=>
  intro q;simp only[AY.idsAll]at q;simp only[AY.ren,Ol];refine .agg (by simpa using h) E λj v b l z=>?_;rw[CE]at l;cases s:cs[j]? with
  |none=>rw[s]at l;cases l
  |some u=>rw[s]at l;simp only[Bn,Al]at l;subst l;exact M j u b s z (M0 q s)
 | @tup vs ar h X M=>
  intro q;simp only[AY.idsAll]at q;simp only[AY.ren,Ol];refine .tup (by simpa using h) λj v b l z=>?_;rw[CE]at l;cases s:vs[j]? with
  |none=>rw[s]at l;cases l
  |some u=>rw[s]at l;simp only[Bn,Al]at l;subst l;exact M j u b s z (M0 q s)
 |any b=>exact λ_=>.any b
mutual
theorem AAt{p:Nat->Bool}{d:Nat->Nat}(c: ∀id,p id=true->d id=id): ∀v:AY,v.idsAll p=true->v.ren d=v
 | .ptr id g off,h=>by simp only[AY.ren,c id h]
 | .sl id g sz off len,h=>by simp only[AY.ren,c id h]
 | .yf id,h=>by simp only[AY.ren,c id h]
 | .mp id,h=>by simp only[AY.ren,c id h]
 | .itp id m,h=>by simp only[AY.idsAll,BO]at h;simp only[AY.ren,c id h.1,c m h.2]
 | .vptr cs,h=>by simp only[AY.ren,YG c cs h]
 | .vs sz rows,h=>by simp only[AY.ren,YG c rows h]
 | .fn f a b,h=>by simp only[AY.idsAll,BO]at h;simp only[AY.ren,YG c a h.1,YG c b h.2]
 | .agg cs,h=>by simp only[AY.ren,YG c cs h]
 | .tup cs,h=>by simp only[AY.ren,YG c cs h]
 | .bool _,_=>rfl
 | .int _ _,_=>rfl
 | .str _,_=>rfl
 | .nilp,_=>rfl
 | .nils,_=>rfl
 | .nilf,_=>rfl
 | .any,_=>rfl
theorem YG{p:Nat->Bool}{b:Nat->Nat}(a: ∀id,p id=true->b id=id): ∀l:List AY,AY.idsAllL p l=true->AY.renL b l=l
 |[],_=>rfl
 |v::r,h=>by simp only[AY.idsAllL,BO]at h;simp only[AY.renL,AAt a v h.1,YG a r h.2]
end
def tI(P:Program)(t:TypeId):Option (Bool×Nat):=
 match P.info? t,P.underlying t with
 |some i,some d=>some ((match d with| .struct _| .array _ _=>true|_=>false),i.size)
 |_,_=>none
def YT(h:tI P a=some (s,N))(w:World):(isAgg a).run P w= .ok s w:=by unfold tI at h;split at h;rename_i i d c t;unfold isAgg;simp only[Sem.run_bind,run_underlying t,Result.andThen_ok];split<;>simp_all;cases h
def K7{P:Program}(h:tI P a=some (s,N))(w:World):(sizeOf a).run P w= .ok N w:=by unfold tI at h;split at h;rename_i i d t c;simp at h;simp[sizeOf,typeInfo,t,h.2];cases h
def QM(H:Az):AY->Nat->Option (List AY)
 | .ptr id g off,n=>
  match H[id]? with
  |some (.live g' cs)=>if g=g'/\off+n<=cs.length then some ((cs.drop off).take n)else none
  |_=>none
 | .vptr cs,n=>if n<=cs.length then some (cs.take n)else none
 |_,_=>none
def mn(x:Cx)(vs:List AY)(cs:List Value):Prop:=cs.length=vs.length/\ ∀(j:Nat) (v:AY) (c:Value),vs[j]? =some v->cs[j]? =some c->Bp x v c
theorem O4(B a j:Nat):(⟨B,a,none⟩:Addr).add j=⟨B,a+j,none⟩:=by grind[Addr.add]
theorem P5{w:World}(h:w.heap[N]? =some (.cells i a y))(b:Nat):w.cell? ⟨N,b,none⟩=i[b]? :=by grind[World.cell?]
theorem ue(s:JN c h H w)(r:Bp (cx c h H w) d b)(hr:QM H d N=some e):
  ∃(B a:Nat) (k:List Value),b= .pointer (some ⟨B,a,none⟩)/\k.length=N/\(∀j u,k[j]? =some u->w.cell? ((⟨B,a,none⟩:Addr).add j)=some u/\u.oneCell'=true)/\mn (cx c h H w) e k:=by
 cases r with
 | @ptr id g a b O Z V x=>
  simp only[QM]at hr;split at hr;rename_i U k L;split at hr;rename_i m;obtain⟨rfl,F⟩:=m;simp only[Al]at hr;subst hr;obtain⟨t,q⟩:=s.live id g k L;obtain⟨B,o,rfl⟩:=x t;rcases q with⟨hn,_⟩|⟨D,I,T,S,f,l,K,E,A,M,i⟩;rw[hn]at o;cases o;have:D=B:=by rw[show(cx c h H w).io id=some B from o]at l;injection l with G;exact G.symm
  subst this;refine⟨D,a,(List.range N).map (λj=>f (a+j)),rfl,k!,?_,?_,?_⟩;intro j u p;have v:j<N:=by grind[Nat.lt_or_ge,List.getElem?_eq_none]
  have Q:u=f (a+j):=by grind[List.getElem?_range]
  subst Q;have y:k[a+j]? =some (k[a+j]' o!):=A4 o!;obtain⟨J,P,_⟩:=i _ _ y;rw[O4,P5 (w:=w) K];exact⟨J,P⟩;grind[List.length_map,List.length_range,List.length_take,List.length_drop];grind[Nat.lt_or_ge,List.getElem?_eq_none,List.getElem?_range,Option.some.injEq];cases hr;cases hr
 | @vptr k B a f Y W x R=>
  simp only[QM]at hr;split at hr;rename_i A;simp only[Al]at hr;subst hr;refine⟨B,a,(List.range N).map f,rfl,k!,?_,?_,?_⟩;intro j u p;have v:j<N:=by grind[Nat.lt_or_ge,List.getElem?_eq_none]
  rw[CE,Rb v]at p;simp only[Bn,Al]at p;subst p;rw[O4];exact x j _ (A4 o!);grind[List.length_map,List.length_range,List.length_take];intro j u X p z;have v:j<N:=by rcases Au j N with C|n;exact C;simp_all[Cc]
  rw[cF,if_pos v]at p;rw[CE,Rb v]at z;simp only[Bn,Al]at z;subst z;exact R j u p;cases hr
 |_=>simp only[QM]at hr;cases hr
def jD(P:Program)(t:TypeId)(H:Az)(v:AY):Option AY:=
 match tI P t with
 |some (true,n)=>(QM H v n).map AY.agg
 |some (false,_)=>(QM H v 1).bind List.head?
 |none=>none
theorem zB(s:JN c h H w)(r:Bp (cx c h H w) d b)(e:jD P a H d=some p):
  ∃B v l,b= .pointer (some ⟨B,v,none⟩)/\(loadVar a ⟨B,v,none⟩).run P w= .ok l w/\Bp (cx c h H w) p l:=by
 unfold jD at e;split at e;rename_i n g;cases hr:QM H d n with
 |none=>grind
 |some o=>rw[hr]at e;simp at e;subst e;obtain⟨B,v,f,rfl,t,k,X⟩:=ue s r hr;refine⟨B,v,.agg f.toArray,rfl,?_,?_⟩;unfold loadVar;simp only[Sem.run_bind,YT g,Result.andThen_ok,if_true,K7 g];subst t;rw[run_loadCells_list w ⟨B,v,none⟩ f λj d i=>(k j d i).1];rfl;refine .agg (by simpa using X.1) (λj b i=>?_) λj d b i u=>?_;grind;exact X.2 j d b i q!
 rename_i n g;cases hr:QM H d 1 with
 |none=>grind
 |some o=>
  rw[hr]at e;simp at e;obtain⟨B,v,f,rfl,t,k,X⟩:=ue s r hr;match f,t with
  |[c0],_=>
   match o,X.1 with
   |[u0],_=>simp at e;subst e;refine⟨B,v,c0,rfl,?_,X.2 0 _ _ rfl rfl⟩;unfold loadVar;have m:=(k 0 c0 rfl).1;simp only[Addr.add,if_true]at m;simp[YT g,m]
 cases e
def nW(P:Program)(env:Env)(H:Az):ResultVar->Option AY
 | .tmp t=>some (env.get t)
 | .cell a t=>jD P t H (env.get a)
def TR(P:Program)(env:Env)(H:Az):List ResultVar->Option (List AY)
 |[]=>some []
 |r::rs=>
  match nW P env H r,TR P env H rs with
  |some v,some vs=>some (v::vs)
  |_,_=>none
def jE(P:Program)(fn:Func)(env:Env)(H:Az):Option AY:=
 match TR P env H fn.results.toList with
 |some [v]=>some v
 |some vs=>some (.tup vs)
 |none=>none
def kW(h:Oz f g j)(t:Nat):Bp f (g.get t) (j.tmps.getD t undef):=DU h (.tmp t)
def uh(tmps:Array Value):ResultVar->Sem Value
 | .tmp t=>pure (tmps.getD t undef)
 | .cell a t=>do loadVar t (<-asAddr (tmps.getD a undef))
def AAv(b:Func)(tmps:Array Value):results b tmps=(do
  let a<-b.results.mapM (uh tmps);pure (if h:a.size=1 then a[0]else .tuple a)):=rfl
theorem rV{P:Program}{N:Nat}{X:Nat→Prop}{h:Gh}{env:Env}{H:Az}{a:Act}{w:World}(s:St X h N env H a w): ∀(g:List ResultVar) (i:List AY),TR P env H g=some i→
  ∃f,Sem.run P (g.mapM (uh a.tmps)) w= .ok f w/\mn (cx X h H w) i f
 |[],i,hv=>by simp only[TR,Al]at hv;subst hv;exact⟨[],rfl,rfl,λ_ _ _ h=>by cases h⟩
 |r::g,i,hv=>by
  simp only[TR]at hv;split at hv;rename_i v l k n;simp at hv;subst hv;obtain⟨f,o,b⟩:=rV s g l n;have e: ∃c,Sem.run P (uh a.tmps r) w= .ok c w/\Bp (cx X h H w) v c:=by
   cases r with
   |tmp t=>simp only[nW,Al]at k;subst k;exact⟨_,rfl,kW s.env t⟩
   |cell x t=>obtain⟨B,y,m,p,q,hr⟩:=zB s.sim (kW s.env x) k;refine⟨m,?_,hr⟩;simp only[uh,p];simp[asAddr,q]
  obtain⟨c,z,hr⟩:=e;refine⟨c::f,?_,by simpa using b.1,?_⟩;simp_all;intro j u d C A;cases j with
  |zero=>grind
  |succ j=>exact b.2 j u d q! q!
  cases hv
theorem ACl(s:St c h N g H j w)(a:jE P I g H=some d):
  ∃v,(results I j.tmps).run P w= .ok v w/\Bp (cx c h H w) d v:=by
 unfold jE at a;cases e:TR P g H I.results.toList with
 |none=>grind
 |some l=>
  rw[e]at a;obtain⟨f,m,b⟩:=rV s _ l e;have n:Sem.run P (I.results.mapM (uh j.tmps)) w= .ok f.toArray w:=by grind[Array.mapM_eq_mapM_toList,Sem.run_map,Result.andThen_ok]
  rw[AAv];simp only[Sem.run_bind,n];simp only[Result.andThen_ok,Sem.run_pure,Result.ok.injEq,and_true,exists_eq_left'];match l,b with
  |[],b=>simp at a;subst a;have:f=[]:=EL (by simpa using b.1);subst this;exact .tup rfl λX d v i _=>by cases i
  |[v0],b=>
   simp at a;subst a;match f,b.1 with
   |[c0],_=>exact b.2 0 _ _ rfl rfl
  |v0::v1::r,b=>
   simp at a;subst a;have k:f.toArray.size≠1:=by rw[fE,b.1];simp
   rw[dif_neg k];exact .tup (by simpa using b.1) λX d v i o=>b.2 X d v i q!
def O0(n0:Nat)(v:AY)(H:Az)(v2:AY)(H2:Az):Prop:=
 n0<=H2.length/\ ∀(X:Nat->Prop) (h:Gh) (w:World) (c:Value),JN X h H w->Bp (cx X h H w) v c->
  ∃h2,JN X h2 H2 w/\Bp (cx X h2 H2 w) v2 c/\(∀id,id<n0->h2.gen id=h.gen id/\h2.io id=h.io id/\h2.cap id=h.cap id)/\ ∀B,owned h2 H2 B->owned h H B
def O0.refl(v:AY)(H:Az)(hn:N<=H.length):O0 N v H v H:=⟨hn,λ_ h _ _ s r=>⟨h,s,r,λ_ _=>⟨rfl,rfl,rfl⟩,λ_ h=>h⟩⟩
def AIl(P:Program)(fn:Func)(n0:Nat)(Q:AY->Az->Prop):Exit->Env->Az->Prop
 | .normal,env,H| .ret,env,H=> ∃v v2 H2,jE P fn env H=some v/\O0 n0 v H v2 H2/\Q v2 H2
 |_,_,_=>False
def env0:Nat->List AY->Env
 |_,[]=>[]
 |i,v::r=>(i,v)::env0 (i+1) r
theorem yi{t:Nat}{v:AY}: ∀{i:Nat} {l:List AY},(t,v)∈env0 i l->i<=t/\l[t-i]? =some v
 |i,u::r,h=>by simp only[env0,A8]at h;rcases h with⟨rfl,rfl⟩|h;simp;obtain⟨a,b⟩:=yi h;grind
theorem mQ{y:Option (List Deferred)}(b:w.heap[N]? =some (.deferred l))(B a:Nat):(w.putObj N (.deferred y)).cell? ⟨B,a,none⟩=w.cell? ⟨B,a,none⟩:=by grind[World.cell?,World.putObj_heap_same,World.putObj_heap_other]
def JN.shut(s:JN c h H w){x y:Option (List Deferred)}(J:w.heap[N]? =some (.deferred x)):
  (cx c h H w).Later (cx c h H (w.putObj N (.deferred y)))/\JN c h H (w.putObj N (.deferred y)):=by
 have C:(cx c h H w).Later (cx c h H (w.putObj N (.deferred y))):=⟨by simp[cx],λB _ _ G=>mQ J B G,λ_ _ h=>h,Am _,λ_ _=>Am _,λ_ _ _=>⟨rfl,rfl⟩⟩
 have d: ∀{B:Nat} {o:Obj},w.heap[B]? =some o->(∀z,o≠ .deferred z)->(w.putObj N (.deferred y)).heap[B]? =some o:=by intro B o a F;by_cases i:B=N;subst i;rw[J]at a;injection a with e;exact(F x e.symm).elim;rw[World.putObj_heap_other i,a]
 refine⟨C,λB a=>⟨by simpa using(s.out B a).1,(s.out B a).2⟩,λid g K l=>?_,λid L l=>?_,s.inj,s.bldKeep λid e l _=>⟨l,rfl,rfl,rfl,λB o _ a F=>(d a F).trans a.symm⟩⟩;obtain⟨A,n⟩:=s.live id g K l;refine⟨A,?_⟩;rcases n with⟨hn,rfl⟩|⟨B,p,T,M,f,X,q,k,E,u,b⟩;exact .inl ⟨hn,rfl⟩;refine .inr ⟨B,p,T,M,f,X,d q (λz=>k!),k,E,u,λj v U=>?_⟩;obtain⟨V,W,Y⟩:=b j v U;exact⟨V,W,Y.later C⟩;obtain⟨A,B,r,X,q,D,O,P,Q,R,S,I⟩:=s.lp id L l;exact⟨A,B,r,X,d q (λz=>k!),D,O,P,Q,R,S,λt v m=>⟨(I t v m).1,(I t v m).2.later C⟩⟩
theorem Ha.shut(x:Ha h H w O R A){y z:Option (List Deferred)}(d:w.heap.size<=N)(e:A.heap[N]? =some (.deferred z)):Ha h H w O R (A.putObj N (.deferred y))where
 os:=x.os
 tape:=x.tape
 output:=x.output
 size:=by simpa using x.size
 keep B hB hn:=by rw[World.putObj_heap_other o!];exact x.keep B hB hn
 n:=x.n
 gen:=x.gen
 same:=x.same
 fresh:=x.fresh
 loops B r hB:=by obtain⟨f,O⟩:=x.loops B r hB;grind[World.putObj_heap_other]
def oy{P:Program}{A:Func}{N:Nat}{X:Nat→Prop}{g h:Gh}{H b p:Az}{z:World}{v t:AY}{f:Env}{a:Act}{Q:AY→Az→Prop}(o:jE P A f b=some v)(j:O0 H.length v b t p)(B:Q t p):
  ∀(i:List Deferred) (w:World),i.Nodup->(∀d∈i,∃D,d={target:=.collected D,args:= #[]}/\z.heap.size<=D/\w.heap[D]? =some (.deferred (some [])))->
   St X h N f b a w->Ha g H z h b w->
   LeavesInM Fence.wide 0 P A a.tmps (λe u=> ∃c v h b,e= .returned c/\Q v b/\JN X h b u/\Bp (cx X h b u) v c/\Ha g H z h b u) i .returning w
 |[],w,_,_,s,x=>by obtain⟨c,m,l⟩:=ACl s o;obtain⟨J,n,r,I,K⟩:=j.2 X h w c s.sim l;exact⟨c,m,c,t,J,p,rfl,B,n,r,Fv.ext rfl j.1 I K x⟩
 |d::i,w,hnd,hds,s,x=>by obtain⟨D,rfl,G,q⟩:=hds d k!;simp only[Gc]at hnd;refine⟨k!,.inl ⟨D,_,rfl,run_takeDeferred q,?_⟩⟩;have C:=s.sim.shut (y:=none) q;refine oy o j B i _ hnd.2 (λF k=>?_) ⟨C.2,s.env.later C.1,s.size⟩ (x.shut G q);obtain⟨E,rfl,o,j⟩:=hds F (CQ _ k);refine⟨E,rfl,o,?_⟩;rw[World.putObj_heap_other,j];rintro rfl;exact hnd.1 k
theorem J4(c:P.funcs[E]? =some I)(C:I.body=some n)(hn:e.length≤I.ntmps)
  (F:M2 P I.ntmps n (env0 0 e) H (AIl P I H.length u)):EM P E e H u:=by
 intro X g w a s M hr;have D:Oz (cx X g H w) (env0 0 e) {tmps:=a++Array.replicate (I.ntmps-a.size) undef,defers:=[]}:=by
  intro t v m;obtain⟨_,N⟩:=yi m;have G:t<e.length:=q!
  have L:a[t]? =some (a[t]' o!):=N2 o!;have:(a++Array.replicate (I.ntmps-a.size) undef).getD t undef=a[t]' o!:=by simp_all[Ye]
  grind
 refine(callsIn_wide (n:=0)).1 (callsIn_of_wp_marks c C trivial (wpIn_mono (F none X g {tmps:=a++Array.replicate (I.ntmps-a.size) undef,defers:=[]} w ⟨s,D,w!⟩ (λl O=>by cases O)) ?_));rintro O z i ⟨Q,j,d,q,J,K,A,B,y,x⟩;have k: ∀v h f,jE P I j d=some v->O0 H.length v d h f->u h f->LeavesInM Fence.wide 0 P I z.tmps (λO i=> ∃n v Q d,O= .returned n/\u v d/\JN X Q d i/\Bp (cx X Q d i) v n/\Ha g H w Q d i) z.defers .returning i:=by intro v h f o p r;rw[B,D4];exact oy o p r A i y x J K
 cases O with
 |normal=>obtain⟨v,h,f,o,p,r⟩:=q;exact k v h f o p r
 |ret=>obtain⟨v,h,f,o,p,r⟩:=q;exact k v h f o p r
 |_=>exact q.elim
def Enters(P:Program)(F:FuncId):Bool:=
 match P.funcs[F]? with
 |some fn=>fn.body.isSome&& !(fn.name== "runtime.NumGoroutine")
 |none=>false
def ic(h:Enters P E=true)(args:Array Value)(w:World):(callFunc E args).run P w= .ok (.enter E args) w:=by unfold Enters at h;split at h;rename_i a c;unfold callFunc;cases b:a.body<;>simp_all;cases h
def FU.ren(ρ:Nat->Nat):FU->FU
 | .dead=>.dead
 | .live g cs=>.live g (AY.renL ρ cs)
 | .lp L=>.lp {L with env:=L.env.map λp=>(p.1,p.2.ren ρ)}
 | .mp k es=>.mp k es
 | .it n s=>.it n s
def FU.idsAll(p:Nat->Bool):FU->Bool
 | .dead=>true
 | .live _ cs=>AY.idsAllL p cs
 | .lp L=>L.env.all λq=>q.2.idsAll p
 | .mp _ _=>true
 | .it _ _=>true
def Zz(H:Az)(bs:List Nat):Az:=bs.map λb=>(H.getD b .dead).ren (bs.idxOf ·)
def TZ(H:Az)(bs:List Nat)(j:Nat):Nat:=if j<bs.length then bs.getD j 0 else H.length+(j-bs.length)
def bq(ρ:Nat->Nat):Az->List Nat->Az->Az
 |H,b::bs,e::es=>bq ρ (H.set b (e.ren ρ)) bs es
 |H,_,_=>H
def Vf(H:Az)(bs:List Nat)(Hc:Az):Az:=bq (TZ H bs) H bs Hc++(Hc.drop bs.length).map (FU.ren (TZ H bs))
def TH(c:Nat->Nat): ∀(bs:List Nat) (H a:Az),(bq c H bs a).length=H.length
 |[],H,a=>by cases a<;>rfl
 |b::bs,H,[]=>rfl
 |b::bs,H,e::es=>by simp only[bq];rw[TH c bs];simp
def ig(c:Nat->Nat){id:Nat}: ∀(bs:List Nat) (H a:Az),id∉bs->(bq c H bs a)[id]? =H[id]?
 |[],H,a,_=>by cases a<;>rfl
 |b::bs,H,[],_=>rfl
 |b::bs,H,e::es,h=>by simp only[A8,not_or]at h;simp only[bq];rw[ig c bs _ _ h.2,Dw (λe=>h.1 e.symm)]
def wS(a:Nat->Nat): ∀(bs:List Nat) (H c:Az) (j b:Nat),bs.Nodup->bs[j]? =some b->b<H.length->bs.length<=c.length->(bq a H bs c)[b]? =(c[j]?).map (FU.ren a)
 |[],_,_,_,_,_,hj,_,_=>by simp at hj
 |b0::bs,H,[],_,_,_,_,_,hl=>by simp at hl
 |b0::bs,H,e::es,j,b,hnd,hj,hb,hl=>by
  simp only[Gc]at hnd;simp only[bq];cases j with
  |zero=>simp at hj;subst hj;rw[ig a bs _ _ hnd.1];simp[hb]
  |succ j=>simp at hj;rw[wS a bs _ es j b hnd.2 hj (by simpa using hb) (by simpa using hl)];simp
def ou(h:N∈r):r.idxOf N<r.length:=List.idxOf_lt_length_of_mem h
theorem iQ(h:N∈r):r[r.idxOf N]? =some N:=q!
theorem qR(a:r.Nodup)(h:r[N]? =some t):r.idxOf t=N:=q!
section
variable {X:Nat->Prop} {h:Gh} {H:Az} {w:World} {bs:List Nat}
mutual
theorem rK: ∀v:AY,v.idsAll (λ_=>true)=true
 | .itp _ _=>rfl
 | .ptr _ _ _=>rfl
 | .sl _ _ _ _ _=>rfl
 | .yf _=>rfl
 | .mp _=>rfl
 | .vptr c=>Pd c
 | .vs _ d=>Pd d
 | .fn _ a b=>by simp only[AY.idsAll,Pd a,Pd b,YI]
 | .agg c=>Pd c
 | .tup c=>Pd c
 | .bool _| .int _ _| .str _| .nilp| .nils| .nilf| .any=>rfl
theorem Pd: ∀l:List AY,AY.idsAllL (λ_=>true) l=true
 |[]=>rfl
 |v::r=>by simp only[AY.idsAllL,rK v,Pd r,YI]
end
def Xs(X:Nat->Prop)(h:Gh)(H:Az)(bs:List Nat)(B:Nat):Prop:=X B\/ ∃id e,id∉bs/\H[id]? =some e/\e≠FU.dead/\h.io id=some B
def XA(h:Gh)(bs:List Nat):Gh:=⟨λj=>(bs[j]?).bind h.io,λj=>((bs[j]?).map h.gen).getD 0,λj=>((bs[j]?).map h.cap).getD 0⟩
def zT:m.ren z= .dead↔m= .dead:=by cases m<;>simp[FU.ren]
theorem mE(d:(Zz H bs)[N]? =some m)(c:m≠ .dead): ∃b a,bs[N]? =some b/\H[b]? =some a/\a≠ .dead/\m=a.ren (bs.idxOf ·):=by grind[Zz,FU.ren]
theorem AEl(j:(Zz H bs)[N]? =some (FU.live t e)): ∃b a,bs[N]? =some b/\H[b]? =some (FU.live t a)/\e=AY.renL (bs.idxOf ·) a:=by obtain⟨b,d,h,f,_,i⟩:=mE j k!;cases d<;>grind[FU.ren]
theorem eT(d:owned (XA h bs) (Zz H bs) N): ∃b e,b∈bs/\H[b]? =some e/\e≠FU.dead/\h.io b=some N:=by obtain⟨j,e,f,c,a⟩:=d;grind[mE,XA]
theorem xt(x:Nat)(c:decide (x∈bs)=true)(_:x<(cx X h H w).n):
  bs.idxOf x<(cx (Xs X h H bs) (XA h bs) (Zz H bs) w).n/\(cx (Xs X h H bs) (XA h bs) (Zz H bs) w).gen (bs.idxOf x)=(cx X h H w).gen x/\(cx (Xs X h H bs) (XA h bs) (Zz H bs) w).io (bs.idxOf x)=(cx X h H w).io x/\(cx (Xs X h H bs) (XA h bs) (Zz H bs) w).cap (bs.idxOf x)=(cx X h H w).cap x:=by
 have a:x∈bs:=q!
 have b:=iQ a;refine⟨by simpa[cx,Zz]using ou a,?_,?_,?_⟩<;>simp[cx,XA,b]
def AEm(B:Nat)(a:(cx (Xs X h H bs) (XA h bs) (Zz H bs) w).O B):(cx X h H w).O B:=by rcases a with(a|⟨id,e,_,d,c,f⟩)|a;exact .inl a;exact .inr ⟨id,e,d,c,f⟩;obtain⟨b,e,_,d,c,f⟩:=eT a;exact .inr ⟨b,e,d,c,f⟩
theorem Pj{w:World}(h:w.heap[N]? =some M):N<w.heap.size:=q!
theorem JN.io_at(s:JN X h H w)(c:H[N]? =some m)(p:m≠ .dead)(b:h.io N=some t):t<w.heap.size:=by
 cases m with
 |dead=>grind
 |live g l=>obtain⟨_,hn|⟨d,i,T,B,f,a,j,_⟩⟩:=s.live N g l c;rw[show(cx X h H w).io N=h.io N from rfl,b]at hn;grind;rw[show(cx X h H w).io N=h.io N from rfl,b]at a;injection a with m;subst m;exact Pj j
 |lp L=>obtain⟨_,d,r,a,j,_⟩:=s.lp N L c;rw[show(cx X h H w).io N=h.io N from rfl,b]at a;injection a with m;subst m;exact Pj j
 |mp k q=>obtain⟨d,i,e,_,o,_⟩:=s.bld N _ c rfl;grind[Pj]
 |it n seen=>obtain⟨d,e,_,o⟩:=s.bld N _ c rfl;grind[Pj]
def dU:(m.ren z).isB=m.isB:=by cases m<;>rfl
def BAt.ren{h h':Gh}{w w':World}{id id':Nat}{ρ:Nat->Nat}(b:BAt h w id m)(g:h'.io id'=h.io id)(a:h'.gen id'=h.gen id)(f:h'.cap id'=h.cap id)(l: ∀B (o:Obj),h.io id=some B->w.heap[B]? =some o->w'.heap[B]? =w.heap[B]?):BAt h' w' id' (m.ren ρ):=by
 cases m with
 |mp k p=>obtain⟨B,i,c,j,d,e⟩:=b;exact⟨B,i,g.trans c,a.trans j,(l B _ c d).trans d,e⟩
 |it n seen=>obtain⟨B,c,j,d⟩:=b;exact⟨B,g.trans c,a.trans j,by rw[f];exact(l B _ c d).trans d⟩
 |_=>trivial
theorem JN.sub(s:JN X h H w)(K:bs.Nodup)(hb: ∀b∈bs,((H.getD b .dead).idsAll λid=>decide (id∈bs))=true):JN (Xs X h H bs) (XA h bs) (Zz H bs) w where
 out B n:=by have M: ¬(∃b e,b∈bs/\H[b]? =some e/\e≠FU.dead/\h.io b=some B)-> ¬owned (XA h bs) (Zz H bs) B:=λhn ho=>hn (eT ho);rcases n with n|⟨id,e,Z,d,o,k⟩;exact⟨(s.out B n).1,M λ⟨b,e,_,d,o,k⟩=>(s.out B n).2 ⟨b,e,d,o,k⟩⟩;exact⟨s.io_at d o k,M λ⟨b,e',hm,x,Q,C⟩=>Z (s.inj id b e e' B d x o Q k C▸hm)⟩
 live j g cs hj:=by
  obtain⟨b,A,a,D,rfl⟩:=AEl hj;obtain⟨Y,J⟩:=s.live b g A D;refine⟨by simpa[cx,XA,a]using Y,?_⟩;rcases J with⟨hn,rfl⟩|⟨B,N,T,fz,f,y,c,G,ad,W,l⟩;exact .inl ⟨by simpa[cx,XA,a]using hn,rfl⟩;refine .inr ⟨B,N,T,fz,f,by simpa[cx,XA,a]using y,c,by simpa[cx,XA,a]using G,by rw[Ol,B5];exact ad,W,?_⟩;intro i v z;rw[Ol,CE]at z;cases hu:A[i]? with
  |none=>rw[hu]at z;cases z
  |some u=>rw[hu]at z;simp only[Bn,Al]at z;subst z;obtain⟨d,k,x⟩:=l i u hu;refine⟨d,k,Bp.ren (p:=λid=>decide (id∈bs)) (λid=>xt id) rfl AEm x ?_⟩;have:=hb b (BU a);grind[M0,FU.idsAll]
 lp j L hj:=by
  obtain⟨b,P,a,D,o,I⟩:=mE hj k!;cases P with
  |dead=>exact(o rfl).elim
  |live g cs=>simp[FU.ren]at I
  |mp=>simp[FU.ren]at I
  |it=>simp[FU.ren]at I
  |lp L0=>simp only[FU.ren,FU.lp.injEq]at I;subst I;obtain⟨Y,B,r,y,c,d,k,x,C,h5,h6,h7⟩:=s.lp b L0 D;refine⟨by simpa[cx,XA,a]using Y,B,r,by simpa[cx,XA,a]using y,c,d,k,x,C,h5,h6,λt v m=>?_⟩;obtain⟨q,hq,e⟩:=Bl.1 m;simp only[EK]at e;obtain⟨rfl,rfl⟩:=e;refine⟨(h7 q.1 q.2 hq).1,Bp.ren (p:=λid=>decide (id∈bs)) (λid=>xt id) rfl AEm (h7 q.1 q.2 hq).2 ?_⟩;have:=hb b (BU a);grind[FU.idsAll,List.all_eq_true]
 inj i i' e e' B d k hn1 hn2 x C:=by obtain⟨b,c0,E,R,U,_⟩:=mE d hn1;obtain⟨b',O,F,S,V,_⟩:=mE k hn2;have e:=s.inj b b' c0 O B R S U V (by simpa[XA,E]using x) (by simpa[XA,F]using C);subst e;rw[<-qR K E,<-qR K F]
 bld j e hj n:=by obtain⟨b,P,a,D,o,rfl⟩:=mE hj (by rintro rfl;cases n);rw[dU]at n;exact(s.bld b P D n).ren (by simp[XA,a]) (by simp[XA,a]) (by simp[XA,a]) (λ_ _ _ _=>rfl)
def Nl(h:Gh)(H:Az)(bs:List Nat)(hc:Gh):Gh:=
 let pick {α:Type} (f fc:Nat->α) (id:Nat):α:=if id∈bs then fc (bs.idxOf id)else if id<H.length then f id else fc (bs.length+(id-H.length))
 ⟨pick h.io hc.io,pick h.gen hc.gen,pick h.cap hc.cap⟩
def mi:(Vf H bs R).length=H.length+(R.length-bs.length):=by simp[Vf,TH]
def ZH(h:bs.Nodup)(k:bs.length≤R.length)(a:(Vf H bs R)[N]? =some m):
  (N∉bs/\N<H.length/\H[N]? =some m)\/ ∃j f,N=TZ H bs j/\R[j]? =some f/\m=f.ren (TZ H bs):=by
 unfold Vf at a;rcases Au N H.length with b|b;rw[CL (by rw[TH];exact b)]at a;by_cases g:N∈bs;have i:=iQ g;rw[wS _ bs H R _ N h i b k]at a;cases d:R[bs.idxOf N]? with
 |none=>rw[d]at a;cases a
 |some f=>rw[d]at a;simp only[Bn,Al]at a;refine .inr ⟨bs.idxOf N,f,?_,d,a.symm⟩;unfold TZ;rw[if_pos (ou g),Ra,i];rfl
 rw[ig _ bs H R g]at a;exact .inl ⟨g,b,a⟩;rw[Cb (by rw[TH];exact b),TH,CE,Ja]at a;cases d:R[bs.length+(N-H.length)]? with
 |none=>rw[d]at a;cases a
 |some f=>rw[d]at a;simp only[Bn,Al]at a;refine .inr ⟨_,f,?_,d,a.symm⟩;unfold TZ;rw[if_neg o!];omega
theorem cJ{hc:Gh}(f:bs.Nodup)(a: ∀b∈bs,b<H.length)(j:Nat)(g:j<R.length):
  TZ H bs j<(Vf H bs R).length/\(Nl h H bs hc).gen (TZ H bs j)=hc.gen j/\(Nl h H bs hc).io (TZ H bs j)=hc.io j/\(Nl h H bs hc).cap (TZ H bs j)=hc.cap j:=by
 rw[mi];unfold TZ;split;grind[Nl];have c:H.length+(j-bs.length)∉bs:=λc=>by have:=a _ c;omega
 have e:bs.length+(H.length+(j-bs.length)-H.length)=j:=o!
 simp only[Nl,c,if_false,show¬(H.length+(j-bs.length)<H.length)from by omega,e,and_true];omega
theorem nU(c:bs.Nodup)(k: ∀b∈bs,b<H.length)(r:bs.length≤R.length)(s:owned (Nl h H bs O) (Vf H bs R) N):
  (∃id e,id∉bs/\H[id]? =some e/\e≠FU.dead/\h.io id=some N)\/owned O R N:=by
 obtain⟨id,e,o,l,a⟩:=s;rcases ZH c r o with⟨u,p,t⟩|⟨j,m,rfl,q,d⟩;grind[Nl];have i:j<R.length:=q!
 rw[(cJ (h:=h) (hc:=O) c k j i).2.2.1]at a;exact .inr ⟨j,m,q,λn=>l (d.trans (zT.2 n)),a⟩
theorem Ha.back(l:bs.Nodup)(k: ∀b∈bs,b<H.length)(x:Ha (XA h bs) (Zz H bs) w O R A):Ha h H w (Nl h H bs O) (Vf H bs R) A:=by
 have r:bs.length<=R.length:=by have:=x.n;simpa[Zz]using this
 refine⟨x.os,x.tape,x.output,x.size,λB p hn=>x.keep B p λa=>?_,?_,?_,?_,?_,x.loops⟩;obtain⟨b,e,_,g,f,i⟩:=eT a;exact hn ⟨b,e,g,f,i⟩;rw[mi];omega;intro id c;by_cases d:id∈bs;have q:=iQ d;have:=x.gen (bs.idxOf id) (by simpa[Zz]using ou d);grind[Nl,XA];simp[Nl,d,c];intro id c;by_cases d:id∈bs;have q:=iQ d;have:=x.same (bs.idxOf id) (by simpa[Zz]using ou d);grind[Nl,XA];simp[Nl,d,c];intro B a;rcases nU l k r a with⟨id,e,_,g,f,i⟩|a;exact .inl ⟨id,e,g,f,i⟩;rcases x.fresh B a with a|a;obtain⟨b,e,_,g,f,i⟩:=eT a;exact .inl ⟨b,e,g,f,i⟩;grind
def Bp.back(g:bs.Nodup)(f: ∀e∈bs,e<H.length)(l:bs.length≤R.length)
  (r:Bp (cx (Xs X h H bs) O R w) d b):Bp (cx X (Nl h H bs O) (Vf H bs R) w) (d.ren (TZ H bs)) b:=by
 refine Bp.ren (x:=cx (Xs X h H bs) O R w) (y:=cx X (Nl h H bs O) (Vf H bs R) w) (ρ:=TZ H bs) (p:=λ_=>true) (λj _ k=>cJ (h:=h) (hc:=O) g f j k) rfl (λB a=>?_) r (rK d);rcases a with a|a;exact .inl (.inl a);rcases nU g f l a with a|a;exact .inl (.inr a);exact .inr a
theorem JN.back(s:JN X h H w)(l:bs.Nodup)(z: ∀b∈bs,b<H.length)(x:Ha (XA h bs) (Zz H bs) w O R A)
  (sc:JN (Xs X h H bs) O R A):JN X (Nl h H bs O) (Vf H bs R) A:=by
 have Y:bs.length<=R.length:=by have:=x.n;simpa[Zz]using this
 have xb:=Ha.back (h:=h) l z x;have M: ∀{id:Nat} {e:FU} {B:Nat} {o:Obj},id∉bs->H[id]? =some e->e≠ .dead->h.io id=some B->w.heap[B]? =some o->A.heap[B]? =some o:=by intro id e B o y E al c d;refine(x.keep B (Pj d) λho=>?_).trans d;obtain⟨b,e',ao,I,h0,S⟩:=eT ho;exact y (s.inj id b e e' B E I al h0 c S▸ao)
 have lt: ∀{j:Nat} {D:FU},R[j]? =some D->j<R.length:=by intro j D F;rcases Au j R.length with C|C;exact C;grind[List.getElem?_eq_none]
 refine⟨λB N=>⟨C7 (s.out B N).1 x.size,λho=>?_⟩,λid g cs U=>?_,λid L U=>?_,λid ap e e' B G C ad ag I S=>?_,λid e U N=>?_⟩;rcases nU l z Y ho with⟨id,e,_,G,h0,C⟩|ho;exact(s.out B N).2 ⟨id,e,G,h0,C⟩;exact(sc.out B (.inl N)).2 ho;rcases ZH l Y U with⟨y,k,E⟩|⟨j,D,rfl,F,a⟩;obtain⟨W,K⟩:=s.live id g cs E;refine⟨by simpa[cx,Nl,y,k]using W,?_⟩;rcases K with⟨hn,rfl⟩|⟨B,Q,T,fz,f,c,d,J,Z,V,p⟩;exact .inl ⟨by simpa[cx,Nl,y,k]using hn,rfl⟩;refine .inr ⟨B,Q,T,fz,f,by simpa[cx,Nl,y,k]using c,M y E k! c d,by simpa[cx,Nl,y,k]using J,Z,V,λi v P=>?_⟩;obtain⟨G,C,I⟩:=p i v P;exact⟨G,C,I.later (xb.later X)⟩;cases D with
 |dead=>simp[FU.ren]at a
 |lp L=>simp[FU.ren]at a
 |mp=>simp[FU.ren]at a
 |it=>simp[FU.ren]at a
 |live g0 n=>
  simp only[FU.ren,FU.live.injEq]at a;obtain⟨rfl,rfl⟩:=a;obtain⟨_,r1,r2,r3⟩:=cJ (h:=h) (hc:=O) l z j (lt F);obtain⟨W,K⟩:=sc.live j g n F;refine⟨r1.trans W,?_⟩;rcases K with⟨hn,rfl⟩|⟨B,Q,T,fz,f,c,d,J,Z,V,p⟩;exact .inl ⟨r2.trans hn,rfl⟩;refine .inr ⟨B,Q,T,fz,f,r2.trans c,d,J.trans r3.symm,by rw[Ol,B5];exact Z,V,λi v P=>?_⟩;rw[Ol,CE]at P;cases hu:n[i]? with
  |none=>rw[hu]at P;cases P
  |some u=>rw[hu]at P;simp only[Bn,Al]at P;subst P;obtain⟨G,C,I⟩:=p i u hu;exact⟨G,C,Bp.back l z Y I⟩
 rcases ZH l Y U with⟨y,k,E⟩|⟨j,D,rfl,F,a⟩;obtain⟨W,B,r,c,d,G,C,I,S,h5,h6,h7⟩:=s.lp id L E;exact⟨by simpa[cx,Nl,y,k]using W,B,r,by simpa[cx,Nl,y,k]using c,M y E k! c d,G,C,I,S,h5,h6,λt v m=>⟨(h7 t v m).1,(h7 t v m).2.later (xb.later X)⟩⟩;cases D with
 |dead=>simp[FU.ren]at a
 |live g0 n=>simp[FU.ren]at a
 |mp=>simp[FU.ren]at a
 |it=>simp[FU.ren]at a
 |lp L0=>simp only[FU.ren,FU.lp.injEq]at a;subst a;obtain⟨_,r1,r2,r3⟩:=cJ (h:=h) (hc:=O) l z j (lt F);obtain⟨W,B,r,c,d,G,C,I,S,h5,h6,h7⟩:=sc.lp j L0 F;refine⟨r1.trans W,B,r,r2.trans c,d,G,C,I,S,h5,h6,λt v m=>?_⟩;obtain⟨q,hq,e⟩:=Bl.1 m;simp only[EK]at e;obtain⟨rfl,rfl⟩:=e;exact⟨(h7 q.1 q.2 hq).1,Bp.back l z Y (h7 q.1 q.2 hq).2⟩
 have key: ∀{id:Nat} {e:FU},(Vf H bs R)[id]? =some e→e≠ .dead→(Nl h H bs O).io id=some B→
   (id∉bs/\H[id]? =some e/\h.io id=some B)\/ ∃j D,id=TZ H bs j/\R[j]? =some D/\D≠ .dead/\O.io j=some B:=by
  intro id e U al c;rcases ZH l Y U with⟨y,k,E⟩|⟨j,D,rfl,F,a⟩;exact .inl ⟨y,E,by simpa[Nl,y,k]using c⟩;exact .inr ⟨j,D,rfl,F,λh0=>al (a.trans (zT.2 h0)),by rw[<-(cJ (h:=h) (hc:=O) l z j (lt F)).2.2.1];exact c⟩
 rcases key G ad I with⟨m1,a1,b1⟩|⟨j1,g1,e1,a1,d1,b1⟩<;>rcases key C ag S with⟨m2,a2,b2⟩|⟨j2,g2,e2,a2,d2,b2⟩;exact s.inj _ _ _ _ B a1 a2 ad ag b1 b2;exact((sc.out B (.inr ⟨_,_,m1,a1,ad,b1⟩)).2 ⟨j2,g2,a2,d2,b2⟩).elim;exact((sc.out B (.inr ⟨_,_,m2,a2,ag,b2⟩)).2 ⟨j1,g1,a1,d1,b1⟩).elim;rw[e1,e2,sc.inj _ _ _ _ B a1 a2 d1 d2 b1 b2];rcases ZH l Y U with⟨y,k,E⟩|⟨j,D,rfl,F,rfl⟩;have b:=s.bld id e E N;have a:e.ren (λx=>x)=e:=by cases e<;>simp_all[FU.ren,FU.isB]
 have:=b.ren (h':=Nl h H bs O) (w':=A) (id':=id) (ρ:=λx=>x) (by simp[Nl,y,k]) (by simp[Nl,y,k]) (by simp[Nl,y,k]) (λB o c hb=>(M y E (by rintro rfl;cases N) c hb).trans hb.symm);rwa [a]at this;rw[dU]at N;obtain⟨_,r1,r2,r3⟩:=cJ (h:=h) (hc:=O) l z j (lt F);exact(sc.bld j D F N).ren r2 r1 r3 (λ_ _ _ _=>rfl)
end
def oH(env:Env)(c:Call)(first caps:List AY):List AY:=first++c.args.toList.map (BJ env)++caps
def fI(P:Program)(s f:Nat):Option (Nat×TypeId×Nat):=
 match P.underlying s with
 |some (.struct fs)=>
  match fs[f]? with
  |some fd=>
   match tI P fd.type with
   |some (_,n)=>some (fd.offset,fd.type,n)
   |none=>none
  |none=>none
 |_=>none
def eI(P:Program)(t:TypeId):Option (Option Nat×TypeId×Nat):=
 match P.underlying t with
 |some (.array len e)=>(tI P e).map λi=>(some len,e,i.2)
 |some (.slice e)=>(tI P e).map λi=>(none,e,i.2)
 |_=>none
inductive Kd where
 |bool|int (k:IntKind)|str|bytes|other
 deriving DecidableEq
def kd(P:Program)(t:TypeId):Kd:=
 match P.underlying t with
 |some .bool=>.bool
 |some (.int k)=>.int k
 |some .string=>.str
 |some (.slice e)=>match P.underlying e with|some (.int .u8)=>.bytes|_=>.other
 |_=>.other
def Tm(H:Az)(id g:Nat):Bool:=
 match H[id]? with
 |some (.live g' _)=>g'==g
 |_=>false
def JN.cur{w:World}(s:JN X h H w)(a:Tm H N t=true):h.gen N=t:=by unfold Tm at a;split at a;rename_i c b d;have:=(s.live N c b d).1;simp at a;exact this.trans a;cases a
def shift(H:Az)(k:Nat):AY->Option AY
 | .ptr id g off=>if Tm H id g then some (.ptr id g (off+k))else none
 | .vptr cs=>if k<=cs.length then some (.vptr (cs.drop k))else none
 |_=>none
theorem wU(s:JN c h H w)(r:Bp (cx c h H w) d b)(k:shift H N d=some p):
  ∃B a,b= .pointer (some ⟨B,a,none⟩)/\Bp (cx c h H w) p (.pointer (some ((⟨B,a,none⟩:Addr).add N))):=by
 cases r with
 | @ptr id g a b e o t l=>simp only[shift]at k;split at k;rename_i X;simp at k;subst k;obtain⟨B,i,rfl⟩:=l (s.cur X);refine⟨B,a,rfl,.ptr e o rfl λ_=>⟨B,i,by rw[O4]⟩⟩;cases k
 | @vptr q B a f n m l x=>simp only[shift]at k;split at k;simp at k;subst k;refine⟨B,a,rfl,?_⟩;rw[O4];refine .vptr (λj=>f (N+j)) n m (λj d v=>?_) λj d v=>?_;grind;grind;cases k
 |_=>grind[shift]
def WU(P:Program)(H:Az)(s f:Nat)(v:AY):Option AY:=
 match fI P s f with
 |some (off,_,n)=>if n=0 then none else shift H off v
 |none=>none
def vE(sim:JN c h H w)(r:Bp (cx c h H w) d b)(X:WU P H N t d=some p):
  ∃i,(Instr.fieldAt N b t).run P w= .ok i w/\Bp (cx c h H w) p i:=by
 unfold WU at X;split at X;rename_i k s n a;split at X;cases X;rename_i hn;obtain⟨B,o,rfl,hr⟩:=wU sim r X;unfold fI at a;split at a;rename_i v g;split at a;rename_i l e;split at a;rename_i f m j;obtain⟨rfl,rfl,rfl⟩:=a;refine⟨_,?_,hr⟩;simp[Instr.fieldAt,run_underlying g,e,Instr.sureAddr,fieldPlace,K7 j,hn];cases a;cases a;cases a;cases X
def Wa(P:Program)(H:Az)(t:TypeId)(v:AY)(i:AY):Option AY:=
 match eI P t,i with
 |some (some len,_,sz),.int _ i=>if 0<=i/\i<len then shift H (i.toNat*sz) v else none
 |some (none,_,sz),.int _ i=>
  match v with
  | .vs sz' rows=>if 0<=i/\sz=sz' then(rows[i.toNat]?).map λe=>.vptr e.cells else none
  | .sl id g sz' off len=>if 0<=i/\i<len/\sz=sz'/\Tm H id g=true then some (.ptr id g (off+i.toNat*sz))else none
  |_=>none
 |_,_=>none
theorem vI(sim:JN c h H w)(r:Bp (cx c h H w) d b)(T:Bp (cx c h H w) p B)
  (l:Wa P H a d p=some G): ∃O,(Instr.indexAt a b B).run P w= .ok O w/\Bp (cx c h H w) G O:=by
 unfold Wa at l;split at l;rename_i len e sz k n v;cases T;split at l;rename_i A;obtain⟨i,o,rfl,hr⟩:=wU sim r l;unfold eI at v;split at v;rename_i F y X;cases m:tI P y with
 |none=>rw[m]at v;cases v
 |some u=>rw[m]at v;simp only[Bn,Al,EK]at v;obtain⟨rfl,rfl,rfl⟩:=v;refine⟨_,?_,hr⟩;simp[Instr.indexAt,asIntOf,run_underlying X,Instr.sureAddr,A,K7 m]
 rename_i y X;cases m:tI P y<;>grind;cases v;cases l;rename_i e sz k n v;cases T;have X: ∃p,P.underlying a=some (.slice e)/\tI P e=some p/\p.2=sz:=by
  unfold eI at v;split at v;rename_i F y X;cases m:tI P y with
  |none=>rw[m]at v;cases v
  |some u=>rw[m]at v;simp at v
  rename_i y X;cases m:tI P y with
  |none=>rw[m]at v;cases v
  |some u=>rw[m]at v;simp only[Bn,Al,EK]at v;obtain⟨_,rfl,rfl⟩:=v;exact⟨u,X,m,rfl⟩
  cases v
 obtain⟨u,X,m,rfl⟩:=X;cases r with
 | @vs N q t cap f C Y S W Z=>
  simp only at l;split at l;rename_i A;obtain⟨Q,rfl⟩:=A;cases x:q[n.toNat]? with
  |none=>rw[x]at l;cases l
  |some R=>
   rw[x]at l;simp only[Bn,Al]at l;subst l;have s:n.toNat<q.length:=by rcases Au n.toNat q.length with I|I;exact I;rw[Cc I]at x;cases x
   obtain⟨i,z,rfl,V,U,J⟩:=W (by intro e;rw[e]at s;simp at s);refine⟨.pointer (some ⟨i,z+n.toNat*u.2,none⟩),?_,.vptr (λj=>f n.toNat j) V U (λj d M=>?_) λj d M=>Z _ R _ d x M⟩;have E:n<q.length:=o!
   simp[Instr.indexAt,asIntOf,run_underlying X,Q,E,K7 m,O4];have:=J _ R j d x M;rw[fG];exact this
  cases l
 | @sl id g N z len b K x h1 J=>simp only at l;split at l;rename_i A;obtain⟨Q,s,rfl,D⟩:=A;simp only[Al]at l;subst l;rcases J (sim.cur D)with⟨_,hl,_,_⟩|⟨i,cap,L,C,_,rfl⟩;omega;refine⟨.pointer (some ⟨i,z+n.toNat*u.2,none⟩),?_,.ptr K x rfl λ_=>⟨i,L,rfl⟩⟩;simp[Instr.indexAt,asIntOf,run_underlying X,Q,s,K7 m,O4];cases l
 |_=>cases l
 cases l
def ua(P:Program)(t:TypeId)(cs:List AY)(off:Nat):Option AY:=
 match tI P t with
 |some (true,n)=>if off+n<=cs.length then some (.agg ((cs.drop off).take n))else none
 |some (false,_)=>cs[off]?
 |none=>none
theorem zM{P:Program}{w:World}(l:i.size=e.length)(o: ∀(j:Nat) (c:Value),i[j]? =some c→c.oneCell'=true)
  (m: ∀(j:Nat) (v:AY) (c:Value),e[j]? =some v->i[j]? =some c->Bp f v c) (x:ua P a e N=some d): ∃c,(part a i N).run P w= .ok c w/\Bp f d c:=by
 unfold ua at x;split at x;rename_i n t;split at x;rename_i b;simp at x;subst x;refine⟨.agg (i.extract N (N+n)),by simp[part,YT t,K7 t],.agg w! (λj c h=>?_) λj v c h g=>?_⟩;grind[Array.getElem?_extract];grind;cases x;rename_i n t;have k:N<e.length:=q!
 have g:i[N]? =some (i[N]' o!):=N2 o!;exact⟨_,by simp[part,YT t,g],m N d _ x g⟩;cases x
def tW(P:Program)(s f:Nat)(v:AY):Option AY:=
 match fI P s f,v with
 |some (off,t,_),.agg cs=>ua P t cs off
 |_,_=>none
def ACN(r:Bp f d b)(x:tW P N t d=some p): ∃v,(Instr.field N b t).run P w= .ok v w/\Bp f p v:=by
 unfold tW at x;split at x;rename_i o s n i a;cases r with
 | @agg i j g k m=>obtain⟨v,l,hr⟩:=zM (P:=P) (w:=w) g k m x;unfold fI at a;split at a;rename_i q h;split at a;rename_i u e;split at a;simp at a;obtain⟨rfl,rfl,rfl⟩:=a;exact⟨v,by simp[Instr.field,run_underlying h,e,asAgg,l],hr⟩;cases a;cases a;cases a
 cases x
def kz(P:Program)(t:TypeId)(v i:AY):Option AY:=
 match v,i with
 | .agg cs,.int _ i=>
  match eI P t with
  |some (some len,e,sz)=>if 0<=i/\i<len then ua P e cs (i.toNat*sz)else none
  |_=>none
 | .str s,.int _ i=>if kd P t= .str/\0<=i then(s[i.toNat]?).map λb=>.int .u8 b.toNat else none
 |_,_=>none
theorem uH{P:Program}(h:kd P a= .str):P.underlying a=some .string:=by unfold kd at h;grind
theorem AHP(h:kd P a= .int D):P.underlying a=some (.int D):=by unfold kd at h;grind
theorem ACR(r:Bp f d b)(i:Bp f p B)(t:kz P a d p=some G): ∃u,(Instr.index a b B).run P w= .ok u w/\Bp f G u:=by
 unfold kz at t;split at t;rename_i C k n;cases i;split at t;rename_i len e sz x;split at t;rename_i g;cases r with
 | @agg C D m F J=>
  obtain⟨u,q,hr⟩:=zM (P:=P) (w:=w) m F J t;unfold eI at x;split at x;rename_i A E o;cases z:tI P E with
  |none=>grind
  |some c=>rw[z]at x;simp only[Bn,Al,EK]at x;obtain⟨rfl,rfl,rfl⟩:=x;exact⟨u,by simp[Instr.index,asIntOf,run_underlying o,g,K7 z,q],hr⟩
  simp_all;cases x
 cases t;cases t;rename_i s k n;cases i;cases r with
 | @str s h I=>
  split at t;rename_i g;subst I;cases y:h.data.toList[n.toNat]? with
  |none=>grind
  |some v=>
   rw[y]at t;simp only[Bn,Al]at t;subst t;have j:h[n.toNat]? =some v:=by
    obtain⟨H,x⟩:=Kf.1 y;have l:n.toNat<h.size:=by simpa using H
    rw[getElem?_pos h n.toNat l];exact congrArg some x
   exact⟨.int .u8 v.toNat,by simp[Instr.index,asIntOf,run_underlying (uH g.1),g.2,j],.int _ _⟩
  cases t
 cases t
def ACu(P:Program)(g:TypeId->Option (List Kd)):List Field->Nat->Option (List Kd)
 |[],_=>some []
 |f::r,off=>
  if f.offset=off/\(f.name== "_")=false then
   match g f.type with
   |some ks=>if ks.length=P.cellsOf f.type then(ACu P g r (off+ks.length)).map (ks++ ·)else none
   |none=>none
  else none
def wz(P:Program):Nat->TypeId->Option (List Kd)
 |0,_=>none
 |d+1,t=>
  match P.underlying t with
  |some .bool=>some [.bool]
  |some (.int k)=>some [.int k]
  |some .string=>some [.str]
  |some (.array n e)=>
   match wz P d e with
   |some ks=>if ks.length=P.cellsOf e/\(P.info? e).isSome then some (List.replicate n ks).flatten else none
   |none=>none
  |some (.struct fs)=>if P.stoodInHeld t then none else ACu P (wz P d) fs.toList 0
  |_=>none
def AAR:Kd->AY->Bool
 | .bool,.bool _=>true
 | .int k,.int k' _=>decide (k=k')
 | .str,.str _=>true
 |_,_=>false
def typed:List Kd->List AY->Bool
 |[],[]=>true
 |k::ks,v::vs=>AAR k v&&typed ks vs
 |_,_=>false
def sEq:AY->AY->Bool
 | .bool a,.bool b=>a==b
 | .int _ a,.int _ b=>a==b
 | .str a,.str b=>a==b
 |_,_=>false
def vD:List AY->List AY->Bool
 |[],[]=>true
 |a::as,b::bs=>sEq a b&&vD as bs
 |_,_=>false
variable {C:List Kd}
def YH{b:List Kd}: ∀{a:List AY},typed (C++b) a=true->typed C (a.take C.length)=true/\typed b (a.drop C.length)=true:=by
 induction C with
 |nil=>intro a h;exact⟨by simp[typed],by simpa using h⟩
 |cons k f e=>
  intro a h;cases a with
  |nil=>simp[typed]at h
  |cons v a=>simp only[cA,typed,BO]at h;obtain⟨c,d⟩:=e h.2;exact⟨by simp[typed,h.1,c],by simpa using d⟩
def GW: ∀{a:List Kd} {b:List AY},typed a b=true->b.length=a.length
 |[],[],_=>rfl
 |_::_,_::_,h=>by simp only[typed,BO]at h;simp[GW h.2]
 |[],_::_,h=>by simp[typed]at h
 |_::_,[],h=>by simp[typed]at h
def qD: ∀(n:Nat) (c bs:List AY),c.length=bs.length->vD c bs=(vD (c.take n) (bs.take n)&&vD (c.drop n) (bs.drop n))
 |0,c,bs,_=>by simp[vD]
 |n+1,[],[],_=>by simp[vD]
 |n+1,a::c,b::bs,h=>by simp only[Cu,Nat.add_right_cancel_iff]at h;simp only[vD,List.take_succ_cons,List.drop_succ_cons,qD n c bs h,Bool.and_assoc]
 |n+1,[],_::_,h=>by simp at h
 |n+1,_::_,[],h=>by simp at h
def Over(P:Program)(x:Cx)(t:TypeId)(as:List AY)(a:Value):Prop:=
 ∃(b:Bool) (n:Nat) (cs:List Value),tI P t=some (b,n)/\as.length=n/\mn x as cs/\(if b then a= .agg cs.toArray else cs=[a])
def EqF(P:Program)(d:Nat)(t:TypeId)(ks:List Kd):Prop:=
 ∀(w:World) (x:Cx) (a b:Value) (as bs:List AY),Over P x t as a->Over P x t bs b->typed ks as=true->typed ks bs=true->(Op.equalIn d t a b).run P w= .ok (vD as bs) w
def lw{P:Program}{off n:Nat}{w:World}(hr:mn f e x)(h:tI P a=some (s,n))(m:s=false→n=1)(o:off+n≤e.length):
  ∃t,(part a x.toArray off).run P w= .ok t w/\Over P f a ((e.drop off).take n) t:=by
 have d:mn f ((e.drop off).take n) ((x.drop off).take n):=by refine⟨by simp[hr.1],λj v c g i=>?_⟩;rw[cF]at g i;split at g;rename_i k;rw[if_pos k]at i;rw[Ja]at g i;exact hr.2 _ v c g i;cases g
 cases s with
 |true=>refine⟨.agg (x.toArray.extract off (off+n)),by simp[part,YT h,K7 h],true,n,(x.drop off).take n,h,w!,d,?_⟩;simp only[if_true,Value.agg.injEq];apply Array.toList_inj.1;simp only[Array.toList_extract,vS,Yc]
 |false=>
  obtain rfl:=m rfl;have l:off<x.length:=by rw[hr.1];omega
  refine⟨x[off],by simp[part,YT h,l],false,1,(x.drop off).take 1,h,w!,d,?_⟩;rw[if_neg k!,RY l];rfl
def nY{d:Nat}(h:wz P d a=some C): ∃b,tI P a=some (b,P.cellsOf a)/\(b=false->C.length=1):=by
 cases d with
 |zero=>simp[wz]at h
 |succ d=>
  unfold wz at h;unfold tI Program.cellsOf;cases f:P.info? a with
  |none=>
   have t:P.underlying a=none:=by simp[Program.underlying,f]
   rw[t]at h;cases h
  |some i=>
   cases t:P.underlying a with
   |none=>rw[t]at h;cases h
   |some c=>rw[t]at h;refine⟨_,rfl,?_⟩;cases c<;>simp_all<;>(subst h;rfl)
def zW{P:Program}{d:Nat}{g:TypeId→Option (List Kd)}(C: ∀t i,g t=some i→EqF P d t i∧ ∃b,tI P t=some (b,P.cellsOf t)∧(b=false→i.length=1)){x:Cx}{w:World}{l bs:List AY}{H I:List Value}
  (A:mn x l H) (B:mn x bs I) (j:l.length=bs.length): ∀(m:List Field) (h:Nat) (i:List Kd),ACu P g m h=some i->h<=l.length->typed i (l.drop h)=true->typed i (bs.drop h)=true->(Op.eqFields d H.toArray I.toArray m).run P w= .ok (vD (l.drop h) (bs.drop h)) w
 |[],h,i,hk,_,ta,tb=>by simp only[ACu,Al]at hk;subst hk;have J:=GW ta;have K:=GW tb;rw[EL J,EL K];simp[Op.eqFields,vD]
 |f::m,h,i,hk,ho,ta,tb=>by
  simp only[ACu]at hk;split at hk;rename_i L;obtain⟨rfl,k⟩:=L;split at hk;rename_i k1 u;split at hk;rename_i o;cases hr:ACu P g m (f.offset+k1.length)with
  |none=>rw[hr]at hk;cases hk
  |some N=>
   rw[hr]at hk;simp only[Bn,Al]at hk;subst hk;obtain⟨q,y⟩:=YH ta;obtain⟨r,z⟩:=YH tb;obtain⟨s,b,D,n⟩:=C _ _ u;have E:=GW q;have O:=GW r;have v:f.name≠ "_" :=by simpa using k
   obtain⟨a,Q,F⟩:=lw (P:=P) (w:=w) (off:=f.offset) A D (λe=>o▸n e) (by rw[<-o];simp at E;omega);obtain⟨c,R,G⟩:=lw (P:=P) (w:=w) (off:=f.offset) B D (λe=>o▸n e) (by rw[<-o];simp at O;omega);rw[<-o]at F G;have p:=s w x a c _ _ F G q r;have M:=zW C (w:=w) A B j m (f.offset+k1.length) N hr (by simp at E;omega) (by simpa[MG]using y) (by simpa[MG]using z);rw[qD k1.length _ _ (by simp[j])];simp only[Op.eqFields,if_pos v,Sem.run_bind,Q,R,p,Result.andThen_ok];cases vD ((l.drop f.offset).take k1.length) ((bs.drop f.offset).take k1.length);simp;simp only[Cg,P2,if_false,Bool.true_and,M,MG]
  cases hk;cases hk;cases hk
def wP{P:Program}{d:Nat}{e:TypeId}{f:List Kd}(o:EqF P d e f){b:Bool}(s:tI P e=some (b,f.length))(j:b=false→f.length=1){x:Cx}{w:World}{h bs:List AY}{z A:List Value}
  (u:mn x h z) (v:mn x bs A) (g:h.length=bs.length): ∀(n i:Nat),i*f.length<=h.length->typed (List.replicate n f).flatten (h.drop (i*f.length))=true->typed (List.replicate n f).flatten (bs.drop (i*f.length))=true->(Op.eqItems d e f.length z.toArray A.toArray (List.range' i n)).run P w= .ok (vD (h.drop (i*f.length)) (bs.drop (i*f.length))) w
 |0,i,_,ta,tb=>by have B:=GW ta;have C:=GW tb;rw[EL (l:=h.drop _) (by simpa using B),EL (l:=bs.drop _) (by simpa using C)];simp[Op.eqItems,vD]
 |n+1,i,ho,ta,tb=>by
  rw[ms,pe]at ta tb;obtain⟨q,k⟩:=YH ta;obtain⟨r,m⟩:=YH tb;have y:=GW q;have E:=GW r;obtain⟨a,H,F⟩:=lw (P:=P) (w:=w) (off:=i*f.length) u s j (by simp at y;omega);obtain⟨c,I,G⟩:=lw (P:=P) (w:=w) (off:=i*f.length) v s j (by simp at E;omega);have p:=o w x a c _ _ F G q r;rw[MG]at k m;have t:i*f.length+f.length=(i+1)*f.length:=by rw[FG];omega
  rw[t]at k m;have D:=wP o s j (w:=w) u v g n (i+1) (by simp at y;omega) k m;rw[qD f.length _ _ (by simp[g]),MG,MG,t];rw[List.range'_succ];simp only[Op.eqItems,Sem.run_bind,H,I,p,Result.andThen_ok];cases vD ((h.drop (i*f.length)).take f.length) ((bs.drop (i*f.length)).take f.length);simp;simp[D]
def w9{P:Program}(d:Nat): ∀(m:Nat) (t:TypeId) (y:List Kd),wz P m t=some y->EqF P (d+m) t y
 |0,_,_,h=>by simp[wz]at h
 |m+1,t,y,h=>by
  obtain⟨bt,T,_⟩:=nY h;intro w x a b F bs X Y o p;obtain⟨O,n1,xs,c,U,ra,j⟩:=X;obtain⟨Z,n2,ys,r,V,E,l⟩:=Y;rw[c]at r;simp only[Al,EK]at r;obtain⟨rfl,rfl⟩:=r;have I:=GW o;have J:=GW p;have g: ∀q,P.underlying t=some q->O=(match q with| .struct _| .array _ _=>true|_=>false):=by intro q S;unfold tI at c;rw[S]at c;split at c;rename_i G;injection G with e;subst e;simp only[Al,EK]at c;exact c.1.symm;cases c
  unfold wz at h;split at h;rename_i f;simp only[Al]at h;subst h;have:=g _ f;simp only at this;subst this;simp only[P2,if_false]at j l;subst j l;match F,I,bs,J with
  |[u],_,[v],_=>have C:=ra.2 0 u a rfl rfl;have D:=E.2 0 v b rfl rfl;simp only[typed,P1]at o p;cases u<;>simp[AAR]at o;cases v<;>simp[AAR]at p;cases C;cases D;rw[show d+(m+1)=(d+m)+1 from rfl,run_equalIn_bool' w (d+m) t _ _ f];simp[vD,sEq]
  rename_i k f;simp only[Al]at h;subst h;have:=g _ f;simp only at this;subst this;simp only[P2,if_false]at j l;subst j l;match F,I,bs,J with
  |[u],_,[v],_=>have C:=ra.2 0 u a rfl rfl;have D:=E.2 0 v b rfl rfl;simp only[typed,P1]at o p;cases u<;>simp[AAR]at o;cases v<;>simp[AAR]at p;cases C;cases D;subst o p;rw[show d+(m+1)=(d+m)+1 from rfl,run_equalIn_int w (d+m) t _ _ _ _ f];simp[vD,sEq]
  rename_i f;simp only[Al]at h;subst h;have:=g _ f;simp only at this;subst this;simp only[P2,if_false]at j l;subst j l;match F,I,bs,J with
  |[u],_,[v],_=>
   have C:=ra.2 0 u a rfl rfl;have D:=E.2 0 v b rfl rfl;simp only[typed,P1]at o p;cases u<;>simp[AAR]at o;cases v<;>simp[AAR]at p;cases C with
   |str s1 Q=>
    cases D with
    |str s2 R=>subst Q R;rw[show d+(m+1)=(d+m)+1 from rfl,run_equalIn_string w (d+m) t _ _ f];simp[vD,sEq,ByteArray.toList_eq]
  rename_i n e f;split at h;rename_i k1 A;split at h;rename_i H;simp only[Al]at h;subst h;have:=g _ f;simp only at this;subst this;simp only[if_true]at j l;subst j l;obtain⟨N,s⟩:=fK.1 H.2;obtain⟨b,L,B⟩:=nY A;rw[<-H.1]at L;have i:=wP (w9 d m e k1 A) L B (w:=w) ra E o! n 0 k! (by simpa using o) (by simpa using p);rw[show d+(m+1)=(d+m)+1 from rfl,run_equalIn_array w (d+m) _ _ f s,<-H.1,List.range_eq_range'];simpa using i;cases h;cases h;rename_i K f;split at h;cases h;rename_i W;have:=g _ f;simp only at this;subst this;simp only[if_true]at j l;subst j l;have z:P.fieldsOf t=K:=by simp[Program.fieldsOf,f]
  have i:=zW (d:=d+m) (λt y M=>⟨w9 d m t y M,nY M⟩) (w:=w) ra E o! K.toList 0 y h k! (by simpa using o) (by simpa using p);rw[show d+(m+1)=(d+m)+1 from rfl,run_equalIn_struct w (d+m) t _ _ (by rw[z];exact f) (by simpa using W),z];simpa using i;cases h
def ph(op:BinOp)(k:IntKind)(a b:Int):Option AY:=
 match op with
 | .add=>some (.int k (k.wrap (a+b)))
 | .sub=>some (.int k (k.wrap (a-b)))
 | .mul=>some (.int k (k.wrap (a*b)))
 | .quo=>if b=0 then none else some (.int k (k.wrap (a.tdiv b)))
 | .rem=>if b=0 then none else some (.int k (a.tmod b))
 | .and=>some (.int k (k.wrap (BitVec.ofInt k.bits a&&&BitVec.ofInt k.bits b).toNat))
 | .or=>some (.int k (k.wrap (BitVec.ofInt k.bits a|||BitVec.ofInt k.bits b).toNat))
 | .xor=>some (.int k (k.wrap (BitVec.ofInt k.bits a^^^BitVec.ofInt k.bits b).toNat))
 | .andNot=>some (.int k (k.wrap (BitVec.ofInt k.bits a&&& ~~~BitVec.ofInt k.bits b).toNat))
 | .eql=>some (.bool (a==b))
 | .neq=>some (.bool (a !=b))
 | .lss=>some (.bool (decide (a<b)))
 | .leq=>some (.bool (decide (a<=b)))
 | .gtr=>some (.bool (decide (a>b)))
 | .geq=>some (.bool (decide (a>=b)))
 | .shl| .shr=>none
def zy{k b:Int}(w:World)(h:ph F D k b=some d): ∃c,(binOp F a (.int D k) (.int D b)).run P w= .ok c w/\Bp f d c:=by
 cases F<;>simp only[ph]at h<;>(try split at h)<;>first
  |cases h;done
  |(simp at h;subst h;first
    |exact⟨_,by simp[binOp,Op.intArith,Op.intDiv,Op.intBits, *],.int _ _⟩
    |exact⟨_,by simp[binOp,Op.intCmp],.bool _⟩)
def lF(op:BinOp)(k:IntKind)(a b:Int):Option AY:=
 if b<0 then none else
 match op with
 | .shl=>some (.int k (k.wrap (a*2^min b.toNat k.bits)))
 | .shr=>some (.int k (a.fdiv (2^min b.toNat k.bits)))
 |_=>none
def ADV(P:Program)(t:TypeId):Option (List Kd):=
 if P.eqGuardType P.depth t then none else
 match wz P 12 t with
 |some ks=>if tI P t=some (true,ks.length)then some ks else none
 |none=>none
def wk(op:BinOp)(a b:List UInt8):Option AY:=
 match op with
 | .add=>if a.length+b.length<=9223372036854775807 then some (.str (a++b))else none
 | .eql=>some (.bool (a==b))
 | .neq=>some (.bool (a !=b))
 | .lss=>some (.bool (Op.bytesLess a b))
 | .leq=>some (.bool (Op.bytesLess a b||a==b))
 | .gtr=>some (.bool (!(Op.bytesLess a b||a==b)))
 | .geq=>some (.bool (!Op.bytesLess a b))
 |_=>none
def yO(P:Program)(op:BinOp)(t:TypeId)(x y:AY):Option AY:=
 match x,y with
 | .int k a,.int k' b=>
  match op with
  | .shl| .shr=>lF op k a b
  |_=>if k=k' then ph op k a b else none
 | .bool a,.bool b=>
  match op with
  | .eql=>if kd P t= .bool then some (.bool (a==b))else none
  | .neq=>if kd P t= .bool then some (.bool (!(a==b)))else none
  |_=>none
 | .str a,.str b=>wk op a b
 | .agg as,.agg bs=>
  match ADV P t with
  |some ks=>
   if typed ks as=true/\typed ks bs=true then
    match op with
    | .eql=>some (.bool (vD as bs))
    | .neq=>some (.bool (!vD as bs))
    |_=>none
   else none
  |none=>none
 |_,_=>none
theorem ABg(h:kd P a= .bool):P.underlying a=some .bool:=by unfold kd at h;grind
def toList_data(t:ByteArray):t.toList=t.data.toList:=ByteArray.toList_eq t
def AFC(w:World)(ra:Bp f d b)(A:Bp f p B)(h:yO P F a d p=some G):
  ∃c,(do eqGuard F a k L b B;binOp F a b B:Sem Value).run P w= .ok c w/\Bp f G c:=by
 unfold yO at h;split at h;rename_i x n T U;cases ra;cases A;have m:(eqGuard F a k L (.int x n) (.int T U)).run P w= .ok () w:=by unfold eqGuard;cases F<;>simp
 simp only[Sem.run_bind,m,Result.andThen_ok];split at h;unfold lF at h;split at h;cases h;rename_i C;simp only[Al]at h;subst h;exact⟨_,by simp[binOp,Op.shift,C],.int _ _⟩;unfold lF at h;split at h;cases h;rename_i C;simp only[Al]at h;subst h;exact⟨_,by simp[binOp,Op.shift,C],.int _ _⟩;simp_all[zy];rename_i u q;cases ra;cases A;have m:(eqGuard F a k L (.bool u) (.bool q)).run P w= .ok () w:=by unfold eqGuard;cases F<;>simp
 simp only[Sem.run_bind,m,Result.andThen_ok];split at h;split at h;rename_i I;simp only[Al]at h;subst h;exact⟨_,run_eql_bool w a u q (ABg I),.bool _⟩;cases h;split at h;rename_i I;simp only[Al]at h;subst h;refine⟨_,?_,.bool _⟩;simp only[binOp];simp[run_equal_bool w a u q (ABg I)];cases h;cases h
 ·rename_i s1 s2;cases ra with
  |str s t=>
   cases A with
   |str z O=>
    have m:(eqGuard F a k L (.string s) (.string z)).run P w= .ok () w:=by unfold eqGuard;cases F<;>simp
    simp only[Sem.run_bind,m,Result.andThen_ok];subst t O;unfold wk at h;split at h;split at h;rename_i S;simp only[Al]at h;subst h;have o: ¬(((s.size+z.size:Nat):Int)>IntKind.i64.max):=by
     have Z:s.data.toList.length=s.size:=k!
     have e2:z.data.toList.length=z.size:=k!
     have K:IntKind.i64.max=9223372036854775807:=g!
     rw[K];omega
    exact⟨.string (s++z),by simp only[binOp];simp only[Op.stringOp,if_neg o];rfl,.str _ k!⟩;cases h;all_goals first
     |cases h;done
     |(simp only[Al]at h
       subst h;exact⟨_,by simp only[binOp];simp[Op.stringOp,toList_data,bne],.bool _⟩)
 rename_i y bs;cases ra with
 | @agg y b V M Y=>
  cases A with
  | @agg bs B W N vb=>
   split at h;rename_i ks e;unfold ADV at e;split at e;cases e;rename_i X;split at e;rename_i J E;split at e;rename_i r;simp only[Al]at e;subst e;split at h;rename_i i;have g:=w9 (P:=P) 9988 12 a J E;have Q:=GW i.1;have R:=GW i.2;have l:(Op.equalIn 10000 a (.agg b) (.agg B)).run P w= .ok (vD y bs) w:=
    g w f (.agg b) (.agg B) y bs ⟨true,_,b.toList,r,o!,⟨by simpa using V,λj v c H D=>Y j v c H (by simpa using D)⟩,k!⟩
     ⟨true,_,B.toList,r,o!,⟨by simpa using W,λj v c H D=>vb j v c H (by simpa using D)⟩,k!⟩ i.1 i.2
   have m:(eqGuard F a k L (.agg b) (.agg B)).run P w= .ok () w:=run_eqGuard_agg w F a k L b B (by simpa using X);simp only[Sem.run_bind,m,Result.andThen_ok];split at h;simp only[Al]at h;subst h;exact⟨_,by rw[run_eql_struct,l];rfl,.bool _⟩;simp only[Al]at h;subst h;exact⟨_,by rw[run_neq_struct,l];rfl,.bool _⟩;cases h;cases h;cases e;cases e;cases h
 cases h
def unV(op:UnOp)(v:AY):Option AY:=
 match op,v with
 | .neg,.int k n=>some (.int k (k.wrap (0-n)))
 | .xor,.int k n=>some (.int k (k.wrap (BitVec.ofInt k.bits (if k.signed then-1 else k.max)^^^BitVec.ofInt k.bits n).toNat))
 | .not,.bool b=>some (.bool !b)
 |_,_=>none
def AHv{v:UnOp}(w:World)(r:Bp f d b)(h:unV v d=some p): ∃a,(Op.unary v b).run P w= .ok a w/\Bp f p a:=by unfold unV at h;split at h;cases r;simp at h;subst h;exact⟨_,by simp[Op.unary,Op.intArith],.int _ _⟩;cases r;simp at h;subst h;exact⟨_,by simp only[Op.unary];rfl,.int _ _⟩;cases r;simp at h;subst h;exact⟨_,by simp[Op.unary],.bool _⟩;cases h
def rowsOf(H:Az):AY->Option (List AY)
 | .vs sz rows=>if sz=1 then some (rows.flatMap AY.cells)else none
 | .sl id g sz off len=>
  match H[id]? with
  |some (.live g' cs)=>if g=g'/\sz=1/\off+len<=cs.length then some ((cs.drop off).take len)else none
  |_=>none
 | .nils=>some []
 |_=>none
def u8s:List AY->Option (List UInt8)
 |[]=>some []
 | .int .u8 n::r=>(u8s r).map (UInt8.ofNat n.toNat:: ·)
 |_=>none
def Xe(P:Program)(H:Az)(src dst:TypeId)(v:AY):Option AY:=
 match kd P dst,v with
 | .int k,.int _ n=>if(P.underlying src).isSome then some (.int k (k.wrap n))else none
 | .str,.str s=>if(P.underlying src).isSome then some (.str s)else none
 | .str,v=>
  if kd P src= .bytes then
   match rowsOf H v with
   |some cs=>(u8s cs).map AY.str
   |none=>none
  else none
 |_,_=>none
theorem qj{sz:Nat}: ∀{rows:List AY},(∀(j:Nat) (e:AY),rows[j]? =some e->e.cells.length=sz)->(rows.flatMap AY.cells).length=rows.length*sz
 |[],_=>k!
 |e::r,h=>by have b:=h 0 e rfl;have d:=qj (rows:=r) λj a c=>h (j+1) a q!;grind
theorem flat_get{sz:Nat}(c:0<sz): ∀{rows:List AY},(∀(j:Nat) (e:AY),rows[j]? =some e→e.cells.length=sz)→ ∀(i:Nat) (v:AY),(rows.flatMap AY.cells)[i]? =some v→
  ∃e,rows[i/sz]? =some e/\e.cells[i%sz]? =some v
 |e::r,h,i,v,hi=>by
  have d:=h 0 e rfl;simp at hi;rcases Au i sz with f|a;grind[Nat.div_eq_of_lt,Nat.mod_eq_of_lt];rw[Cb o!,d]at hi;obtain⟨b,l,m⟩:=flat_get c (rows:=r) (λj b n=>h (j+1) b q!) (i-sz) v hi;have g:i/sz=(i-sz)/sz+1:=by rw[<-Nat.add_div_right _ c,Nat.sub_add_cancel a]
  have k:i%sz=(i-sz)%sz:=by rw[<-Nat.add_mod_right (i-sz),Nat.sub_add_cancel a]
  grind
def AAx{P:Program}(s:JN c h H w)(r:Bp (cx c h H w) d b)(hr:rowsOf H d=some e):
  ∃a n cap V,b= .slice a n cap/\n=e.length/\mn (cx c h H w) e V/\((a=none/\n=0)\/ ∃C,a=some C/\(loadCells C n).run P w= .ok V.toArray w):=by
 cases r with
 |nils=>simp only[rowsOf,Al]at hr;subst hr;exact⟨none,0,0,[],rfl,rfl,⟨rfl,λ_ _ _ h=>by cases h⟩,.inl ⟨rfl,rfl⟩⟩
 | @vs sz v a cap f D ap m Z hv=>
  simp only[rowsOf]at hr;split at hr;rename_i R;subst R;simp only[Al]at hr;subst hr;have l:=qj m;rw[Nat.mul_one]at l;cases v with
  |nil=>
   cases a with
   |none=>exact⟨none,0,cap,[],rfl,rfl,⟨rfl,λ_ _ _ h=>by cases h⟩,.inl ⟨rfl,rfl⟩⟩
   |some C=>exact⟨some C,0,cap,[],rfl,rfl,⟨rfl,λ_ _ _ h=>by cases h⟩,.inr ⟨C,rfl,by simp[loadCells,loadCellsFrom]⟩⟩
  |cons Y I=>
   obtain⟨B,i,rfl,hO,hB,L⟩:=Z k!;generalize Y::I=v at*;refine⟨_,v.length,cap,(List.range v.length).map λj=>f j 0,rfl,l.symm,⟨by simp[l],λj d X A o=>?_⟩,.inr ⟨_,rfl,?_⟩⟩;obtain⟨K,p,E⟩:=flat_get o! m j d A;rw[Nat.div_one]at p;rw[Nat.mod_one]at E;have t:j<v.length:=by rcases Au j v.length with y|y;exact y;rw[Cc y]at p;cases p
   rw[CE,Rb t]at o;simp only[Bn,Al]at o;subst o;exact hv j K 0 d p E;have:=run_loadCells (P:=P) w ⟨B,i,none⟩ v.length (λj=>f j 0) λj A=>by have J:v[j]? =some (v[j]):=A4 A;have hl:=m j _ J;have M:(v[j]).cells[0]? =some ((v[j]).cells[0]' o!):=A4 o!;rw[O4];have:=(L j _ 0 _ J M).1;simpa[cx]using this
   exact this
  cases hr
 | @sl id g sz i len b al hg R L=>
  simp only[rowsOf]at hr;split at hr;rename_i g' x J;split at hr;rename_i z;obtain⟨rfl,rfl,ao⟩:=z;simp only[Al]at hr;subst hr;obtain⟨G,F⟩:=s.live id g x J;rcases L G with⟨q,rfl,rfl,rfl⟩|⟨B,cap,q,D,N,rfl⟩;exact⟨none,0,0,[],rfl,k!,⟨k!,λ_ _ _ _ h=>by cases h⟩,.inl ⟨rfl,rfl⟩⟩;rcases F with⟨hn,_⟩|⟨Q,W,T,fz,f,u,hb,S,U,ag,k⟩;rw[hn]at q;cases q;have:Q=B:=by rw[q]at u;injection u with K;exact K.symm
  subst this;refine⟨_,len,cap,(List.range len).map λj=>f (i+j),rfl,w!,⟨w!,λj d X A o=>?_⟩,.inr ⟨_,rfl,?_⟩⟩;have t:j<len:=by rcases Au j len with y|y;exact y;rw[Cc (by simpa using y)]at o;cases o
  rw[cF,if_pos t,Ja]at A;rw[CE,Rb t]at o;simp only[Bn,Al]at o;subst o;exact(k _ d A).2.2;exact run_loadCells (P:=P) w ⟨Q,i,none⟩ len (λj=>f (i+j)) λj A=>by have O:x[i+j]? =some (x[i+j]' o!):=A4 o!;rw[O4,P5 (w:=w) hb];exact(k _ _ O).1
  cases hr;cases hr
 |_=>simp only[rowsOf]at hr;cases hr
theorem zf{x:Cx}: ∀{d:List AY} {b:List Value} {bs:List UInt8},mn x d b->u8s d=some bs-> ∃e:List Int,b=e.map (Value.int .u8)/\bs=e.map λn=>UInt8.ofNat n.toNat
 |[],b,bs,hr,hb=>by simp only[u8s]at hb;rw[EL hr.1];simp_all
 |v::d,b,bs,hr,hb=>by
  match b,hr with
  |u::b,hr=>
   have h:=hr.2 0 v u rfl rfl;have l:mn x d b:=⟨by have:=hr.1;simpa using this,λj a c p o=>hr.2 (j+1) a c q! q!⟩
   unfold u8s at hb;split at hb<;>rename_i f<;>(try cases f)<;>try (cases hb;done)
   cases k:u8s d with
   |none=>grind
   |some g=>obtain⟨e,i,m⟩:=zf l k;cases h;exact⟨_::e,by rw[i];rfl,q!⟩
def AAM(a:List Int): ∀s:ByteArray,(a.foldl (λr n=>r.push (UInt8.ofNat n.toNat)) s).data.toList=s.data.toList++a.map λn=>UInt8.ofNat n.toNat:=by induction a<;>simp_all
theorem ADw{P:Program}(h:kd P a= .bytes): ∃e,P.underlying a=some (.slice e)/\P.underlying e=some (.int .u8):=by unfold kd at h;grind
theorem ADc(s:JN c h H w)(r:Bp (cx c h H w) d b)(v:Xe P H a J d=some p):
  ∃y,(convert a J b).run P w= .ok y w/\Bp (cx c h H w) p y:=by
 unfold Xe at v;split at v;rename_i k I n j;split at v;rename_i i;obtain⟨C,i⟩:=fK.1 i;simp only[Al]at v;subst v;cases r;exact⟨_,by simp[convert,run_underlying i,run_underlying (AHP j),Conv.intToInt],.int _ _⟩;cases v;rename_i l j;split at v;rename_i i;obtain⟨C,i⟩:=fK.1 i;simp only[Al]at v;subst v;cases r with
 |str t F=>exact⟨_,by simp[convert,run_underlying i,run_underlying (uH j)],.str _ F⟩
 cases v;rename_i L j _;split at v;rename_i D;split at v;rename_i B u;cases q:u8s B with
 |none=>rw[q]at v;cases v
 |some bs=>
  rw[q]at v;simp only[Bn,Al]at v;subst v;obtain⟨e,m,z⟩:=ADw D;obtain⟨o,n,cap,K,rfl,hn,X,f⟩:=AAx (P:=P) s r u;obtain⟨x,rfl,rfl⟩:=zf X q;rcases f with⟨rfl,E⟩|⟨A,rfl,g⟩;have:x=[]:=by have G:=X.1;grind[List.length_map,List.eq_nil_of_length_eq_zero]
  subst this;exact⟨.string .empty,by simp[convert,run_underlying m,run_underlying (uH j),run_underlying z,Conv.bytesToString],.str _ rfl⟩;refine⟨_,?_,.str _ (AAM x ByteArray.empty)⟩;simp only[convert,Sem.run_bind,run_underlying m,run_underlying (uH j),run_underlying z,Result.andThen_ok];exact run_bytesToString w A n cap x (by simpa using g)
 cases v;cases v;cases v
def uL(P:Program)(H:Az)(t:TypeId)(v:AY):Option AY:=
 match P.underlying t,v with
 |some .string,.str s=>some (.int .i64 s.length)
 |some (.array n _),_=>some (.int .i64 n)
 |some (.slice _),.vs _ rows=>some (.int .i64 rows.length)
 |some (.slice _),.sl _ _ _ _ len=>some (.int .i64 len)
 |some (.slice _),.nils=>some (.int .i64 0)
 |_,_=>none
def AFh{P:Program}{w:World}{t ty:TypeId}(s:JN c h H w)(r:Bp (cx c h H w) d b)(v:uL P H t d=some p):
  ∃f,(Builtin.len_ #[t] ty #[b]).run P w= .ok f w/\Bp (cx c h H w) p f:=by
 unfold uL at v;split at v;rename_i u X;simp only[Al]at v;subst v;cases r with
 |str j m=>
  refine⟨.int .i64 j.size,by simp[Builtin.len_,run_underlying X,goInt],?_⟩;have:u.length=j.size:=by rw[<-m];simp
  rw[this];exact .int _ _
 rename_i n e X;simp only[Al]at v;subst v;exact⟨.int .i64 n,by simp[Builtin.len_,run_underlying X,goInt],.int _ _⟩;rename_i sz i X;simp only[Al]at v;subst v;cases r;exact⟨_,by simp[Builtin.len_,run_underlying X,goInt],.int _ _⟩;rename_i id g sz o len X;simp only[Al]at v;subst v;cases r with
 |sl l x k q=>obtain⟨a,cap,rfl⟩:=k;exact⟨_,by simp[Builtin.len_,run_underlying X,goInt],.int _ _⟩
 rename_i X;simp only[Al]at v;subst v;cases r;exact⟨_,by simp[Builtin.len_,run_underlying X,goInt],.int _ _⟩;cases v
def mmV(mx:Bool):List AY->Option AY
 |[.int k a,.int _ b]=>some (.int k (if mx then(if b>a then b else a)else(if b<a then b else a)))
 |_=>none
def AD8{P:Program}{w:World}{mx:Bool}{ts:Array TypeId}{ty:TypeId}(g:Bp f d b)(h:Bp f p B)(a:mmV mx [d,p]=some G):
  ∃x,((if mx then Builtin.max_ ts ty #[b,B]else Builtin.min_ ts ty #[b,B]):Sem Value).run P w= .ok x w/\Bp f G x:=by
 cases d<;>try (simp[mmV]at a;done)
 cases p<;>try (simp[mmV]at a;done)
 cases g;cases h;simp only[mmV,Al]at a;subst a;cases mx;exact⟨_,by simp[Builtin.min_,Builtin.min2],.int _ _⟩;exact⟨_,by simp[Builtin.max_,Builtin.max2],.int _ _⟩
def mm3:AY->AY->AY->Option AY
 | .int k a,.int _ b,.int _ c=>some (.int k (if c<(if b<a then b else a)then c else(if b<a then b else a)))
 |_,_,_=>none
def AFm{P:Program}{w:World}{ts:Array TypeId}{ty:TypeId}{u:AY}{e:Value}(i:Bp f d b)(j:Bp f p B)(k:Bp f G e)(a:mm3 d p G=some u):
  ∃x,(Builtin.min_ ts ty #[b,B,e]).run P w= .ok x w/\Bp f u x:=by
 unfold mm3 at a;split at a;cases i;cases j;cases k;simp at a;subst a;exact⟨_,by simp[Builtin.min_,Builtin.min2],.int _ _⟩;cases a
def uU:AY->Option Nat
 | .int _ i=>if 0<=i then some i.toNat else none
 |_=>none
def Xn(d:Nat):Option AY->Option Nat
 |none=>some d
 |some v=>uU v
def lG(P:Program)(H:Az)(t:TypeId)(v:AY)(lo hi mx:Option AY):Option AY:=
 match v with
 | .str s=>
  match Xn 0 lo,Xn s.length hi,mx with
  |some l,some h,none=>if kd P t= .str/\l<=h/\h<=s.length then some (.str ((s.drop l).take (h-l)))else none
  |_,_,_=>none
 | .vs sz rows=>
  match Xn 0 lo,Xn rows.length hi,Xn rows.length mx,eI P t with
  |some l,some h,some m,some (none,_,sz')=>if sz=sz'/\l<=h/\h<=m/\m<=rows.length/\(mx.isSome=true->hi.isSome=true)then some (.vs sz ((rows.drop l).take (h-l)))else none
  |_,_,_,_=>none
 | .sl id g sz off len=>
  match Xn 0 lo,Xn len hi,Xn len mx,eI P t with
  |some l,some h,some m,some (none,_,sz')=>
   if sz=sz'/\0<sz/\l<=h/\h<=m/\m<=len/\Tm H id g=true/\(mx.isSome=true->hi.isSome=true)then
    if l=0 then some (.sl id g sz off h)else if l=h then some (.vs sz [])else some (.sl id g sz (off+l*sz) (h-l))
   else none
  |_,_,_,_=>none
 | .nils=>
  match Xn 0 lo,Xn 0 hi,Xn 0 mx,eI P t with
  |some 0,some 0,some 0,some (none,_,_)=>if mx.isSome=true->hi.isSome=true then some .nils else none
  |_,_,_,_=>none
 |_=>none
theorem ACZ(r:Bp f d b)(h:uU d=some N): ∃k i,b= .int k i/\0<=i/\i.toNat=N:=by
 cases d<;>try (simp[uU]at h;done)
 cases r;grind[uU]
def run_sliceBound{P:Program}{w:World}{code:BoundsCode}(r:Bp f d b)(h:uU d=some N)(x:N<=t):(Instr.sliceBound b t code).run P w= .ok N w:=by
 obtain⟨k,i,rfl,a,rfl⟩:=ACZ r h;have:i<=t:=o!
 simp[Instr.sliceBound,asIntOf,a,this]
def ZL{P:Program}{w:World}{isSlice:Bool}{len cap l h m:Nat}{k j mx:Option AY}{e b cmx:Option Value}(i: ∀v,k=some v→ ∃c,e=some c∧Bp f v c)(g:k=none→e=none)
  (o: ∀v,j=some v-> ∃c,b=some c/\Bp f v c) (t:j=none->b=none) (z: ∀v,mx=some v-> ∃c,cmx=some c/\Bp f v c) (u:mx=none->cmx=none)
  (a:Xn 0 k=some l) (q:Xn len j=some h) (D:Xn len mx=some m) (s:l<=h) (E:h<=m) (J:m<=len) (K:len<=cap) (F:mx.isSome=true->j.isSome=true):
  (Instr.sliceBounds isSlice len cap e b cmx).run P w= .ok (l,h,if mx.isSome then m else cap) w:=by
 unfold Instr.sliceBounds;cases mx with
 |none=>
  obtain rfl:=u rfl;cases j with
  |none=>
   obtain rfl:=t rfl;simp only[Xn,Al]at q;subst q;cases k with
   |none=>obtain rfl:=g rfl;simp only[Xn,Al]at a;simp[a]
   |some v=>obtain⟨d,rfl,r⟩:=i v rfl;have n:=λc=>run_sliceBound (P:=P) (w:=w) (code:=c) r a s;simp[n]
  |some A=>
   obtain⟨B,rfl,y⟩:=o A rfl;have p:=λc=>run_sliceBound (P:=P) (w:=w) (code:=c) y q (show h<=cap by omega);cases k with
   |none=>obtain rfl:=g rfl;simp only[Xn,Al]at a;simp[a,p]
   |some v=>obtain⟨d,rfl,r⟩:=i v rfl;have n:=λc=>run_sliceBound (P:=P) (w:=w) (code:=c) r a s;simp[p,n]
 |some H=>
  obtain⟨I,rfl,G⟩:=z H rfl;have x:=F rfl;cases j with
  |none=>simp at x
  |some A=>
   obtain⟨B,rfl,y⟩:=o A rfl;have C:=λc=>run_sliceBound (P:=P) (w:=w) (code:=c) G D (show m<=cap by omega);have p:=λc=>run_sliceBound (P:=P) (w:=w) (code:=c) y q E;simp only[Sem.run_bind,C,p,Result.andThen_ok,Option.isSome_some,if_true];cases k with
   |none=>obtain rfl:=g rfl;simp only[Xn,Al]at a;simp[a]
   |some v=>obtain⟨d,rfl,r⟩:=i v rfl;have n:=λc=>run_sliceBound (P:=P) (w:=w) (code:=c) r a s;simp[n]
theorem Q5{P:Program}(t:eI P a=some (none,J,N)):P.underlying a=some (.slice J)/\ ∃b,tI P J=some (b,N):=by unfold eI at t;split at t;simp_all;rename_i c d;cases f:tI P c<;>grind;cases t
theorem ACr{lo V q:Option AY}{N L A:Option Value}(s:JN c h H w)(r:Bp (cx c h H w) d b)
  (K: ∀d,lo=some d-> ∃b,N=some b/\Bp (cx c h H w) d b) (G:lo=none->N=none)
  (J: ∀d,V=some d-> ∃b,L=some b/\Bp (cx c h H w) d b) (F:V=none->L=none) (R: ∀d,q=some d-> ∃b,A=some b/\Bp (cx c h H w) d b) (I:q=none->A=none)
  (X:lG P H a d lo V q=some p): ∃c',(Instr.sliceAt a b N L A).run P w= .ok c' w/\Bp (cx c h H w) p c':=by
 unfold lG at X;split at X;rename_i s';split at X;rename_i l u S O;split at X;rename_i o;obtain⟨hk,h1,U⟩:=o;simp only[Al]at X;subst X;obtain rfl:=I rfl;cases r with
 |str t' ht=>
  have x:s'.length=t'.size:=by rw[<-ht];simp
  rw[x]at O U;have o:=ZL (P:=P) (w:=w) (isSlice:=false) (len:=t'.size) (cap:=t'.size) (mx:=none) (cmx:=none) K G J F (λ_ h=>by cases h) (λ_=>rfl) S O rfl h1 U (Am _) (Am _) (λh=>by cases h);refine⟨.string (t'.extract l u),?_,.str _ ?_⟩;simp only[Instr.sliceAt,Instr.slice,Sem.run_bind,run_underlying (uH hk),Result.andThen_ok,Option.isSome_none,P2,if_false,o,Sem.run_pure];simp_all[vS]
 cases X;cases X;rename_i sz k;split at X;rename_i l u m e a0 S O Z he;split at X;rename_i o;obtain⟨rfl,h1,U,h3,h4⟩:=o;simp only[Al]at X;subst X;obtain⟨z,v,y⟩:=Q5 he;cases r with
 | @vs sz k t cap f C Y al ha X=>
  have o:=ZL (P:=P) (w:=w) (isSlice:=true) (len:=k.length) (cap:=cap) K G J F R I S O Z h1 U h3 C h4;have E: ∀{j:Nat} {e:AY},((k.drop l).take (u-l))[j]? =some e->k[l+j]? =some e:=q!
  have x:((k.drop l).take (u-l)).length=u-l:=w!
  refine⟨.slice (if(if q.isSome then m else cap)=l then t else t.map (·.add (l*sz))) (u-l) ((if q.isSome then m else cap)-l),?_,?_⟩;simp only[Instr.sliceAt,Instr.slice,Sem.run_bind,run_underlying z,Result.andThen_ok,o,K7 y,Sem.run_pure];have hM:u<=(if q.isSome then m else cap):=by split<;>omega
  generalize (if q.isSome then m else cap)=M at hM;have T:Bp (cx c h H w) (.vs sz ((k.drop l).take (u-l))) (.slice (if M=l then t else t.map (·.add (l*sz))) ((k.drop l).take (u-l)).length (M-l)):=?_;rw[x]at T;exact T;refine .vs (λj i=>f (l+j) i) (by rw[x];omega) Y (λj e hj=>al _ e (E hj)) (λa3=>?_) λj e i d hj V=>X _ e i d (E hj) V;have a2:l<u:=by rcases Au l u with h5|h5;exact h5;simp_all[EL]
  obtain⟨B,n,rfl,hO,hB,hc⟩:=ha (by intro e;rw[e]at h3;simp at h3;omega);refine⟨B,n+l*sz,?_,hO,hB,λj e i d hj V=>?_⟩;grind[O4];have:=hc _ e i d (E hj) V;rw[FG]at this;rw[show n+l*sz+(j*sz+i)=n+(l*sz+j*sz+i)from by omega];exact this
 cases X;cases X;rename_i id g sz n len;split at X;rename_i l u m e a0 S O Z he;split at X;rename_i o;obtain⟨rfl,Y,h1,U,h3,ad,h4⟩:=o;obtain⟨z,v,y⟩:=Q5 he;cases r with
 | @sl id g sz n len b W hg a1 hc=>
  rcases hc (s.cur ad)with⟨Q,rfl,rfl,rfl⟩|⟨B,cap,Q,C,D,rfl⟩;have o:=ZL (P:=P) (w:=w) (isSlice:=true) (len:=0) (cap:=0) K G J F R I S O Z h1 U h3 (Am _) h4;have ar:l=0:=o!
  have ap:u=0:=o!
  have ax:m=0:=o!
  subst ar ap ax;simp only[if_true,Al]at X;subst X;refine⟨.slice none 0 0,?_,.sl W hg ⟨_,_,rfl⟩ λ_=>.inl ⟨Q,rfl,rfl,rfl⟩⟩;simp only[Instr.sliceAt,Instr.slice,Sem.run_bind,run_underlying z,Result.andThen_ok,o,K7 y,Sem.run_pure];cases q<;>simp;have o:=ZL (P:=P) (w:=w) (isSlice:=true) (len:=len) (cap:=cap) K G J F R I S O Z h1 U h3 C h4
  have ao:(Instr.sliceAt a (.slice (some ⟨B,n,none⟩) len cap) N L A).run P w=
    .ok (.slice (if(if q.isSome then m else cap)=l then some ⟨B,n,none⟩else(some ⟨B,n,none⟩:Option Addr).map (·.add (l*sz))) (u-l) ((if q.isSome then m else cap)-l)) w:=by
   simp only[Instr.sliceAt,Instr.slice,Sem.run_bind,run_underlying z,Result.andThen_ok,o,K7 y,Sem.run_pure]
  refine⟨_,ao,?_⟩;have hM:u<=(if q.isSome then m else cap)/\(if q.isSome then m else cap)<=cap:=by split<;>omega
  generalize (if q.isSome then m else cap)=M at hM;split at X;rename_i hl;subst hl;simp only[Al]at X;subst X;refine .sl W hg ⟨_,_,rfl⟩ λ_=>.inr ⟨B,M,Q,hM.1,?_,?_⟩;exact Cz (Nat.add_le_add_left (O6 _ hM.2) _) D;simp[O4];rename_i hl;split at X;rename_i ag;subst ag;simp only[Al]at X;subst X;rw[Gd];exact Bp.vs (rows:=[]) (λ_ _=>undef) (Bi _) Y (λ_ _ h=>by simp at h) (λh=>(h rfl).elim) λ_ _ _ _ h=>by simp at h
  rename_i ag;simp only[Al]at X;subst X;refine .sl W hg ⟨_,_,rfl⟩ λ_=>.inr ⟨B,M-l,Q,o!,?_,?_⟩;rw[fG,<-FG];have:l+(M-l)=M:=o!
  rw[this];exact Cz (Nat.add_le_add_left (O6 _ hM.2) _) D;rw[if_neg o!];simp[O4]
 cases X;cases X;split at X;rename_i e sz S O Z he;split at X;rename_i h4;simp only[Al]at X;subst X;obtain⟨z,v,y⟩:=Q5 he;cases r;have o:=ZL (P:=P) (w:=w) (isSlice:=true) (len:=0) (cap:=0) K G J F R I S O Z (Am _) (Am _) (Am _) (Am _) h4;refine⟨.slice none 0 0,?_,.nils⟩;simp only[Instr.sliceAt,Instr.slice,Sem.run_bind,run_underlying z,Result.andThen_ok,o,K7 y,Sem.run_pure];cases q<;>simp;cases X;cases X;cases X
def AY.solid:AY->Bool
 | .any=>false
 | .tup _=>false
 |_=>true
def cells_one(h:b.oneCell'=true):b.cells= #[b]:=by cases b<;>first|rfl|(simp[Value.oneCell']at h;done)
theorem W8(r:Bp f d b)(h:d.solid=true):Bp f (.agg d.cells) (.agg b.cells):=by
 have one: ∀{u:AY} {v:Value},Bp f u v->v.oneCell'=true->v.cells= #[v]->u.cells=[u]->Bp f (.agg u.cells) (.agg v.cells):=by intro u v A g q z;rw[q,z];refine .agg rfl (λj b s=>?_) λj d b s l=>?_;grind;grind
 cases r with
 |agg o g p=>exact .agg o g p
 |any b=>simp[AY.solid]at h
 |tup o p=>simp[AY.solid]at h
 |ptr i m g l=>exact one (.ptr i m g l) g (cells_one g) rfl
 |sl i m g l=>obtain⟨a,cap,rfl⟩:=g;exact one (.sl i m ⟨a,cap,rfl⟩ l) rfl (cells_one rfl) rfl
 |bool x=>exact one (.bool x) rfl rfl rfl
 |int k n=>exact one (.int k n) rfl rfl rfl
 |str t y=>exact one (.str t y) rfl rfl rfl
 |nilp=>exact one .nilp rfl rfl rfl
 |vptr c a x b v=>exact one (.vptr c a x b v) rfl rfl rfl
 |nils=>exact one .nils rfl rfl rfl
 |vs c a x b v e=>exact one (.vs c a x b v e) rfl rfl rfl
 |fn a x b v=>exact one (.fn a x b v) rfl rfl rfl
 |yf i g l=>exact one (.yf i g l) g (cells_one g) rfl
 |mp i g l=>exact one (.mp i g l) g (cells_one g) rfl
 |itp i w g l=>exact one (.itp i w g l) g (cells_one g) rfl
 |nilf=>exact one .nilf rfl rfl rfl
def W7(cs:List AY)(off:Nat)(vs:List AY):List AY:=cs.take off++vs++cs.drop (off+vs.length)
theorem lE{c:List AY}(h:N+c.length<=e.length):(W7 e N c).length=e.length:=by grind[W7]
theorem uk{b:List AY}(h:N+b.length<=e.length)(j:Nat):(W7 e N b)[j]? =if N<=j/\j<N+b.length then b[j-N]? else e[j]? :=by grind[W7,List.getElem?_append_left]
inductive aK where
 |arr (sz:Nat)
 |str (l:List (Nat×Nat))
def aK.at_:aK->Nat->Option (Nat×Nat)
 | .arr sz,i=>some (i*sz,sz)
 | .str l,i=>l[i]?
def ZN(P:Program)(t:TypeId):Option (List AY):=
 match (P.info? t).bind (·.zero)with
 |some z=>if z.cells.toList.all (·.oneCell')then some (z.cells.toList.map rE)else none
 |none=>none
def placesOf(P:Program)(t:TypeId):Option aK:=
 match P.underlying t with
 |some (.struct fs)=>(fs.toList.mapM λf=>(P.info? f.type).map λi=>(f.offset,i.size)).map aK.str
 |some (.array _ e)=>(P.info? e).map λi=>aK.arr i.size
 |_=>none
def rG(p:aK):List AY->List (Nat×AY)->Option (List AY)
 |cs,[]=>some cs
 |cs,(i,v)::r=>
  match p.at_ i with
  |some (off,size)=>if v.solid=true/\v.cells.length=size/\off+size<=cs.length then rG p (W7 cs off v.cells) r else none
  |none=>none
def tB(P:Program)(t:TypeId)(parts:List (Nat×AY)):Option AY:=
 match ZN P t,placesOf P t with
 |some z,some p=>(rG p z parts).map AY.agg
 |_,_=>none
theorem eZ(x:Cx)(h:ZN P a=some e): ∃i v,P.info? a=some i/\i.zero=some v/\Bp x (.agg e) (.agg v.cells):=by
 unfold ZN at h;cases d:P.info? a with
 |none=>grind
 |some i=>
  cases b:i.zero with
  |none=>grind
  |some v=>rw[d]at h;simp only[AD,b]at h;split at h;rename_i z;simp at h;subst h;refine⟨i,v,rfl,b,.agg k! (λj c t=>?_) λj u c t f=>?_⟩;grind;grind[qA];cases h
theorem foldl_set(a:Nat): ∀(l:List Value) (k:Nat) (b:Array Value),a+k+l.length≤b.size→
  ((l.zipIdx k).foldl (λb (p:Value×Nat)=>b.setIfInBounds (a+p.2) p.1) b).size=b.size/\∀j,((l.zipIdx k).foldl (λb (p:Value×Nat)=>b.setIfInBounds (a+p.2) p.1) b)[j]? =if a+k<=j/\j<a+k+l.length then l[j-(a+k)]? else b[j]?
 |[],k,b,_=>by simp;intro j c d;omega
 |v::l,k,b,h=>by simp at h⊢;obtain⟨c,d⟩:=foldl_set a l (k+1) (b.setIfInBounds (a+k) v) w!;grind
theorem AEf{g:List AY}{d:Array Value}{off:Nat}(r:Bp f (.agg e) (.agg i))(p:Bp f (.agg g) (.agg d))(h:off+g.length≤e.length)(a:Array Value)
  (b:a.size=i.size) (x: ∀j,a[j]? =if off<=j/\j<off+d.size then d[j-off]? else i[j]?):Bp f (.agg (W7 e off g)) (.agg a):=by
 cases r with
 |agg m q t=>
  cases p with
  |agg n k o=>refine .agg (by rw[b,m,lE h]) (λj c l=>?_) λj v c l s=>?_;grind;grind[uk]
theorem vj{x:Cx}(p:aK): ∀(b:List (Nat×AY)) (a:List (Nat×Value)) (f:List AY) (d:Array Value) (n:List AY),a.map (·.1)=b.map (·.1)→
  (∀(j:Nat) (q:Nat×AY) (o:Nat×Value),b[j]? =some q->a[j]? =some o->Bp x q.2 o.2)->Bp x (.agg f) (.agg d)->rG p f b=some n->
  ∃l,Instr.fill p.at_ d a=some l/\Bp x (.agg n) (.agg l)
 |[],a,f,d,n,m,_,r,h=>by
  have:a=[]:=t!
  subst this;simp only[rG,Al]at h;subst h;exact⟨d,rfl,r⟩
 |(i,v)::b,(i',c)::a,f,d,n,m,hr,r,h=>by
  simp at m;obtain⟨rfl,m⟩:=m;simp only[rG]at h;split at h;rename_i e size E;split at h;rename_i u;obtain⟨g,rfl,s⟩:=u;have t:=W8 (hr 0 (i',v) (i',c) rfl rfl) g;have z:c.cells.size=v.cells.length:=by cases t with|agg h _ _=>exact h
  have w:d.size=f.length:=by cases r with|agg h _ _=>exact h
  have k:=foldl_set e c.cells.toList 0 d q!;have B:c.cells.zipIdx.foldl (λf (p:Value×Nat)=>f.setIfInBounds (e+p.2) p.1) d=(c.cells.toList.zipIdx 0).foldl (λf (p:Value×Nat)=>f.setIfInBounds (e+p.2) p.1) d:=by rw[<-Array.foldl_toList,Array.toList_zipIdx]
  have A:=AEf (off:=e) r t s ((c.cells.toList.zipIdx 0).foldl (λf (p:Value×Nat)=>f.setIfInBounds (e+p.2) p.1) d) k.1 (λj=>q!);obtain⟨l,C,D⟩:=vj p b a _ _ n m (λj q o F y=>hr (j+1) q o q! q!) A h;grind[Instr.fill];cases h;cases h
theorem AB9{b:List (Nat×AY)}{t:Array (Nat×Value)}(E:t.toList.map (·.1)=b.map (·.1))
  (hr: ∀(j:Nat) (q:Nat×AY) (A:Nat×Value),b[j]? =some q->t.toList[j]? =some A->Bp f q.2 A.2) (h:tB P a b=some d): ∃c,(Instr.build a t).run P w= .ok c w/\Bp f d c:=by
 unfold tB at h;split at h;rename_i z p F x;cases y:rG p z b with
 |none=>grind
 |some H=>
  rw[y]at h;simp at h;subst h;obtain⟨i,v,D,k,G⟩:=eZ f F;obtain⟨m,s,C⟩:=vj p b t.toList z v.cells H E hr G y;refine⟨.agg m,run_build w a t m ?_,C⟩;unfold Program.built;rw[D];unfold placesOf at x;split at x;rename_i B r;rw[r];cases o:B.toList.mapM (λu=>(P.info? u.type).map λi=>(u.offset,i.size))with
  |none=>grind
  |some l=>simp only[k,o];rw[<-s];congr 1;grind[aK.at_]
  rename_i n e r;rw[r];cases g:P.info? e with
  |none=>grind
  |some I=>rw[g]at x;simp at x;subst x;simp only[k,g];exact s
  cases x
 cases h
def CO(P:Program)(env:Env)(H:Az):Op->Option AY
 | .move x| .assign x=>some (BJ env x)
 | .pick c a b=>
  match BJ env c with
  | .bool t=>some (if t then BJ env a else BJ env b)
  |_=>none
 | .load t a=>jD P t H (BJ env a)
 | .nilCheck x=>
  match BJ env x with
  | .ptr id g off=>if Tm H id g then some (.ptr id g off)else none
  | .vptr cs=>some (.vptr cs)
  | .fn (.func f) a b=>some (.fn (.func f) a b)
  |_=>none
 | .binOp op t x y _=>yO P op t (BJ env x) (BJ env y)
 | .unOp op _ x=>unV op (BJ env x)
 | .convert s d x=>Xe P H s d (BJ env x)
 | .fieldAddr s x f=>WU P H s f (BJ env x)
 | .field s x f=>tW P s f (BJ env x)
 | .indexAddr t x i=>Wa P H t (BJ env x) (BJ env i)
 | .index t x i=>kz P t (BJ env x) (BJ env i)
 | .slice t x lo hi mx=>lG P H t (BJ env x) (lo.map (BJ env)) (hi.map (BJ env)) (mx.map (BJ env))
 | .extract x i=>
  match BJ env x with
  | .tup vs=>vs[i]?
  |_=>none
 | .makeFunc f a b=>some (.fn f (a.toList.map (BJ env)) (b.toList.map (BJ env)))
 | .build t parts=>tB P t (parts.toList.map λp=>(p.1,BJ env p.2))
 | .call {callee:=.builtin .len,args:=⟨[x]⟩,argTypes:=⟨[t]⟩}=>uL P H t (BJ env x)
 | .call {callee:=.builtin .max,args:=⟨[x,y]⟩,.. }=>mmV true [BJ env x,BJ env y]
 | .call {callee:=.builtin .min,args:=⟨[x,y]⟩,.. }=>mmV false [BJ env x,BJ env y]
 | .call {callee:=.builtin .min,args:=⟨[x,y,z]⟩,.. }=>mm3 (BJ env x) (BJ env y) (BJ env z)
 |_=>none
def ACg{P:Program}{N:Nat}{X:Nat→Prop}{h:Gh}{env:Env}{H:Az}{a:Act}{w:World}{o:Oper}{v:AY}(s:St X h N env H a w)(b:CO P env H o.op=some v):
  ∃c,(execOp a.eval o).run P w= .ok (.value c) w/\Bp (cx X h H w) v c:=by
 have k:=λx=>DU s.env x;have d: ∀{m:Sem Value},(∃c,m.run P w= .ok c w/\Bp (cx X h H w) v c)-> ∃c,(do pure (Next.value (<-m)):Sem Next).run P w= .ok (.value c) w/\Bp (cx X h H w) v c:=by rintro m ⟨c,u,hr⟩;exact⟨c,by simp[u],hr⟩
 unfold execOp;cases e:o.op with
 |move x=>rw[e]at b;simp only[CO,Al]at b;subst b;exact⟨_,rfl,k x⟩
 |assign x=>rw[e]at b;simp only[CO,Al]at b;subst b;exact⟨_,rfl,k x⟩
 |pick c x y=>rw[e]at b;simp only[CO]at b;split at b;rename_i t ht;have u:=k c;rw[ht]at u;simp only[Al]at b;subst b;generalize W:a.eval c=cv at u;cases u;simp only[W,asBool];cases t;exact⟨_,k!,k y⟩;exact⟨_,k!,k x⟩;cases b
 |load t x=>rw[e]at b;simp only[CO]at b;obtain⟨B,ad,D,E,hl,hr⟩:=zB s.sim (k x) b;exact d ⟨D,by rw[E];simp[Instr.loadAt,Instr.sureAddr,hl],hr⟩
 |nilCheck x=>
  rw[e]at b;simp only[CO]at b;have z:=k x;split at b;rename_i id g ad E;rw[E]at z;split at b;rename_i M;simp only[Al]at b;subst b;generalize A:a.eval x=c at z;cases z with
  |ptr Y S n u=>obtain⟨B,ag,rfl⟩:=u (s.sim.cur M);exact⟨_,by simp only[A];rfl,.ptr Y S n u⟩
  cases b;rename_i cs E;rw[E]at z;simp only[Al]at b;subst b;generalize A:a.eval x=c at z;cases z with
  |vptr f n r U V=>exact⟨_,by simp only[A];rfl,.vptr f n r U V⟩
  rename_i f p q E;rw[E]at z;simp only[Al]at b;subst b;generalize A:a.eval x=c at z;cases z with
  |fn n r U V=>exact⟨_,by simp only[A];rfl,.fn n r U V⟩
  cases b
 |binOp op t x y yt=>rw[e]at b;simp only[CO]at b;exact d (AFC w (k x) (k y) b)
 |unOp op t x=>rw[e]at b;simp only[CO]at b;exact d (AHv w (k x) b)
 |convert p q x=>rw[e]at b;simp only[CO]at b;exact d (ADc s.sim (k x) b)
 |fieldAddr p x f=>rw[e]at b;simp only[CO]at b;exact d (vE s.sim (k x) b)
 |field p x f=>rw[e]at b;simp only[CO]at b;exact d (ACN (k x) b)
 |indexAddr t x i=>rw[e]at b;simp only[CO]at b;exact d (vI s.sim (k x) (k i) b)
 |index t x i=>rw[e]at b;simp only[CO]at b;exact d (ACR (k x) (k i) b)
 |slice t x lo hi T=>
  rw[e]at b;simp only[CO]at b;have G: ∀(y:Option Operand) (v:AY),y.map (BJ env)=some v-> ∃c,y.map a.eval=some c/\Bp (cx X h H w) v c:=by
   intro y v Q;cases y with
   |none=>cases Q
   |some y=>simp only[Bn,Al]at Q;subst Q;exact⟨_,rfl,k y⟩
  have C: ∀(y:Option Operand),y.map (BJ env)=none->y.map a.eval=none:=by
   intro y Q;cases y with
   |none=>rfl
   |some y=>cases Q
  exact d (ACr s.sim (k x) (G lo) (C lo) (G hi) (C hi) (G T) (C T) b)
 |extract x i=>
  rw[e]at b;simp only[CO]at b;have z:=k x;split at b;rename_i vs E;rw[E]at z;generalize u:a.eval x=c at z;cases z with
  | @tup vs R hs Z=>
   have al:i<vs.length:=by rcases Au i vs.length with r|r;exact r;rw[Cc r]at b;cases b
   have S:R[i]? =some (R[i]' o!):=N2 o!;refine d ⟨_,?_,Z i v _ b S⟩;simp only[Instr.extract,u,S];rfl
  cases b
 |makeFunc f p q=>
  rw[e]at b;simp only[CO,Al]at b;subst b;have L: ∀(p:Array Operand) (j:Nat) (v:AY) (c:Value),(p.toList.map (BJ env))[j]? =some v->(p.map a.eval)[j]? =some c->Bp (cx X h H w) v c:=by
   intro p j v c J u;rw[CE,P0]at J;rw[cH]at u;cases O:p[j]? with
   |none=>rw[O]at J;cases J
   |some y=>rw[O]at J u;simp only[Bn,Al]at J u;subst J u;exact k y
  exact d ⟨_,rfl,.fn k! k! (L p) (L q)⟩
 |build t I=>
  rw[e]at b;simp only[CO]at b;refine d (AB9 ?_ ?_ b);simp;intro j q q' K F;rw[CE,P0]at K;rw[P0,cH]at F;cases O:I[j]? with
  |none=>rw[O]at K;cases K
  |some y=>rw[O]at K F;simp only[Bn,Al]at K F;subst K F;exact k y.2
 |call c=>
  rw[e]at b;simp only[CO]at b;split at b<;>rename_i l<;>first
   |(cases b;done)
   |(cases l;done)
   |skip
  injection l with l;subst l;simp only[resolve,invoke,builtin,Sem.run_bind,Sem.run_pure,Result.andThen_ok,Qv,Bt,Hg];obtain⟨D,n,r⟩:=AFh (ty:=o.type) s.sim (k _) b;exact⟨D,by rw[n];rfl,r⟩;injection l with l;subst l;simp only[resolve,invoke,builtin,Sem.run_bind,Sem.run_pure,Result.andThen_ok,Qv,Bt,Hg];obtain⟨D,n,r⟩:=AD8 (P:=P) (w:=w) (mx:=true) (ts:=_) (ty:=o.type) (k _) (k _) b;exact⟨D,by simp only[if_true]at n;rw[n];rfl,r⟩;injection l with l;subst l;simp only[resolve,invoke,builtin,Sem.run_bind,Sem.run_pure,Result.andThen_ok,Qv,Bt,Hg];obtain⟨D,n,r⟩:=AD8 (P:=P) (w:=w) (mx:=false) (ts:=_) (ty:=o.type) (k _) (k _) b;exact⟨D,by simp only[P2,if_false]at n;rw[n];rfl,r⟩;injection l with l;subst l;simp only[resolve,invoke,builtin,Sem.run_bind,Sem.run_pure,Result.andThen_ok,Qv,Bt,Hg];obtain⟨D,n,r⟩:=AFm (P:=P) (w:=w) (ts:=_) (ty:=o.type) (k _) (k _) (k _) b;exact⟨D,by rw[n];rfl,r⟩
 |_=>rw[e]at b;simp[CO]at b
def Dc{P:Program}{N:Nat}{H:Az}{v:AY}(b:CO P g H o.op=some v)(e:K v H):JM P N o g H K:=by apply Cv (by cases f:o.op<;>first|rfl|(rw[f]at b;simp[CO]at b));intro X h a w s Q;obtain⟨c,d,hr⟩:=ACg s b;unfold Oper.wp;rw[d,Oper.upon_value];exact⟨c,v,h,H,rfl,e,hr,s.sim,Ha.refl _ _ _⟩
section
variable {X:Nat->Prop} {h:Gh} {H:Az} {w:World}
def Gh.at_(h:Gh)(id:Nat)(io:Option Nat)(gen cap:Nat):Gh:=
 ⟨λi=>if i=id then io else h.io i,λi=>if i=id then gen else h.gen i,λi=>if i=id then cap else h.cap i⟩
def Holds(x:Cx)(cs:List AY)(arr:Array Value)(fz:Nat×Nat):Prop:=
 ∃f:Nat->Value,cs.length<=arr.size/\(∀i,i<arr.size->(decide (fz.1<=i)&&decide (i<fz.2))=false)/\
  ∀(j:Nat) (v:AY),cs[j]? =some v->arr[j]? =some (f j)/\(f j).oneCell'=true/\Bp x v (f j)
def QT(r:Bp f (.agg e) (.agg i)):Holds f e i (0,0):=by
 cases r with
 |agg l h k=>
  refine⟨λj=>i.getD j undef,o!,λx _=>k!,λj v a=>?_⟩;have b:j<i.size:=by rcases Au j e.length with g|g;omega;rw[Cc g]at a;cases a
  have d:i[j]? =some (i[j]):=N2 b;have c:i.getD j undef=i[j]:=by simp[b]
  show i[j]? =some (i.getD j undef)/\(i.getD j undef).oneCell'=true/\Bp f v (i.getD j undef);rw[c];exact⟨d,h j _ d,k j v _ a d⟩
def JN.of_ext'(s:JN X h H w)(V:Ha h H w O R A)
  (key: ∀(id:Nat) (e:FU),R[id]? =some e->e≠ .dead->(H[id]? =some e/\O.gen id=h.gen id/\O.io id=h.io id/\O.cap id=h.cap id/\ ∀B,h.io id=some B->A.heap[B]? =w.heap[B]?)\/((∃g K,e= .live g K/\AA8 (cx X O R A) id g K)\/(∃L,e= .lp L/\wb (cx X O R A) id L)\/(e.isB=true/\BAt O A id e)))
  (inj: ∀(id x:Nat) (e W:FU) (B:Nat),R[id]? =some e->R[x]? =some W->e≠ .dead->W≠ .dead->O.io id=some B->O.io x=some B->id=x):JN X O R A:=by
 have hl:=V.later X;refine⟨λB l=>⟨C7 (s.out B l).1 V.size,λN=>?_⟩,λid g K I=>?_,λid L I=>?_,inj,λid e I l=>?_⟩;rcases V.fresh B N with N|N;exact(s.out B l).2 N;have:=(s.out B l).1;omega;rcases key id _ I k! with⟨c,y,q,M,z⟩|⟨Y,D,e,hn⟩|⟨L,e,_⟩|⟨e,_⟩;obtain⟨T,J⟩:=s.live id g K c;refine⟨y.trans T,?_⟩;rcases J with⟨hn,rfl⟩|⟨B,C,T',P,f,d,p,G,U,S,o⟩;exact .inl ⟨q.trans hn,rfl⟩;refine .inr ⟨B,C,T',P,f,q.trans d,(z B d).trans p,G.trans M.symm,U,S,λj v hj=>?_⟩;obtain⟨p1,p2,p3⟩:=o j v hj;exact⟨p1,p2,p3.later hl⟩;injection e with a b;subst a b;exact hn;cases e;cases e;rcases key id _ I k! with⟨c,y,q,M,z⟩|⟨Y,D,e,hn⟩|⟨L',e,hn⟩|⟨e,_⟩;obtain⟨T,B,r,d,p,u,E,F,Q,h5,h6,Z⟩:=s.lp id L c;exact⟨y.trans T,B,r,q.trans d,(z B d).trans p,u,E,F,Q,h5,h6,λt v m=>⟨(Z t v m).1,(Z t v m).2.later hl⟩⟩;cases e;injection e with a;subst a;exact hn;cases e;rcases key id _ I (by rintro rfl;cases l)with⟨c,y,q,M,z⟩|⟨Y,D,e,hn⟩|⟨L',e,hn⟩|⟨_,hn⟩;cases e with
 |mp k es=>obtain⟨B,i,u,E,F,Q⟩:=s.bld id _ c l;exact⟨B,i,q.trans u,y.trans E,(z B u).trans F,Q⟩
 |it n seen=>obtain⟨B,u,E,F⟩:=s.bld id _ c l;exact⟨B,q.trans u,y.trans E,by rw[M];exact(z B u).trans F⟩
 |_=>cases l
 subst e;cases l;subst e;cases l;exact hn
def JN.of_ext(s:JN X h H w)(m:Ha h H w O R A)
  (key: ∀(id:Nat) (e:FU),R[id]? =some e->e≠ .dead->(H[id]? =some e/\O.gen id=h.gen id/\O.io id=h.io id/\O.cap id=h.cap id/\ ∀B,h.io id=some B->A.heap[B]? =w.heap[B]?)\/((∃g j,e= .live g j/\AA8 (cx X O R A) id g j)\/ ∃L,e= .lp L/\wb (cx X O R A) id L))
  (inj: ∀(id c:Nat) (e k:FU) (B:Nat),R[id]? =some e->R[c]? =some k->e≠ .dead->k≠ .dead->O.io id=some B->O.io c=some B->id=c):JN X O R A:=
 s.of_ext' m (λi e l f=>(key i e l f).imp id λh=>h.imp id .inl) inj
def Iv{e:FU}(a:(H++[m])[N]? =some e):(N<H.length/\H[N]? =some e)\/(N=H.length/\e=m):=by rcases Qz N H.length with b|rfl|c;rw[CL b]at a;exact .inl ⟨b,a⟩;rw[Cb (Am _),Gd]at a;simp at a;exact .inr ⟨rfl,a.symm⟩;rw[Cc w!]at a;cases a
def JL{e:FU}(c:N<H.length)(a:(H.set N m)[t]? =some e):(t≠N/\H[t]? =some e)\/(t=N/\e=m):=by by_cases b:t=N;subst b;rw[HG c]at a;simp at a;exact .inr ⟨rfl,a.symm⟩;rw[Dw (λe=>b e.symm)]at a;exact .inl ⟨b,a⟩
def Ha.push(o:Obj)(cap:Nat)(E:FU):
  Ha h H w (h.at_ H.length (some w.heap.size) 0 cap) (H++[E]) {w with heap:=w.heap.push o}where
 os:=rfl
 tape:=rfl
 output:=rfl
 size:=k!
 keep B hB _:=by simp[Tr,BZ hB]
 n:=k!
 gen id hid:=by simp[Gh.at_,BZ hid]
 same id hid _:=by simp[Gh.at_,BZ hid]
 fresh B ho:=by obtain⟨id,e,b,d,a⟩:=ho;rcases Iv b with⟨c,b⟩|⟨rfl,rfl⟩;exact .inl ⟨id,e,b,d,by simpa[Gh.at_,BZ c]using a⟩;simp[Gh.at_]at a;exact .inr o!
 loops B r hB:=⟨r,by have:=Pj hB;simp[Tr,BZ this,hB]⟩
def JN.push_any(s:JN X h H w)(o:Obj)(cap:Nat)(E:FU)
  (t:E≠ .dead->((∃g l,E= .live g l/\AA8 (cx X (h.at_ H.length (some w.heap.size) 0 cap) (H++[E]) {w with heap:=w.heap.push o}) H.length g l)\/∃L,E= .lp L/\wb (cx X (h.at_ H.length (some w.heap.size) 0 cap) (H++[E]) {w with heap:=w.heap.push o}) H.length L)):
  JN X (h.at_ H.length (some w.heap.size) 0 cap) (H++[E]) {w with heap:=w.heap.push o}:=by
 refine s.of_ext (Ha.push o cap E) (λid e f d=>?_) λid u e v B p q b c i j=>?_;rcases Iv f with⟨a,f⟩|⟨rfl,rfl⟩;refine .inl ⟨f,by simp[Gh.at_,BZ a],by simp[Gh.at_,BZ a],by simp[Gh.at_,BZ a],λB k=>?_⟩;have:=s.io_at f d k;simp[Tr,BZ this];exact .inr (t d);rcases Iv p with⟨l1,m⟩|⟨rfl,_⟩<;>rcases Iv q with⟨l2,n⟩|⟨rfl,_⟩;exact s.inj _ _ _ _ B m n b c (by simpa[Gh.at_,BZ l1]using i) (by simpa[Gh.at_,BZ l2]using j);have r:=s.io_at m b (by simpa[Gh.at_,BZ l1]using i);simp[Gh.at_]at j;omega;have r:=s.io_at n c (by simpa[Gh.at_,BZ l2]using j);simp[Gh.at_]at i;omega;rfl
def JN.push(s:JN X h H w)(a:Array Value)(T:TypeId)(c:Nat×Nat)(g:List AY)(i:Holds (cx X h H w) g a c):
  JN X (h.at_ H.length (some w.heap.size) 0 a.size) (H++[.live 0 g]) {w with heap:=w.heap.push (.cells a T c)}:=by
 refine s.push_any _ _ _ λ_=>.inl ⟨0,g,rfl,?_⟩;obtain⟨f,e,d,b⟩:=i;refine⟨by simp[cx,Gh.at_],.inr ⟨w.heap.size,a,T,c,f,by simp[cx,Gh.at_],by show(w.heap.push (.cells a T c))[w.heap.size]? =_;simp,by simp[cx,Gh.at_],e,d,λj v k=>?_⟩⟩;obtain⟨l,m,n⟩:=b j v k;exact⟨l,m,n.later ((Ha.push _ _ _).later X)⟩
def JN.upd(s:JN X h H w){id g g' B:Nat}{K cs':List AY}{arr:Array Value}{T:TypeId}{fz:Nat×Nat}{w':World}(y:H[id]? =some (FU.live g K))(hg:g≤g')
  (z:g'=g->h.io id=some B/\h.cap id=arr.size) (a:h.io id=some B\/w.heap.size<=B) (hb:w'.heap[B]? =some (.cells arr T fz)) (N: ∀k,k<w.heap.size->k≠B->w'.heap[k]? =w.heap[k]?)
  (R:w'.os=w.os) (C:w'.tape=w.tape) (G:w'.output=w.output) (A:w.heap.size<=w'.heap.size) (hh:Holds (cx X h H w) cs' arr fz):
  JN X (h.at_ id (some B) g' arr.size) (H.set id (.live g' cs')) w'/\Ha h H w (h.at_ id (some B) g' arr.size) (H.set id (.live g' cs')) w':=by
 have q:id<H.length:=by rcases Au id H.length with o|o;exact o;rw[Cc o]at y;cases y
 have u:h.gen id=g:=(s.live id g K y).1;have S:Ha h H w (h.at_ id (some B) g' arr.size) (H.set id (.live g' cs')) w':=by refine⟨R,C,G,A,λk O hn=>?_,k!,λi n=>?_,λi n e=>?_,λk ho=>?_,λk r hr=>⟨r,?_⟩⟩;refine N k O λe=>?_;subst e;rcases a with a|a;exact hn ⟨id,_,y,k!,a⟩;omega;by_cases e:i=id;subst e;simp[Gh.at_,u,hg];simp[Gh.at_,e];by_cases Z:i=id;subst Z;simp only[Gh.at_,if_true]at e⊢;have:=z (e.trans u);exact⟨this.1.symm,this.2.symm⟩;simp[Gh.at_,Z];obtain⟨i,d,t,b,o⟩:=ho;rcases JL q t with⟨n,l⟩|⟨rfl,_⟩;exact .inl ⟨i,d,l,b,by simpa[Gh.at_,n]using o⟩;simp[Gh.at_]at o;subst o;rcases a with a|a;exact .inl ⟨i,_,y,k!,a⟩;exact .inr a;have Q:=Pj hr;refine(N k Q λe=>?_).trans hr;subst e;rcases a with a|a;rcases(s.live id g K y).2 with⟨hn,_⟩|⟨W,Y,T',ad,f',x,D,_⟩;rw[show(cx X h H w).io id=h.io id from rfl,a]at hn;cases hn;rw[show(cx X h H w).io id=h.io id from rfl,a]at x;injection x with e;subst e;rw[show(cx X h H w).w.heap=w.heap from rfl,hr]at D;cases D;omega
 have hl:=S.later X;have c: ∀{i:Nat} {d:FU},i≠id->H[i]? =some d->d≠ .dead->h.io i=some B->False:=by intro i d n t b m;rcases a with a|a;exact n (s.inj i id d _ B t y b k! m a);have:=s.io_at t b m;omega
 refine⟨s.of_ext S (λi d t b=>?_) (λi i' d L k t o E F I J=>?_),S⟩;rcases JL q t with⟨n,l⟩|⟨rfl,rfl⟩;refine .inl ⟨l,by simp[Gh.at_,n],by simp[Gh.at_,n],by simp[Gh.at_,n],λW m=>N W (s.io_at l b m) λe=>?_⟩;subst e;exact c n l b m;obtain⟨f,P,M,p⟩:=hh;refine .inr (.inl ⟨g',cs',rfl,by simp[cx,Gh.at_],.inr ⟨B,arr,T,fz,f,by simp[cx,Gh.at_],hb,by simp[cx,Gh.at_],P,M,λj v hj=>?_⟩⟩);obtain⟨p1,p2,p3⟩:=p j v hj;exact⟨p1,p2,p3.later hl⟩;rcases JL q t with⟨U,d⟩|⟨rfl,_⟩<;>rcases JL q o with⟨V,L⟩|⟨rfl,_⟩;exact s.inj _ _ _ _ k d L E F (by simpa[Gh.at_,U]using I) (by simpa[Gh.at_,V]using J);simp[Gh.at_]at J;subst J;exact(c U d E (by simpa[Gh.at_,U]using I)).elim;simp[Gh.at_]at I;subst I;exact(c V L F (by simpa[Gh.at_,V]using J)).elim;rfl
end
def ACP(h:w.heap[N]? =some (.cells i a y))(B:Nat):w.frozen? ⟨N,B,none⟩=(decide (y.1<=B)&&decide (B<y.2)):=by unfold World.frozen?;rw[h]
def Vj{P:Program}{B off:Nat}{T:TypeId}{h:Nat×Nat}: ∀(g:List Value) (i:Nat) (a:Array Value) (w:World),w.heap[B]? =some (.cells a T h)→off+i+g.length≤a.size→
  (∀j,j<a.size->(decide (h.1<=j)&&decide (j<h.2))=false)->(∀v∈g,v.oneCell'=true)->
  ∃d b,(storeCells ⟨B,off,none⟩ g i).run P w= .ok () d/\d.heap[B]? =some (.cells b T h)/\b.size=a.size/\(∀j,b[j]? =if off+i<=j/\j<off+i+g.length then g[j-(off+i)]? else a[j]?)/\(∀k,k≠B->d.heap[k]? =w.heap[k]?)/\d.os=w.os/\d.tape=w.tape/\d.output=w.output/\d.heap.size=w.heap.size
 |[],i,a,w,hb,_,_,_=>⟨w,a,rfl,hb,rfl,λj=>by rw[if_neg k!],λ_ _=>rfl,rfl,rfl,rfl,rfl⟩
 |v::g,i,a,w,hb,hle,hfz,h1=>by
  simp only[Cu]at hle;have o:w.cell? ⟨B,off+i,none⟩=some (a[off+i]' o!):=by rw[P5 (w:=w) hb];exact N2 o!
  have p:w.frozen? ⟨B,off+i,none⟩=false:=by rw[ACP hb];exact hfz _ o!
  have c:(store ⟨B,off+i,none⟩ v).run P w= .ok () (w.setCell ⟨B,off+i,none⟩ v):=by rw[run_store P w _ v .plain (h1 v k!),o];simp[p]
  have l:(w.setCell ⟨B,off+i,none⟩ v).heap[B]? =some (.cells (a.setIfInBounds (off+i) v) T h):=by simp[World.setCell,bx,hb]
  obtain⟨d,b,r,s,t,x,y,z,A,C,D⟩:=Vj (P:=P) (off:=off) g (i+1) (a.setIfInBounds (off+i) v) (w.setCell ⟨B,off+i,none⟩ v) l w!
   (by simpa using hfz) (λu q=>h1 u (CQ _ q))
  refine⟨d,b,?_,s,by rw[t];simp,λj=>?_,λk n=>?_,z,A,C,by rw[D];simp[World.setCell]⟩;simp only[storeCells,O4,Sem.run_bind,c,Result.andThen_ok];exact r;rw[x];by_cases m:j=off+i;subst m;rw[if_neg o!,if_pos k!,Array.getElem?_setIfInBounds_self_of_lt o!];simp;by_cases f:off+(i+1)<=j/\j<off+(i+1)+g.length;rw[if_pos f,if_pos w!,show j-(off+i)=(j-(off+(i+1)))+1 from by omega];rfl;rw[if_neg f,if_neg w!,vO (λe=>m e.symm)];rw[y k n];simp[World.setCell,bx,O7 n]
section
variable {P:Program} {N:Nat} {o:Oper} {env:Env} {H:Az} {K:AY->Az->Prop}
def JM.alloc{t:TypeId}(d:o.op= .alloc t)(g:ZN P t=some e)(f:K (.ptr H.length 0 0) (H++[.live 0 e])):JM P N o env H K:=by
 apply Cv (by rw[d];rfl);intro X h a w s Q;obtain⟨i,v,z,c,j⟩:=eZ (cx X h H w) g;have b:(execOp a.eval o).run P w= .ok (.value (.pointer (some ⟨w.heap.size,0,none⟩))) {w with heap:=w.heap.push (.cells v.cells t)}:=by unfold execOp;rw[d];simp[Instr.alloc,zeroValue,typeInfo,z,c,newVar,newRow]
 unfold Oper.wp;rw[b,Oper.upon_value];refine⟨_,_,_,_,rfl,f,?_,s.sim.push v.cells t (0,0) e (QT j),Ha.push _ _ _⟩;exact .ptr (by simp[cx]) (by simp[cx,Gh.at_]) rfl λ_=>⟨w.heap.size,by simp[cx,Gh.at_],rfl⟩
def JM.box(c:o.op= .box a k)(g:BJ env k=d)(f:d.solid=true)(e:K (.ptr H.length 0 0) (H++[.live 0 d.cells])):JM P N o env H K:=by
 apply Cv (by rw[c];rfl);intro X h x w s Q;have t:=DU s.env k;rw[g]at t;have i:=W8 t f;have b:(execOp x.eval o).run P w= .ok (.value (.pointer (some ⟨w.heap.size,0,none⟩))) {w with heap:=w.heap.push (.cells (x.eval k).cells a)}:=by unfold execOp;rw[c];simp[Instr.box,newVar,newRow]
 unfold Oper.wp;rw[b,Oper.upon_value];refine⟨_,_,_,_,rfl,e,?_,s.sim.push _ a (0,0) d.cells (QT i),Ha.push _ _ _⟩;exact .ptr (by simp[cx]) (by simp[cx,Gh.at_]) rfl λ_=>⟨w.heap.size,by simp[cx,Gh.at_],rfl⟩
def JM.store{id g off:Nat}{v:AY}{cs:List AY}{b:Bool}(ho:o.op= .store a k L)(hx:BJ env k= .ptr id g off)(hy:BJ env L=v)(hs:v.solid=true)
  (he:H[id]? =some (FU.live g cs)) (ht:tI P a=some (b,v.cells.length)) (J:off+v.cells.length<=cs.length) (V:K .any (H.set id (.live g (W7 cs off v.cells)))):JM P N o env H K:=by
 apply Cv (by rw[ho];rfl);intro X h y w s Q;have Z:=DU s.env k;rw[hx]at Z;have Y:=DU s.env L;rw[hy]at Y;have rz:=W8 Y hs;obtain⟨I,F⟩:=s.sim.live id g cs he;obtain⟨B,i,S⟩: ∃B,h.io id=some B/\y.eval k= .pointer (some ⟨B,off,none⟩):=by
  generalize y.eval k=c at Z;cases Z with
  |ptr ag O h1 hc=>obtain⟨B,i,rfl⟩:=hc I;exact⟨B,i,rfl⟩
 rcases F with⟨hn,_⟩|⟨B',D,T,R,f,z,hb,E,ad,G,m⟩;rw[show(cx X h H w).io id=h.io id from rfl,i]at hn;cases hn;rw[show(cx X h H w).io id=h.io id from rfl,i]at z;injection z with e;subst e;generalize U:y.eval L=c at Y rz;obtain⟨M,A,W⟩:c.cells.size=v.cells.length/\(∀(j:Nat) (d:Value),c.cells[j]? =some d->d.oneCell'=true)/\(∀(j:Nat) (u:AY) (d:Value),v.cells[j]? =some u->c.cells[j]? =some d->Bp (cx X h H w) u d):=by cases rz with|agg p q r=>exact⟨p,q,r⟩
 obtain⟨w',n,p1,p2,p3,p4,p5,p6,p7,p8,p9⟩:=Vj (P:=P) (off:=off) c.cells.toList 0 D w hb w! G (λd hd=>by obtain⟨j,C⟩:=Di hd;exact A j d (by simpa using C));have x:(execOp y.eval o).run P w= .ok .skip w':=by unfold execOp;rw[ho];simp only[S,U,Instr.storeAt,Instr.sureAddr,Sem.run_bind,Sem.run_pure,Result.andThen_ok,storeVar,K7 ht];rw[if_neg (by simp[M])];simp only[Result.andThen_ok,p1]
 have hh:Holds (cx X h H w) (W7 cs off v.cells) n R:=by
  refine⟨λj=>if off<=j/\j<off+v.cells.length then c.cells.getD (j-off) undef else f j,by rw[lE J];omega,by rw[p3];exact G,λj u C=>?_⟩;rw[uk J]at C;rw[p4];simp only[Qy,Dh,M,P0];split at C;rename_i l;rw[if_pos l,if_pos l];have hl:j-off<c.cells.size:=o!
  have O:c.cells[j-off]? =some (c.cells[j-off]):=N2 hl;have e:c.cells.getD (j-off) undef=c.cells[j-off]:=by simp[hl]
  rw[e];exact⟨O,A _ _ O,W _ u _ C O⟩;rename_i l;rw[if_neg l,if_neg l];exact m j u C
 obtain⟨q1,q2⟩:=s.sim.upd (g':=g) (B:=B) (arr:=n) (T:=T) (fz:=R) (w':=w') he (Am _) (λ_=>⟨i,by rw[p3];exact E.symm⟩) (.inl i) p2 (λt _ V=>p5 t V) p6 p7 p8 (by rw[p9];exact Am _) hh;unfold Oper.wp;rw[x,Oper.upon_skip];exact⟨_,_,_,_,rfl,V,.any _,q1,q2⟩
end
section
variable {X:Nat->Prop} {h:Gh} {H:Az} {w w':World}
def Ha.grow(b:w'.os=w.os)(f:w'.tape=w.tape)(d:w'.output=w.output)(e:w.heap.size<=w'.heap.size)(c: ∀k,k<w.heap.size->w'.heap[k]? =w.heap[k]?):Ha h H w h H w':=⟨b,f,d,e,λB a _=>c B a,Am _,λ_ _=>Am _,λ_ _ _=>⟨rfl,rfl⟩,λ_ h=>.inl h,λB r a=>⟨r,(c B (Pj a)).trans a⟩⟩
def JN.grow(s:JN X h H w)(c:w'.os=w.os)(i:w'.tape=w.tape)(f:w'.output=w.output)(g:w.heap.size<=w'.heap.size)(e: ∀k,k<w.heap.size->w'.heap[k]? =w.heap[k]?):JN X h H w':=s.of_ext (Ha.grow c i f g e) (λ_ _ d b=>.inl ⟨d,rfl,rfl,rfl,λB a=>e B (s.io_at d b a)⟩) s.inj
def Ha.virt:Ha h H w (h.at_ H.length none 0 0) (H++[.live 0 []]) w where
 os:=rfl
 tape:=rfl
 output:=rfl
 size:=Am _
 keep B _ _:=rfl
 n:=k!
 gen id hid:=by simp[Gh.at_,BZ hid]
 same id hid _:=by simp[Gh.at_,BZ hid]
 fresh B ho:=by obtain⟨id,e,b,d,a⟩:=ho;rcases Iv b with⟨c,b⟩|⟨rfl,rfl⟩;exact .inl ⟨id,e,b,d,by simpa[Gh.at_,BZ c]using a⟩;simp[Gh.at_]at a
 loops B r hB:=⟨r,hB⟩
theorem JN.virt(s:JN X h H w):JN X (h.at_ H.length none 0 0) (H++[.live 0 []]) w:=by refine s.of_ext Ha.virt (λid e f m=>?_) λid n e o B j k a b c d=>?_;rcases Iv f with⟨l,f⟩|⟨rfl,rfl⟩;grind[Gh.at_];exact .inr (.inl ⟨0,[],rfl,by simp[cx,Gh.at_],.inl ⟨by simp[cx,Gh.at_],rfl⟩⟩);rcases Iv j with⟨l1,g⟩|⟨rfl,_⟩<;>rcases Iv k with⟨l2,i⟩|⟨rfl,_⟩;exact s.inj _ _ _ _ B g i a b (by simpa[Gh.at_,BZ l1]using c) (by simpa[Gh.at_,BZ l2]using d);simp[Gh.at_]at d;simp[Gh.at_]at c;rfl
def JN.bump(s:JN X h H w){id g:Nat}{cs:List AY}(n:H[id]? =some (FU.live g cs))(hn:h.io id=none):
  JN X (h.at_ id none (g+1) (h.cap id)) (H.set id (.live (g+1) [])) w/\Ha h H w (h.at_ id none (g+1) (h.cap id)) (H.set id (.live (g+1) [])) w:=by
 have a:id<H.length:=by rcases Au id H.length with b|b;exact b;rw[Cc b]at n;cases n
 have c:h.gen id=g:=(s.live id g cs n).1;have own: ∀B,owned (h.at_ id none (g+1) (h.cap id)) (H.set id (.live (g+1) [])) B->owned h H B:=by rintro B ⟨i,e,j,l,b⟩;rcases JL a j with⟨f,d⟩|⟨rfl,_⟩;exact⟨i,e,d,l,by simpa[Gh.at_,f]using b⟩;simp[Gh.at_]at b
 have u:Ha h H w (h.at_ id none (g+1) (h.cap id)) (H.set id (.live (g+1) [])) w:=by refine⟨rfl,rfl,rfl,Am _,λk A hn=>rfl,k!,λi f=>?_,λi f e=>?_,λB C=>.inl (own B C),λB r y=>⟨r,y⟩⟩;by_cases e:i=id;subst e;simp[Gh.at_,c];simp[Gh.at_,e];by_cases m:i=id;subst m;simp[Gh.at_,c]at e;simp[Gh.at_,m]
 refine⟨s.of_ext u (λi e j l=>?_) (λi F e m k j b o p q t=>?_),u⟩;rcases JL a j with⟨f,d⟩|⟨rfl,rfl⟩;exact .inl ⟨d,by simp[Gh.at_,f],by simp[Gh.at_,f],by simp[Gh.at_,f],λB z=>rfl⟩;exact .inr (.inl ⟨g+1,[],rfl,by simp[cx,Gh.at_],.inl ⟨by simp[cx,Gh.at_],rfl⟩⟩);rcases JL a j with⟨D,v⟩|⟨rfl,_⟩<;>rcases JL a b with⟨E,x⟩|⟨rfl,_⟩;exact s.inj _ _ _ _ k v x o p (by simpa[Gh.at_,D]using q) (by simpa[Gh.at_,E]using t);simp[Gh.at_]at t;simp[Gh.at_]at q;rfl
end
def Nz(H:Az)(sz:Nat):AY->Option (Nat×List AY)
 | .vs sz' rows=>if sz=sz' then some (rows.length,rows.flatMap AY.cells)else none
 | .sl id g sz' off len=>
  match H[id]? with
  |some (.live g' cs)=>if g=g'/\sz=sz'/\off+len*sz<=cs.length then some (len,(cs.drop off).take (len*sz))else none
  |_=>none
 | .nils=>some (0,[])
 |_=>none
theorem Ox{P:Program}{X:Nat→Prop}{h:Gh}{H:Az}{w:World}{v:AY}{c:Value}{sz m:Nat}{J:List AY}(s:JN X h H w)(r:Bp (cx X h H w) v c)(N:0<sz)(hr:Nz H sz v=some (m,J)):
  ∃a cap S,c= .slice a m cap/\J.length=m*sz/\mn (cx X h H w) J S/\(∀u∈S,u.oneCell'=true)/\(Builtin.lenOf c).run P w= .ok m w/\(Builtin.firstCells sz m c).run P w= .ok S.toArray w:=by
 cases r with
 |nils=>simp only[Nz,Al,EK]at hr;obtain⟨rfl,rfl⟩:=hr;exact⟨none,0,[],rfl,k!,⟨rfl,λ_ _ _ h=>by cases h⟩,(λ_ h=>by cases h),rfl,rfl⟩
 | @vs R b a cap f y Z D ha hv=>
  simp only[Nz]at hr;split at hr;rename_i F;subst F;simp only[Al,EK]at hr;obtain⟨rfl,rfl⟩:=hr;have q:=qj D;cases b with
  |nil=>refine⟨a,cap,[],rfl,k!,⟨rfl,λ_ _ _ h=>by cases h⟩,(λ_ h=>by cases h),rfl,?_⟩;cases a<;>simp[Builtin.firstCells,loadCells,loadCellsFrom]
  |cons e0 E=>
   obtain⟨B,k,rfl,hO,hB,L⟩:=ha k!;generalize e0::E=b at*;have K: ∀j,j<b.length*sz-> ∃e v,b[j/sz]? =some e/\e.cells[j%sz]? =some v:=by intro j o;have F:j/sz<b.length:=(Nat.div_lt_iff_lt_mul N).2 o;have I:b[j/sz]? =some (b[j/sz]):=A4 F;grind[Nat.mod_lt,List.getElem?_eq_getElem]
   refine⟨_,cap,(List.range (b.length*sz)).map λj=>f (j/sz) (j%sz),rfl,q,⟨by simp[q],λj v d o G=>?_⟩,λu O=>?_,rfl,?_⟩;grind[flat_get,Nat.lt_or_ge,List.getElem?_eq_none,List.getElem?_range,Option.some.injEq];grind;have:=run_loadCells (P:=P) w ⟨B,k,none⟩ (b.length*sz) (λj=>f (j/sz) (j%sz)) λj o=>by obtain⟨e,v,I,Q⟩:=K j o;rw[O4];have V:=(L _ e _ v I Q).1;rw[Nat.div_add_mod' j sz]at V;exact V
   grind[Builtin.firstCells]
  cases hr
 | @sl id g R k len c al hg F L=>
  simp only[Nz]at hr;split at hr;rename_i g' l I;split at hr;rename_i x;obtain⟨rfl,rfl,ao⟩:=x;simp only[Al,EK]at hr;obtain⟨rfl,rfl⟩:=hr;obtain⟨A,z⟩:=s.live id g l I;rcases L A with⟨n,rfl,rfl,rfl⟩|⟨B,cap,n,y,M,rfl⟩;exact⟨none,0,[],rfl,k!,⟨k!,λ_ _ _ _ h=>by cases h⟩,(λ_ h=>by cases h),rfl,rfl⟩;rcases z with⟨hn,_⟩|⟨U,ad,T,fz,f,p,hb,W,Y,ag,i⟩;rw[hn]at n;cases n;have:U=B:=by rw[n]at p;injection p with e;exact e.symm
  subst this;refine⟨_,cap,(List.range (len*sz)).map λj=>f (k+j),rfl,w!,⟨w!,λj v d o G=>?_⟩,λu O=>?_,rfl,?_⟩;have C:j<len*sz:=by grind[Nat.lt_or_ge,List.getElem?_eq_none]
  rw[cF,if_pos C,Ja]at o;rw[CE,Rb C]at G;simp only[Bn,Al]at G;subst G;exact(i _ v o).2.2;simp only[Bl,Hj]at O;obtain⟨j,o,rfl⟩:=O;have t:l[k+j]? =some (l[k+j]' o!):=A4 o!;exact(i _ _ t).2.1;have:=run_loadCells (P:=P) w ⟨U,k,none⟩ (len*sz) (λj=>f (k+j)) λj o=>by have t:l[k+j]? =some (l[k+j]' o!):=A4 o!;rw[O4,P5 (w:=w) hb];exact(i _ _ t).1
  simpa[Builtin.firstCells]using this;cases hr;cases hr
 |_=>simp only[Nz]at hr;cases hr
theorem AAd(a b:Nat)(h:b<a):Builtin.nextslicecap a b<=2*a+2048:=by grind[Builtin.nextslicecap,Builtin.growBy]
def SX(P:Program)(e:TypeId):Bool:=
 match P.info? e with
 |some i=>decide (i.bytes<=1048576)&&(match i.zero with|some z=>decide (z.cells.size=i.size)|none=>false)
 |none=>false
section
variable {P:Program} {N:Nat} {o:Oper} {env:Env} {H:Az} {K:AY->Az->Prop}
theorem Uk(h:SX P a=true): ∃i z,P.info? a=some i/\i.bytes<=1048576/\i.zero=some z/\z.cells.size=i.size:=by grind[SX]
theorem mF(h:tI P a=some (s,N))(t:P.info? a=some q):q.size=N:=by unfold tI at h;grind
theorem JM.buildSlice{t e:TypeId}{len sz:Nat}{f:Array (Nat×Operand)}{W:List AY}(ho:o.op= .buildSlice t len f)(he:eI P t=some (none,e,sz))(ax:0<sz)(a4:SX P e=true)
  (C:f.toList.map (·.1)=List.range len) (a6:f.toList.map (λp=>BJ env p.2)=W) (O: ∀v∈W,v.solid=true/\v.cells.length=sz) (L:len<=4096/\sz<=4096) (hk:K (.vs sz W) H):JM P N o env H K:=by
 apply Cv (by rw[ho];rfl);intro X h a w s Q;obtain⟨a0,b,hi⟩:=Q5 he;obtain⟨i,z,D,_,hz,a7⟩:=Uk a4;have A:=mF hi D;have V:W.length=len:=by have n:=congrArg List.length C;grind[List.length]
 let g:List Value:=f.toList.map λp=>a.eval p.2;have U:g.length=len:=by grind[List.length]
 have M: ∀(j:Nat) (v:AY) (c:Value),W[j]? =some v->g[j]? =some c->Bp (cx X h H w) (.agg v.cells) (.agg c.cells)/\v.cells.length=sz:=by
  intro j v c G Y;have hm:=O v (BU G);refine⟨?_,hm.2⟩;subst a6;simp only[g,CE]at G Y;cases Z:f.toList[j]? with
  |none=>rw[Z]at G;cases G
  |some p=>rw[Z]at G Y;simp only[Bn,Al]at G Y;subst G Y;exact W8 (DU s.env p.2) hm.1
 have y: ∀c∈g,c.cells.size=sz:=by
  intro c Y;obtain⟨j,B⟩:=Di Y;have E:j<W.length:=by grind[Nat.lt_or_ge,List.getElem?_eq_none]
  obtain⟨n,r⟩:=M j _ c (A4 E) B;cases n<;>grind
 have R:(f.map λ(q:Nat×Operand)=>(q.1,a.eval q.2)).toList=(g.zipIdx 0).map λx=>(x.2,x.1):=by
  apply I2;intro j;simp only[Array.toList_map,CE,List.getElem?_zipIdx,D7,g];cases Z:f.toList[j]? with
  |none=>rfl
  |some p=>
   have n:(f.toList.map (·.1))[j]? =some p.1:=by rw[CE,Z];rfl
   rw[C]at n;have E:j<len:=by rcases Au j len with r|r;exact r;rw[Cc (by simpa using r)]at n;cases n
   rw[Rb E]at n;simp only[Al]at n;simp[n]
 have a3:(g.flatMap λc=>c.cells.toList).length=len*sz:=by
  clear R;have: ∀l:List Value,(∀c∈l,c.cells.size=sz)->(l.flatMap λc=>c.cells.toList).length=l.length*sz:=by
   intro l;induction l with
   |nil=>simp
   |cons c l ih=>intro V;simp only[IA,Aa,Dh,V c k!,ih (λd I=>V d (CQ _ I)),Cu,FG];omega
  rw[this g y,U]
 have ag: ∀(j:Nat) (c:Value) (q:Nat) (d:Value),g[j]? =some c->c.cells[q]? =some d->(g.flatMap λc=>c.cells.toList)[j*sz+q]? =some d:=by
  have: ∀(l:List Value),(∀c∈l,c.cells.size=sz)-> ∀(j:Nat) (c:Value) (q:Nat) (d:Value),l[j]? =some c->c.cells[q]? =some d->(l.flatMap λc=>c.cells.toList)[j*sz+q]? =some d:=by
   intro l;induction l with
   |nil=>intro _ j c q d B;simp at B
   |cons c0 l ih=>
    intro V j c q d B I;simp only[IA];have h0:=V c0 k!;cases j with
    |zero=>simp at B;subst B;rw[Nat.zero_mul,D7,CL (by rcases Au q c0.cells.size with r|r;simpa using r;rw[sw r]at I;cases I)];simpa using I
    |succ j=>rw[Cb (by rw[Dh,h0,FG];omega),Dh,h0];rw[show(j+1)*sz+q-sz=j*sz+q from by rw[FG];omega];exact ih (λd I=>V d (CQ _ I)) j c q d (by simpa using B) I
  exact this g y
 have F: ∃m:Array Value,(execOp a.eval o).run P w= .ok (.value (.slice (some ⟨w.heap.size,0,none⟩) len len)) {w with heap:=w.heap.push (.cells m e)}/\m.toList=g.flatMap λc=>c.cells.toList:=by
  unfold execOp;rw[ho];by_cases h0:len=0;subst h0;have:g=[]:=EL U;refine⟨#[],?_,by rw[this];rfl⟩;have Z:f= #[]:=by have n:=congrArg List.length C;simp at n;exact n
  simp[Instr.buildSlice,run_underlying a0,K7 hi,Z,Instr.fill,newRow,show Array.range 0= #[]from rfl];refine⟨(g.flatMap λc=>c.cells.toList).toArray,?_,rfl⟩;have ao: ¬len*i.size=0:=by rw[A];exact Nat.mul_ne_zero h0 o!
  have a5: ¬len*i.size>2^24:=by rw[A];have:=mw L.1 L.2;omega
  have hf:=Go.Great.fill_whole (s:=sz) ax g ((Array.range (len*i.size)).map (z.cells[· %z.cells.size]!)) y (by simp[U,A]);have:=run_buildSlice (P:=P) w t e len (f.map λ(q:Nat×Operand)=>(q.1,a.eval q.2)) _ i z a0 D hz a5 ao (by rw[R,A]at*;exact hf);simp only[Sem.run_bind];rw[show(f.map λx=>match x with|(i,x)=>(i,a.eval x))=(f.map λ(q:Nat×Operand)=>(q.1,a.eval q.2))from rfl,this];rfl
 obtain⟨m,F,ad⟩:=F;unfold Oper.wp;rw[F,Oper.upon_value];have ar:=s.sim.grow (w':={w with heap:=w.heap.push (.cells m e)}) rfl rfl rfl k! (λk hk=>by simp[Tr,BZ hk]);have J:=Ha.grow (h:=h) (H:=H) (w:=w) (w':={w with heap:=w.heap.push (.cells m e)}) rfl rfl rfl k! (λk hk=>by simp[Tr,BZ hk]);refine⟨_,_,h,H,rfl,hk,?_,ar,J⟩;subst V;refine .vs (λj q=>((g.getD j undef).cells.getD q undef)) (Am _) ax (λj v B=>(O v (BU B)).2) (λal=>⟨w.heap.size,0,rfl,?_,by simp[cx],λj v q u B hq=>?_⟩) λj v q u B hq=>?_;rintro(hX|ho);have:=(s.sim.out _ hX).1;omega;obtain⟨id,e1,n,al,r⟩:=ho;have:=s.sim.io_at n al r;omega;all_goals
  have E:j<g.length:=by rcases Au j W.length with r|r;omega;rw[Cc r]at B;cases B
  have S:g[j]? =some (g[j]):=A4 E;have a2:g.getD j undef=g[j]:=by simp[Ra,S]
  obtain⟨r1,r2⟩:=M j v _ B S;rw[a2];cases r1 with
  |agg hs n G=>
   have ap:q<(g[j]).cells.size:=by rcases Au q v.cells.length with r|r;omega;rw[Cc r]at hq;cases hq
   have T:(g[j]).cells[q]? =some ((g[j]).cells[q]):=N2 ap;have a1:(g[j]).cells.getD q undef=(g[j]).cells[q]:=by simp[ap]
   rw[a1];first
    |exact(G q u _ hq T).later (J.later X)
    |(refine⟨?_,n q _ T⟩
      have hb:(w.heap.push (.cells m e))[w.heap.size]? =some (.cells m e (0,0)):=k!
      rw[D7];show World.cell? {w with heap:=w.heap.push (.cells m e)} _=_;rw[P5 (w:={w with heap:=w.heap.push (.cells m e)}) hb,<-P0,ad];exact ag j _ q _ S T)
end
section
variable {P:Program}
def ZO(z:Array Value)(n:Nat):(Builtin.zeroCells z n).size=n*z.size:=by simp[Builtin.zeroCells]
def nB{t ty e:TypeId}(g:P.underlying t=some (.slice e))(j:P.info? e=some q){base:Option Addr}{n cap m:Nat}{w w':World}
  (d:(Builtin.lenOf b).run P w= .ok m w) (f:(Builtin.firstCells q.size m b).run P w= .ok x.toArray w) (c:n+m<=cap)
  (i:(match base with
   |some a=>storeCells (a.add (n*q.size)) x
   |none=>pure ():Sem Unit).run P w= .ok () w'):
  (Builtin.append_ #[t,t] ty #[.slice base n cap,b]).run P w= .ok (.slice base (n+m) cap) w':=by
 cases base<;>simp only at i<;>simp[Builtin.append_,run_underlying g,sizeOf,typeInfo,j,d,f,c,i];simp at i;exact i
def qt{t ty e:TypeId}(g:P.underlying t=some (.slice e))(p:P.info? e=some q)(r:q.zero=some b)(l:q.bytes≤1048576){base:Option Addr}{n cap m:Nat}{os j:List Value}
  (f:(Builtin.lenOf B).run P w= .ok m w) (i:(Builtin.firstCells q.size n (.slice base n cap)).run P w.drew= .ok os.toArray w.drew) (hn:(Builtin.firstCells q.size m B).run P w.drew= .ok j.toArray w.drew)
  (z:cap<n+m) (h:n+m<=16777216):
  ∃a,n+m<=a/\(Builtin.append_ #[t,t] ty #[.slice base n cap,B]).run P w=.ok (.slice (some ⟨w.heap.size,0,none⟩) (n+m) a) {w.drew with heap:=w.drew.heap.push (.cells (os.toArray++j.toArray++Builtin.zeroCells b.cells (a-(n+m))) e)}:=by
 have d: ¬(Builtin.nextslicecap (n+m) cap*q.bytes>2^48):=by have s:=AAd (n+m) cap z;have u:Builtin.nextslicecap (n+m) cap*q.bytes<=33556480*1048576:=mw o! l;omega
 refine⟨(Question.appendCap (n+m) cap e).cut (w.tape w.drawn (.appendCap (n+m) cap e)),by simp[Question.cut],?_⟩;have k:IntKind.i64.max=9223372036854775807:=g!
 have c: ¬((9223372036854775807:Int)<(n:Int)+(m:Int)/\q.bytes=0):=o!
 have o:(Question.appendCap (n+m) cap e).forced=false:=rfl;simp[Builtin.append_,sizeOf,typeInfo,zeroValue,run_underlying g,p,r,f,d,newRow,k];rw[if_neg o!,if_neg c,if_neg (by rw[o];simp),i];simp only[Result.andThen_ok];rw[hn];simp only[Result.andThen_ok,Result.ok.injEq];refine⟨rfl,?_⟩;rw[<-List.append_toArray,Array.append_assoc];rfl
end
section
variable {P:Program} {N:Nat} {o:Oper} {env:Env} {H:Az} {K:AY->Az->Prop}
def RV{d:Operand→Value}(e:o.op= .call {callee:=.builtin .append,args:= #[k,L],argTypes:= #[a,a]})
  (h:(Builtin.append_ #[a,a] o.type #[d k,d L]).run P w= .ok b A):(execOp d o).run P w= .ok (.value b) A:=by
 unfold execOp;rw[e];simp only[resolve,invoke,builtin,Sem.run_bind,Sem.run_pure,Result.andThen_ok,Qv,Bt,Hg];rw[h];rfl
def JN.drew{X:Nat->Prop}{h:Gh}{H:Az}{w:World}(s:JN X h H w):JN X h H w.drew:=s.grow rfl rfl rfl (Am _) λ_ _=>rfl
def Ha.drew{h:Gh}{H:Az}{w:World}:Ha h H w h H w.drew:=Ha.grow rfl rfl rfl (Am _) λ_ _=>rfl
def vr{as bs:List AY}{os a:List Value}{n:Array Value}(ra:mn f as os)(g:mn f bs a)(k: ∀u∈os,u.oneCell'=true)(l: ∀u∈a,u.oneCell'=true):
  Holds f (as++bs) (os.toArray++a.toArray++n) (0,0):=by
 refine⟨λj=>(os++a).getD j undef,?_,λi _=>k!,λj v d=>?_⟩;simp[ra.1,g.1];have x:j<(os++a).length:=by rcases Au j (as++bs).length with b|b;simp[ra.1,g.1]at*;omega;rw[Cc b]at d;cases d
 have c:(os++a)[j]? =some ((os++a)[j]):=A4 x;have e:(os++a).getD j undef=(os++a)[j]:=by rw[Ra,c];rfl
 show _=some ((os++a).getD j undef)/\((os++a).getD j undef).oneCell'=true/\Bp f v ((os++a).getD j undef);rw[e];refine⟨?_,?_,?_⟩;rw[Ye (by simpa using x),List.append_toArray,YN];exact c;have m:(os++a)[j]∈os++a:=Rc x;rcases A1.1 m with h|h;exact k _ h;exact l _ h;rcases Au j as.length with b|b;rw[CL b]at d;rw[CL (by rw[ra.1];exact b)]at c;exact ra.2 j v _ d c;rw[Cb b]at d;rw[Cb (by rw[ra.1];exact b),ra.1]at c;exact g.2 _ v _ d c
theorem JM.append_nil{D T:Operand}{t e:TypeId}{sz m:Nat}{d:List AY}(I:o.op= .call {callee:=.builtin .append,args:= #[D,T],argTypes:= #[t,t]})(he:eI P t=some (none,e,sz))(v:0<sz)(J:SX P e=true)
  (hs:BJ env D= .nils) (M:Nz H sz (BJ env T)=some (m,d)) (V:m<=16777216) (U:K (.sl H.length 0 sz 0 m) (H++[.live 0 d])):JM P N o env H K:=by
 apply Cv (by rw[I];rfl);intro X h a w s Q;obtain⟨B,b,hi⟩:=Q5 he;obtain⟨i,z,f,G,hz,O⟩:=Uk J;have j:=mF hi f;have R:=DU s.env D;rw[hs]at R;have y:a.eval D= .slice none 0 0:=by generalize a.eval D=c at R;cases R;rfl
 have S:=DU s.env T;unfold Oper.wp;rcases WL m with W|W;subst W;obtain⟨Z,x,E,F,A,g,p,l,q⟩:=Ox (P:=P) s.sim S v M;have u:d=[]:=EL o!;subst u;have L:E=[]:=EL g.1;subst L;have k:=nB (ty:=o.type) (base:=none) (n:=0) (cap:=0) (w':=w) B f l (by rw[j];exact q) o! rfl;rw[RV I (by rw[y];exact k),Oper.upon_value];exact⟨_,_,_,_,rfl,U,.sl (by simp[cx]) q! ⟨_,_,rfl⟩ λ_=>.inl ⟨by simp[cx,Gh.at_],rfl,rfl,rfl⟩,s.sim.virt,Ha.virt⟩;have Y:=s.sim.drew;obtain⟨Z,x,E,F,A,g,p,l,q⟩:=Ox (P:=P) Y (S.later (Ha.drew.later X)) v M;obtain⟨_,_,_,_,_,_,_,r,_⟩:=Ox (P:=P) s.sim S v M;obtain⟨C,hC,k⟩:=qt (ty:=o.type) (base:=none) (n:=0) (cap:=0) (os:=[]) B f hz G r (by rfl) (by rw[j];exact q) o! o!;rw[RV I (by rw[y];exact k),Oper.upon_value];have hh:Holds (cx X h H w.drew) d (#[]++E.toArray++Builtin.zeroCells z.cells (C-(0+m))) (0,0):=vr (as:=[]) (os:=[]) ⟨rfl,λ_ _ _ h=>by cases h⟩ g (λ_ h=>by cases h) p;refine⟨_,_,_,_,rfl,U,?_,Y.push _ e (0,0) d hh,Ha.drew.trans (Ha.push _ _ _)⟩;rw[D7];refine .sl (by simp[cx]) q! ⟨_,_,rfl⟩ λ_=>.inr ⟨w.heap.size,C,by simp[cx,Gh.at_],o!,?_,rfl⟩;have e1:E.length=m*sz:=by rw[g.1,A]
 simp only[cx,Gh.at_,if_true,Array.size_append,fE,ZO,O,j,e1];have:(C-(0+m))*sz+m*sz=C*sz:=by rw[<-FG];congr 1;omega
 grind
end
end Go.Ab
