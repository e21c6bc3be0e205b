/- Texts of wip, joined and shortened by wip/tools/pack.py; nothing is assumed. -/
import Derived.Calls
import Derived.Below
import Derived.RangeFuncRecord
import Derived.OrdersIn
import Derived.Lib.FrozenHead
import Derived.Orders
import Derived.Laws.Cells
import Derived.Laws.Entries
import Derived.Laws.StructEq
import Derived.ChangeKeysEq
import Derived.Laws.BytesString
import Derived.Laws.Tables
import Derived.Great.FillDense
import Derived.Great.BuildSlice
namespace Go
theorem n!{A B:Prop}(h: ¬A:=by decide):A->B:=λa=>absurd a h
theorem o!{P:Prop}(h:P:=by omega):P:=h
theorem d!{P:Prop}(h:P:=by dsimp only;omega):P:=h
theorem g!{P:Prop}(h:P:=by decide):P:=h
theorem k!{P:Prop}(h:P:=by simp):P:=h
theorem q!{P:Prop}(h:P:=by grind):P:=h
theorem w!{P:Prop}(h:P:=by simp;omega):P:=h
theorem v!{P:Prop}(h:P:=by assumption):P:=h
theorem u!{P:Prop}(h:P:=by dsimp only;decide):P:=h
theorem t!{P:Prop}(h:P:=by simp_all):P:=h
end Go
noncomputable section
set_option linter.all false
namespace Go
def qx:=@Array.eq_empty_of_size_eq_zero
def mU:=@Array.extract_size
def QJ:=@Array.getD_eq_getD_getElem?
def Xq:=@Array.getElem?_append_left
def rC:=@Array.getElem?_append_right
def Nf:=@Array.getElem?_eq_getElem
def rD:=@Array.getElem?_eq_none
def wa:=@Array.getElem?_eq_none_iff
def bC:=@Array.getElem?_eq_some_iff
def bE:=@Array.getElem?_map
def ay:=@Array.getElem?_modify
def TF:=@Array.getElem?_push
def tq:=@Array.getElem?_setIfInBounds_ne
def PV:=@Array.getElem?_toList
def Du:=@Array.length_toList
def tu:=@Array.mem_of_getElem?
def nt:=@Array.size_setIfInBounds
def nu:=@BitVec.eq_of_getLsbD_eq
def az:=@BitVec.ofInt_natCast
def bA:=@BitVec.toNat_ofNat
def jc:=@BitVec.xor_assoc
def bB:=@BitVec.xor_self
def jd:=@BitVec.zero_xor
def BY:=@Bool.and_eq_true
def XT:=@Bool.and_self
def Qr:=@Bool.and_true
def PW:=@Bool.false_eq_true
def XU:=@Bool.not_eq_true'
def Cw:=@Bool.not_true
def XV:=@Bool.or_eq_true
def Qs:=@Decidable.byContradiction
def EY:=@Int.eq_ofNat_of_zero_le
def je:=@Int.fdiv_eq_ediv_of_nonneg
def Ae:=@Int.le_refl
def jf:=@Int.le_trans
def jg:=@Int.lt_or_le
def nv:=@Int.mul_ediv_add_emod
def nw:=@Int.tmod_lt_of_pos
def ny:=@Int.tmod_nonneg
def DG:=@Int.toNat_natCast
def IC:=@Int.toNat_of_nonneg
def nz:=@List.Pairwise.imp_of_mem
def tz:=@List.Perm.eq_of_pairwise
def oA:=@List.Perm.refl
def oB:=@List.all_cons
def GA:=@List.all_eq_true
def oC:=@List.all_nil
def oD:=@List.any_eq_true
def A0:=@List.append_assoc
def jh:=@List.append_eq_append_iff
def D7:=@List.append_inj
def C5:=@List.append_nil
def Di:=@List.cons_append
def XW:=@List.drop_append
def oE:=@List.drop_append_of_le_length
def Nd:=@List.drop_drop
def PX:=@List.drop_eq_getElem_cons
def jj:=@List.drop_eq_nil_of_le
def Qt:=@List.drop_left
def jk:=@List.drop_left'
def VV:=@List.drop_of_length_le
def jl:=@List.drop_zero
def EZ:=@List.eq_nil_of_length_eq_zero
def Iw:=@List.ext_getElem?
def uA:=@List.extract_eq_take_drop
def uB:=@List.filterMap_append
def Ix:=@List.filter_append
def VW:=@List.filter_cons
def uC:=@List.filter_cons_of_neg
def uD:=@List.filter_cons_of_pos
def jm:=@List.filter_nil
def XX:=@List.flatMap_append
def ID:=@List.flatMap_cons
def oF:=@List.flatMap_nil
def oG:=@List.flatten_cons
def XY:=@List.foldl_append
def XZ:=@List.foldl_cons
def Qu:=@List.getD_eq_getElem?_getD
def CT:=@List.getElem?_append_left
def Cj:=@List.getElem?_append_right
def oH:=@List.getElem?_cons_succ
def jn:=@List.getElem?_cons_zero
def KX:=@List.getElem?_drop
def Av:=@List.getElem?_eq_getElem
def Cm:=@List.getElem?_eq_none
def HJ:=@List.getElem?_eq_some_iff
def CN:=@List.getElem?_map
def Dn:=@List.getElem?_of_mem
def Qv:=@List.getElem?_range
def VX:=@List.getElem?_set
def DU:=@List.getElem?_set_ne
def Gt:=@List.getElem?_set_self
def bD:=@List.getElem?_take
def JW:=@List.getElem?_take_of_lt
def jp:=@List.getElem?_toArray
def uE:=@List.getElem?_zip_eq_some
def Ng:=@List.getElem_mem
def Ac:=@List.length_append
def Bn:=@List.length_cons
def EH:=@List.length_drop
def dU:=@List.length_eq_zero_iff
def Fy:=@List.length_filter_le
def CA:=@List.length_map
def BV:=@List.length_nil
def HG:=@List.length_replicate
def dV:=@List.length_set
def qy:=@List.length_singleton
def BQ:=@List.length_take
def dW:=@List.length_take_le
def Ki:=@List.map_append
def Mk:=@List.map_congr_left
def Bl:=@List.map_cons
def lI:=@List.map_drop
def dX:=@List.map_id
def Ml:=@List.map_map
def HH:=@List.map_nil
def QE:=@List.map_toArray
def An:=@List.mem_append
def GI:=@List.mem_append_left
def Kj:=@List.mem_append_right
def Aw:=@List.mem_cons
def CW:=@List.mem_cons_of_mem
def Iv:=@List.mem_cons_self
def BW:=@List.mem_filter
def OX:=@List.mem_filterMap
def Hj:=@List.mem_flatMap
def VS:=@List.mem_iff_getElem
def FZ:=@List.mem_iff_getElem?
def Br:=@List.mem_map
def Sp:=@List.mem_map_of_mem
def BN:=@List.mem_of_getElem?
def Mm:=@List.mem_of_mem_drop
def Fa:=@List.mem_of_mem_take
def OY:=@List.mem_or_eq_of_mem_set
def Hk:=@List.mem_range
def A6:=@List.mem_singleton
def qz:=@List.mem_zipIdx_iff_getElem?
def Bw:=@List.nil_append
def QF:=@List.nodup_append
def Gk:=@List.nodup_cons
def Kk:=@List.nodup_iff_pairwise_ne
def QG:=@List.nodup_nil
def Hl:=@List.pairwise_iff_getElem
def Sq:=@List.pairwise_map
def lJ:=@List.perm_ext_iff_of_nodup
def lK:=@List.replicate_succ
def Sr:=@List.set_append_right
def Xl:=@List.set_set
def rA:=@List.singleton_append
def dY:=@List.size_toArray
def VT:=@List.sum_cons
def C3:=@List.take_add_one
def dZ:=@List.take_append
def DN:=@List.take_append_drop
def da:=@List.take_append_of_le_length
def Xm:=@List.take_left
def Fb:=@List.take_left'
def Hm:=@List.take_length
def BO:=@List.take_of_length_le
def Kl:=@List.take_take
def db:=@List.zip_append
def dc:=@Nat.add_assoc
def Xn:=@Nat.add_comm
def EW:=@Nat.add_mul
def lL:=@Nat.add_sub_cancel
def Ss:=@Nat.add_sub_cancel_left
def Su:=@Nat.add_zero
def Hn:=@Nat.beq_refl
def DO:=@Nat.eq_of_beq_eq_true
def VU:=@Nat.eq_zero_or_pos
def OZ:=@Nat.le_of_ble_eq_true
def Ap:=@Nat.le_refl
def Dh:=@Nat.le_trans
def DQ:=@Nat.lt_of_lt_of_le
def Ay:=@Nat.lt_or_ge
def QH:=@Nat.lt_trichotomy
def QI:=@Nat.min_eq_left
def Sv:=@Nat.mod_eq_of_lt
def Xo:=@Nat.mod_lt
def lM:=@Nat.mul_le_mul
def Mn:=@Nat.mul_le_mul_right
def Bi:=@Nat.ne_of_lt
def dd:=@Nat.pow_le_pow_right
def Gl:=@Nat.sub_self
def lO:=@Nat.sub_zero
def D9:=@Nat.zero_add
def Be:=@Nat.zero_le
def Xp:=@Nat.zero_mul
def Oa:=@Ne.symm
def Dp:=@Option.bind_eq_some_iff
def AD:=@Option.bind_some
def lP:=@Option.getD_some
def de:=@Option.isSome_iff_exists
def Sw:=@Option.map_eq_some_iff
def lQ:=@Option.map_none
def Bs:=@Option.map_some
def Bf:=@Option.some.inj
def Ao:=@Option.some.injEq
def lR:=@Option.toList_some
def DR:=@Prod.ext
def EX:=@Prod.mk.injEq
def lS:=@Sum.elim_inr
def dh:=@UInt8.toNat_ofNat'
end Go
namespace Go.Ab
inductive Aa where
 |bool (b:Bool)
 |int (k:IntKind) (n:Int)
 |str (s:List UInt8)
 |nilp
 |ptr (id g off:Nat)
 |vptr (cs:List Aa)
 |nils
 |vs (sz:Nat) (rows:List Aa)
 |sl (id g sz off len:Nat)
 |fn (f:Fn) (first caps:List Aa)
 |yf (id:Nat)
 |mp (id:Nat)
 |itp (id m:Nat)
 |nilf
 |agg (cs:List Aa)
 |tup (vs:List Aa)
 |any
 deriving Inhabited
def Aa.cells:Aa->List Aa
 | .agg cs=>cs
 |v=>[v]
structure Cx where
 w:World
 n:Nat
 io:Nat->Option Nat
 gen:Nat->Nat
 cap:Nat->Nat
 O:Nat->Prop
inductive Bx(x:Cx):Aa->Value->Prop where
 |bool (b:Bool):Bx x (.bool b) (.bool b)
 |int (k:IntKind) (n:Int):Bx x (.int k n) (.int k n)
 |str {s:List UInt8} (t:ByteArray) (h:t.data.toList=s):Bx x (.str s) (.string t)
 |nilp:Bx x .nilp (.pointer none)
 |ptr {id g off:Nat} {c:Value} (hid:id<x.n) (hg:g≤x.gen id) (h1:c.oneCell'=true)
   (hc:x.gen id=g-> ∃B,x.io id=some B/\c= .pointer (some ⟨B,off,none⟩)):Bx x (.ptr id g off) c
 |vptr {cs:List Aa} {B off:Nat} (f:Nat→Value) (hO: ¬x.O B) (hB:B<x.w.heap.size)
   (hc: ∀(j:Nat) (v:Aa),cs[j]? =some v->x.w.cell? ⟨B,off+j,none⟩=some (f j)/\(f j).oneCell'=true)
   (hv: ∀(j:Nat) (v:Aa),cs[j]? =some v->Bx x v (f j)):Bx x (.vptr cs) (.pointer (some ⟨B,off,none⟩))
 |nils:Bx x .nils (.slice none 0 0)
 |vs {sz:Nat} {rows:List Aa} {a:Option Addr} {cap:Nat} (f:Nat→Nat→Value) (hcap:rows.length≤cap) (hsz:0<sz)
   (hrow: ∀(j:Nat) (e:Aa),rows[j]? =some e->e.cells.length=sz)
   (ha:rows≠ []-> ∃B off,a=some ⟨B,off,none⟩/\ ¬x.O B/\B<x.w.heap.size/\
    ∀(j:Nat) (e:Aa) (i:Nat) (v:Aa),rows[j]? =some e->e.cells[i]? =some v->x.w.cell? ⟨B,off+(j*sz+i),none⟩=some (f j i)/\(f j i).oneCell'=true)
   (hv: ∀(j:Nat) (e:Aa) (i:Nat) (v:Aa),rows[j]? =some e->e.cells[i]? =some v->Bx x v (f j i)):Bx x (.vs sz rows) (.slice a rows.length cap)
 |sl {id g sz off len:Nat} {c:Value} (hid:id<x.n) (hg:g≤x.gen id) (h1: ∃a cap,c= .slice a len cap)
   (hc:x.gen id=g->(x.io id=none/\len=0/\off=0/\c= .slice none 0 0)\/
    ∃B cap,x.io id=some B/\len<=cap/\off+cap*sz<=x.cap id/\c= .slice (some ⟨B,off,none⟩) len cap):Bx x (.sl id g sz off len) c
 |fn {f:Fn} {first caps:List Aa} {first' caps':Array Value} (h1:first'.size=first.length) (h2:caps'.size=caps.length)
   (hv1: ∀(j:Nat) (v:Aa) (c:Value),first[j]? =some v->first'[j]? =some c->Bx x v c) (hv2: ∀(j:Nat) (v:Aa) (c:Value),caps[j]? =some v->caps'[j]? =some c->Bx x v c):
   Bx x (.fn f first caps) (.func f first' caps')
 |yf {id:Nat} {c:Value} (hid:id<x.n) (h1:c.oneCell'=true) (hc:x.gen id=0-> ∃B,x.io id=some B/\c= .func (.yield B) #[] #[]):Bx x (.yf id) c
 |mp {id:Nat} {c:Value} (hid:id<x.n) (h1:c.oneCell'=true) (hc:x.gen id=0-> ∃B,x.io id=some B/\c= .map (some B)):Bx x (.mp id) c
 |itp {id m:Nat} {c:Value} (hid:id<x.n) (hm:m<x.n) (h1:c.oneCell'=true) (hc:x.gen id=0-> ∃B,x.io id=some B/\c= .pointer (some ⟨B,0,none⟩)/\(x.gen m=0->x.io m=some (x.cap id))):Bx x (.itp id m) c
 |nilf:Bx x .nilf .nilFunc
 |agg {cs:List Aa} {cs':Array Value} (h:cs'.size=cs.length) (h1: ∀(j:Nat) (c:Value),cs'[j]? =some c→c.oneCell'=true)
   (hv: ∀(j:Nat) (v:Aa) (c:Value),cs[j]? =some v->cs'[j]? =some c->Bx x v c):Bx x (.agg cs) (.agg cs')
 |tup {vs:List Aa} {vs':Array Value} (h:vs'.size=vs.length)
   (hv: ∀(j:Nat) (v:Aa) (c:Value),vs[j]? =some v->vs'[j]? =some c->Bx x v c):Bx x (.tup vs) (.tuple vs')
 |any (c:Value):Bx x .any c
structure Cx.Later(x y:Cx):Prop where
 size:x.w.heap.size<=y.w.heap.size
 keep: ∀B,B<x.w.heap.size-> ¬x.O B-> ∀off,y.w.cell? ⟨B,off,none⟩=x.w.cell? ⟨B,off,none⟩
 own: ∀B,B<x.w.heap.size->y.O B->x.O B
 n:x.n<=y.n
 gen: ∀id,id<x.n->x.gen id<=y.gen id
 same: ∀id,id<x.n->y.gen id=x.gen id->y.io id=x.io id/\y.cap id=x.cap id
variable {N t:Nat}{a J:TypeId}{w A:World}{b B:Value}{P:Program}{c:Nat→Prop}{d:List Aa}{e p G:Aa}{f:Cx}{i:Array Value}{j:Act}{k L:Operand}{l:Option (List Deferred)}{o:Oper}{n:Code}{X:Nat->Prop}{q:TypeInfo}{r:List Nat}{s:Bool}{v:Option Nat}{x:List Value}{y:Nat×Nat}{z:Nat->Nat}{D:IntKind}{E:FuncId}{F:BinOp}{I:Func}{M:Obj}
theorem kp(h:A.heap[N]? =w.heap[N]?)(a:Nat):A.cell? ⟨N,a,none⟩=w.cell? ⟨N,a,none⟩:=by grind[World.cell?]
theorem Bx.later{x y:Cx}(h:x.Later y)(r:Bx x e b):Bx y e b:=by
 induction r with
 |bool c=>exact .bool c
 |int k n=>exact .int k n
 |str t J=>exact .str t J
 |nilp=>exact .nilp
 |ptr a w d m=>refine .ptr (DQ a h.n) (Dh w (h.gen _ a)) d λv=>?_;have d:=h.gen _ a;have l:=h.same _ a o!;grind
 |vptr f q g m K p=>refine .vptr f (λo=>q (h.own _ g o)) (DQ g h.size) (λj e H=>?_) p;rw[h.keep _ g q];grind
 |nils=>exact .nils
 |vs f s C u G K p=>refine .vs f s C u (λA=>?_) p;obtain⟨B,F,v,q,g,m⟩:=G A;refine⟨B,F,v,(λo=>q (h.own _ g o)),DQ g h.size,λj v i e H N=>?_⟩;rw[h.keep _ g q];grind
 |sl a w d m=>refine .sl (DQ a h.n) (Dh w (h.gen _ a)) d λv=>?_;have d:=h.gen _ a;have l:=h.same _ a o!;grind
 |fn d l _ _ D E=>exact .fn d l D E
 |yf a d m=>refine .yf (DQ a h.n) d λv=>?_;have d:=h.gen _ a;have l:=h.same _ a o!;grind
 |mp a d m=>refine .mp (DQ a h.n) d λv=>?_;have d:=h.gen _ a;have l:=h.same _ a o!;grind
 |itp a z d m=>refine .itp (DQ a h.n) (DQ z h.n) d λv=>?_;have d:=h.gen _ a;have l:=h.same _ a o!;obtain⟨B,g,I,O⟩:=m o!;refine⟨B,l.1.trans g,I,λv=>?_⟩;have L:=h.gen _ z;have M:=h.same _ z o!;grind
 |nilf=>exact .nilf
 |agg h d _ p=>exact .agg h d p
 |tup h _ p=>exact .tup h p
 |any b=>exact .any b
abbrev Env:=List (Nat×Aa)
structure kf where
 n:Nat
 env:Env
 params:Array Tmp
 assign:Code
 body:Code
 state:LoopState
 pending:Option Code
inductive Fl where
 |dead
 |live (g:Nat) (cells:List Aa)
 |lp (L:kf)
 |mp (k:IntKind) (es:List (Int×Aa))
 |it (n:Nat) (seen:List Nat)
 deriving Inhabited
def Fl.isB:Fl->Bool
 | .mp _ _=>true
 | .it _ _=>true
 |_=>false
abbrev A1:=List Fl
structure Gh where
 io:Nat->Option Nat
 gen:Nat->Nat
 cap:Nat->Nat
def owned(h:Gh)(H:A1)(B:Nat):Prop:= ∃id e,H[id]? =some e/\e≠Fl.dead/\h.io id=some B
def cx(X:Nat->Prop)(h:Gh)(H:A1)(w:World):Cx:=⟨w,H.length,h.io,h.gen,h.cap,λB=>X B\/owned h H B⟩
def zp(x:Cx)(id g:Nat)(cs:List Aa):Prop:=
 x.gen id=g/\((x.io id=none/\cs=[])\/ ∃(B:Nat) (arr:Array Value) (T:TypeId) (fz:Nat×Nat) (f:Nat->Value),x.io id=some B/\x.w.heap[B]? =some (.cells arr T fz)/\arr.size=x.cap id/\
  cs.length<=arr.size/\(∀i,i<arr.size->(decide (fz.1<=i)&&decide (i<fz.2))=false)/\
  ∀(j:Nat) (v:Aa),cs[j]? =some v->arr[j]? =some (f j)/\(f j).oneCell'=true/\Bx x v (f j))
def vE(x:Cx)(id:Nat)(L:kf):Prop:=
 x.gen id=0/\ ∃(B:Nat) (r:Loop),x.io id=some B/\x.w.heap[B]? =some (.loop r)/\r.state=L.state/\r.pending=L.pending/\r.params=L.params/\r.assign=L.assign/\r.body=L.body/\r.tmps.size=L.n/\
  ∀t v,(t,v)∈L.env->t<L.n/\Bx x v (r.tmps.getD t undef)
def BAt(h:Gh)(w:World)(id:Nat):Fl->Prop
 | .mp k es=> ∃(B:Nat) (arr:Array MapEntry),h.io id=some B∧h.gen id=0∧w.heap[B]? =some (.map arr arr.size)∧arr.size=es.length∧
   ∀(j:Nat) (p:Int×Aa),es[j]? =some p-> ∃e:MapEntry,arr[j]? =some e/\e.born=j/\e.key= .int k p.1/\ ∀x,Bx x p.2 e.val
 | .it n seen=> ∃B,h.io id=some B/\h.gen id=0/\w.heap[B]? =some (.mapIter (some (h.cap id)) n seen.toArray n)
 |_=>True
structure It(X:Nat->Prop)(h:Gh)(H:A1)(w:World):Prop where
 out: ∀B,X B->B<w.heap.size/\ ¬owned h H B
 live: ∀(id g:Nat) (cs:List Aa),H[id]? =some (Fl.live g cs)->zp (cx X h H w) id g cs
 lp: ∀(id:Nat) (L:kf),H[id]? =some (Fl.lp L)->vE (cx X h H w) id L
 inj: ∀(id id':Nat) (e e':Fl) (B:Nat),H[id]? =some e->H[id']? =some e'->e≠ .dead->e'≠ .dead->h.io id=some B->h.io id'=some B->id=id'
 bld: ∀(id:Nat) (e:Fl),H[id]? =some e->e.isB=true->BAt h w id e
variable {H R:A1}{h O:Gh}{g:Env}{m:Fl}{K:Aa->A1->Prop}{u:Aa→A1→Prop}
def It.bldKeep(s:It c h H w)
  (key: ∀(id:Nat) (e:Fl),R[id]? =some e->e.isB=true->H[id]? =some e/\O.io id=h.io id/\O.gen id=h.gen id/\O.cap id=h.cap id/\ ∀B (o:Obj),h.io id=some B->w.heap[B]? =some o->(∀z,o≠ .deferred z)->A.heap[B]? =w.heap[B]?):
  ∀(id:Nat) (e:Fl),R[id]? =some e->e.isB=true->BAt O A id e:=by
 intro id e v q;obtain⟨m,g,a,f,r⟩:=key id e v q;have b:=s.bld id e m q;cases e with
 |mp k x=>obtain⟨B,j,X,l,d,u⟩:=b;exact⟨B,j,g.trans X,a.trans l,(r B _ X d (λz=>k!)).trans d,u⟩
 |it n seen=>obtain⟨B,X,l,d⟩:=b;exact⟨B,g.trans X,a.trans l,by rw[f];exact(r B _ X d (λz=>k!)).trans d⟩
 |_=>trivial
def OP(x:Cx)(env:Env)(a:Act):Prop:= ∀t v,(t,v)∈env->t<a.tmps.size/\Bx x v (a.tmps.getD t undef)
structure St(X:Nat->Prop)(h:Gh)(N:Nat)(env:Env)(H:A1)(a:Act)(w:World):Prop where
 sim:It X h H w
 env:OP (cx X h H w) env a
 size:a.tmps.size=N
structure HE(h:Gh)(H:A1)(w:World)(h':Gh)(H':A1)(w':World):Prop where
 os:w'.os=w.os
 tape:w'.tape=w.tape
 output:w'.output=w.output
 size:w.heap.size<=w'.heap.size
 keep: ∀B,B<w.heap.size-> ¬owned h H B->w'.heap[B]? =w.heap[B]?
 n:H.length<=H'.length
 gen: ∀id,id<H.length->h.gen id<=h'.gen id
 same: ∀id,id<H.length->h'.gen id=h.gen id->h'.io id=h.io id/\h'.cap id=h.cap id
 fresh: ∀B,owned h' H' B->owned h H B\/w.heap.size<=B
 loops: ∀(B:Nat) (r:Loop),w.heap[B]? =some (.loop r)-> ∃r':Loop,w'.heap[B]? =some (.loop r')
def HE.refl(h:Gh)(H:A1)(w:World):HE h H w h H w:=⟨rfl,rfl,rfl,Ap _,λ_ _ _=>rfl,Ap _,λ_ _=>Ap _,λ_ _ _=>⟨rfl,rfl⟩,λ_ h=>.inl h,λ_ r h=>⟨r,h⟩⟩
theorem HE.trans{c j k:Gh}{f g i:A1}{l m o:World}(a:HE c f l j g m)(b:HE j g m k i o):HE c f l k i o where
 os:=b.os.trans a.os
 tape:=b.tape.trans a.tape
 output:=b.output.trans a.output
 size:=Dh a.size b.size
 keep B hB hn:=(b.keep B (DQ hB a.size) λd=>by rcases a.fresh B d with h|h;grind;omega).trans (a.keep B hB hn)
 n:=Dh a.n b.n
 gen id hid:=Dh (a.gen id hid) (b.gen id (DQ hid a.n))
 same id hid e:=by have q:=a.gen id hid;have s:=b.gen id (DQ hid a.n);have u:=a.same id hid o!;have v:=b.same id (DQ hid a.n) o!;grind
 fresh B d:=by rcases b.fresh B d with h|h;exact a.fresh B h;exact .inr (Dh a.size h)
 loops B r h:=by obtain⟨p,c⟩:=a.loops B r h;exact b.loops B p c
def HE.later{h c:Gh}{H b:A1}{w d:World}(e:HE h H w c b d)(X:Nat->Prop):(cx X h H w).Later (cx X c b d)where
 size:=e.size
 keep B hB hO off:=kp (e.keep B hB λa=>hO (.inr a)) off
 own B hB a:=by rcases a with a|a;exact .inl a;rcases e.fresh B a with h|h;exact .inr h;simp only[cx]at hB;omega
 n:=e.n
 gen:=e.gen
 same:=e.same
def OP.later{x y:Cx}(l:x.Later y)(h:OP x g j):OP y g j:=λt v m=>⟨(h t v m).1,(h t v m).2.later l⟩
def Ek(P:Program)(F:FuncId)(args:List Aa)(H:A1)(Q:Aa->A1->Prop):Prop:=
 ∀(X:Nat->Prop) (h:Gh) (w:World) (cargs:Array Value),It X h H w->cargs.size=args.length->
  (∀(j:Nat) (v:Aa) (c:Value),args[j]? =some v->cargs[j]? =some c->Bx (cx X h H w) v c)->
  Calls P F cargs w λe w'=> ∃c v h' H',e= .returned c/\Q v H'/\It X h' H' w'/\Bx (cx X h' H' w') v c/\HE h H w h' H' w'
def FR(r:Option Nat):Fence:={Fence.wide with round:=r}
def ZZ(a:Act)(w:World)(a':Act)(w':World):Prop:=
 ∃ds,a'.defers=ds++a.defers/\ds.Nodup/\ ∀d∈ds,∃D,d={target:=.collected D,args:= #[]}/\w.heap.size<=D/\w'.heap[D]? =some (.deferred (some []))
def mS(r:Option Nat)(w:World):Prop:= ∀l,r=some l-> ∃x:Loop,w.heap[l]? =some (.loop x)
def ZZ.same{b:Act}{w c:World}(h:b.defers=j.defers):ZZ j w b c:=⟨[],by simp[h],.nil,λ_ h=>by cases h⟩
def It.deferred(s:It X h H w)(j:w.heap[N]? =some (.deferred l)): ¬owned h H N:=by
 rintro⟨id,e,D,o,b⟩;cases e with
 |dead=>exact o rfl
 |live g p=>rcases(s.live id g p D).2 with⟨hn,_⟩|⟨B,m,T,t,f,a,i,_⟩;rw[show(cx X h H w).io id=h.io id from rfl,b]at hn;cases hn;rw[show(cx X h H w).io id=h.io id from rfl,b]at a;injection a with e;subst e;rw[show(cx X h H w).w.heap=w.heap from rfl,j]at i;cases i
 |lp L=>obtain⟨_,B,r,a,i,_⟩:=s.lp id L D;rw[show(cx X h H w).io id=h.io id from rfl,b]at a;injection a with e;subst e;rw[show(cx X h H w).w.heap=w.heap from rfl,j]at i;cases i
 |mp k q=>obtain⟨B,m,c,_,d,_⟩:=s.bld id _ D rfl;rw[b]at c;injection c with e;subst e;rw[j]at d;cases d
 |it n seen=>obtain⟨B,c,_,d⟩:=s.bld id _ D rfl;rw[b]at c;injection c with e;subst e;rw[j]at d;cases d
theorem qa(h:w.heap[N]? =some M):N<w.heap.size:=q!
def HE.defs(x:HE h H w O R A)(s:It X h H w)(a:w.heap[N]? =some (.deferred l)):A.heap[N]? =some (.deferred l):=(x.keep N (qa a) (s.deferred a)).trans a
theorem ZZ.trans{X:Nat->Prop}{h j b:Gh}{H f n:A1}{a a1 a2:Act}{w e m:World}(o:ZZ a w a1 e)(s:It X j f e)(z:HE h H w j f e)(x:HE j f e b n m)(p:ZZ a1 e a2 m):ZZ a w a2 m:=by obtain⟨g,B,t,v⟩:=o;obtain⟨i,C,u,y⟩:=p;refine⟨i++g,q!,QF.2 ⟨u,t,λd r A q E=>?_⟩,λd c=>?_⟩;grind;rcases An.1 c with c|c;obtain⟨D,k,b,l⟩:=y d c;exact⟨D,k,Dh z.size b,l⟩;obtain⟨D,k,b,l⟩:=v d c;exact⟨D,k,b,x.defs s l⟩
def mS.later{h c:Gh}{H b:A1}{w a:World}(k:mS v w)(x:HE h H w c b a):mS v a:=λl e=>by obtain⟨y,d⟩:=k l e;exact x.loops l y d
def Lh(P:Program)(N:Nat)(c:Code)(env:Env)(H:A1)(Q:Exit->Env->A1->Prop):Prop:=
 ∀(r:Option Nat) (X:Nat->Prop) (h:Gh) (a:Act) (w:World),St X h N env H a w->mS r w->
  c.wpIn (FR r) 0 P (λe a' w'=> ∃h' env' H',Q e env' H'/\St X h' N env' H' a' w'/\HE h H w h' H' w'/\ZZ a w a' w') a w
def Ek.mono{P:Program}{F:FuncId}{H:A1}{Q:Aa->A1->Prop}(h:Ek P F d H K)(i: ∀v b,K v b->Q v b):Ek P F d H Q:=λX g w a s j hr=>(h X g w a s j hr).mono λ_ _ ⟨c,v,f,b,e,q,r⟩=>⟨c,v,f,b,e,i _ _ q,r⟩
def Lh.mono{P:Program}{N:Nat}{H:A1}{Q f:Exit->Env->A1->Prop}(h:Lh P N n g H Q)(j: ∀e b d,Q e b d->f e b d):Lh P N n g H f:=λr X c a w s k=>wpIn_mono (h r X c a w s k) λ_ _ _ ⟨i,b,d,q,r⟩=>⟨i,b,d,j _ _ _ q,r⟩
def vA(K:Env->A1->Prop)(Q:Exit->Env->A1->Prop):Exit->Env->A1->Prop
 | .normal,env,H=>K env H
 |e,env,H=>Q e env H
def oK(id:Nat)(Q:Exit->Env->A1->Prop):Exit->Env->A1->Prop
 | .exit id',env,H=>if id'=id then Q .normal env H else Q (.exit id') env H
 |e,env,H=>Q e env H
section rules
variable {P:Program} {N:Nat} {env:Env} {H:A1} {Q:Exit->Env->A1->Prop}
def Lh.skip(h:Q .normal env H):Lh P N .skip env H Q:=λ_ _ _ _ _ s _=>wpIn_skip ⟨_,_,_,h,s,HE.refl _ _ _,.same rfl⟩
def Lh.ret(h:Q .ret env H):Lh P N .ret env H Q:=λ_ _ _ _ _ s _=>wpIn_ret ⟨_,_,_,h,s,HE.refl _ _ _,.same rfl⟩
def Lh.exit(h:Q (.exit t) env H):Lh P N (.exit t) env H Q:=λ_ _ _ _ _ s _=>wpIn_exit ⟨_,_,_,h,s,HE.refl _ _ _,.same rfl⟩
def Lh.seq{x y:Code}(h:Lh P N x env H (vA (λb d=>Lh P N y b d Q) Q)):Lh P N (.seq x y) env H Q:=by
 intro r X g a w s k;refine wpIn_seq (wpIn_mono (h r X g a w s k) ?_);rintro e n u ⟨j,b,d,q,f,c,i⟩;cases e with
 |normal=>apply wpIn_mono (q r X j n u f (k.later c));rintro e a2 v ⟨p,env2,m,q2,t,l,o⟩;exact⟨p,env2,m,q2,t,c.trans l,i.trans f.sim c l o⟩
 |_=>exact⟨j,b,d,q,f,c,i⟩
theorem Lh.block{id:Nat}(h:Lh P N n env H (oK id Q)):Lh P N (.block id n) env H Q:=by intro r X g a w s k;refine wpIn_block (wpIn_mono (h r X g a w s k) ?_);rintro e f j ⟨i,b,d,q,r⟩;cases e<;>grind[oK,Exit.inBlock]
def GD(N n0:Nat)(env:Env)(H:A1)(env2:Env)(H2:A1):Prop:=
 n0<=H2.length/\ ∀(X:Nat->Prop) (h:Gh) (a:Act) (w:World),St X h N env H a w->
  ∃h2,St X h2 N env2 H2 a w/\(∀id,id<n0->h2.gen id=h.gen id/\h2.io id=h.io id/\h2.cap id=h.cap id)/\ ∀B,owned h2 H2 B->owned h H B
def GD.ext{d:Gh}{f:A1}(hn:f.length=N)(o:N≤R.length)
  (k: ∀id,id<N->d.gen id=h.gen id/\d.io id=h.io id/\d.cap id=h.cap id) (m: ∀B,owned d R B->owned h H B) (x:HE O f A h H w):HE O f A d R w where
 os:=x.os
 tape:=x.tape
 output:=x.output
 size:=x.size
 keep:=x.keep
 n:=o!
 gen id hid:=by rw[(k id o!).1];exact x.gen id hid
 same id hid e:=by obtain⟨a,b,c⟩:=k id o!;rw[a]at e;rw[b,c];exact x.same id hid e
 fresh B hB:=x.fresh B (m B hB)
 loops:=x.loops
theorem GD.refl(N:Nat)(env:Env)(H:A1):GD N H.length env H env H:=⟨Ap _,λ_ h _ _ s=>⟨h,s,λ_ _=>⟨rfl,rfl,rfl⟩,λ_ h=>h⟩⟩
def Lh.weak(f:GD N H.length env H g R)(h:Lh P N n g R Q):Lh P N n env H Q:=by intro r X c a w s k;obtain⟨m,t,d,o⟩:=f.2 X c a w s;apply wpIn_mono (h r X m a w t k);rintro e v x ⟨l,b,i,q,p,u,j⟩;exact⟨l,b,i,q,p,(GD.ext rfl f.1 d o (HE.refl c H w)).trans u,j⟩
end rules
def Env.get:Env->Nat->Aa
 |[],_=>.any
 |(k,v)::r,t=>if k=t then v else Env.get r t
def Env.put(env:Env)(t:Nat)(v:Aa):Env:=(t,v)::env.filter λp=>decide (p.1≠t)
def Env.putO(env:Env):Option Nat->Aa->Env
 |some t,v=>env.put t v
 |none,_=>env
theorem Nj{env:Env}{t:Nat}:Env.get env t= .any\/(t,Env.get env t)∈env:=by induction env<;>grind[Env.get]
def pZ:Value->Aa
 | .bool b=>.bool b
 | .int k n=>.int k n
 | .string s=>.str s.data.toList
 | .pointer none=>.nilp
 | .slice none 0 0=>.nils
 | .nilFunc=>.nilf
 |_=>.any
def ABD:Value->Aa
 | .agg cs=>if cs.toList.all (·.oneCell')then .agg (cs.toList.map pZ)else .any
 |v=>pZ v
theorem oV(x:Cx)(v:Value):Bx x (pZ v) v:=by unfold pZ;split;exact .bool _;exact .int _ _;exact .str _ rfl;exact .nilp;exact .nils;exact .nilf;exact .any _
theorem w7(x:Cx)(v:Value):Bx x (ABD v) v:=by unfold ABD;split;rename_i b;split;rename_i h;refine .agg k! (λj c a=>?_) λj v c a d=>?_;grind;grind[oV];exact .any _;exact oV x _
def BM(env:Env):Operand->Aa
 | .tmp t=>env.get t
 | .const v=>ABD v
 | .global _=>.any
 | .func f=>.fn (.func f) [] []
def Dj(h:OP f g j)(o:Operand):Bx f (BM g o) (j.eval o):=by
 cases o with
 |tmp t=>rcases Nj (env:=g) (t:=t)with e|m;simp only[BM,e];exact .any _;exact(h _ _ m).2
 |const v=>exact w7 f v
 |global a=>exact .any _
 |func x=>exact .fn rfl rfl (λ_ _ _ h=>by simp at h) (λ_ _ _ h=>by simp at h)
theorem OP.put(h:OP f g j){d:Nat}{v:Aa}(i:d<j.tmps.size)(k:Bx f v b):OP f (g.put d v) (j.put (some d) b):=by
 intro t u m;simp only[Act.put];rcases Aw.1 m with e|m;simp_all;rw[BW]at m;obtain⟨m,x⟩:=m;have x:t≠d:=q!
 obtain⟨a,c⟩:=h t u m;have:(j.tmps.setIfInBounds d b).getD t undef=j.tmps.getD t undef:=by rw[QJ,QJ,tq (λe=>x e.symm)]
 grind
def OP.putO(h:OP f g j){d:Option Nat}{v:Aa}(b: ∀t,d=some t->t<j.tmps.size)(e:Bx f v B):OP f (g.putO d v) (j.put d B):=by
 cases d with
 |none=>exact h
 |some d=>exact h.put (b d rfl) e
def dM(a:Act)(d:Option Nat)(c:Value):(a.put d c).tmps.size=a.tmps.size:=by cases d<;>simp[Act.put]
def JJ(P:Program)(N:Nat)(o:Oper)(env:Env)(H:A1)(K:Aa->A1->Prop):Prop:=
 ∀(r:Option Nat) (X:Nat->Prop) (h:Gh) (a:Act) (w:World),St X h N env H a w-> ∀Q:Exit->Act->World->Prop,
  Oper.wpIn (FR r) 0 P o a w (λa' w'=> ∃c v h' H',a'=a.put o.dst c/\K v H'/\Bx (cx X h' H' w') v c/\It X h' H' w'/\HE h H w h' H' w') Q
def JJ.mono{P:Program}{N:Nat}{H:A1}{d:Aa->A1->Prop}(h:JJ P N o g H K)(i: ∀v b,K v b->d v b):JJ P N o g H d:=λr X j a w s Q=>Oper.wpIn_mono (λ_ _ ⟨c,v,f,b,e,k,r⟩=>⟨c,v,f,b,e,i _ _ k,r⟩) (h r X j a w s Q)
def Op.plain:Op->Bool
 | .defer _=>false
 |_=>true
def C1(n:Op.plain o.op=true)(h: ∀(X:Nat→Prop) (h:Gh) (a:Act) (w:World),St X h N g H a w→ ∀Q:Exit→Act→World→Prop,
  Oper.wp P o a w (λp b=> ∃c v i e,p=a.put o.dst c/\u v e/\Bx (cx X i e b) v c/\It X i e b/\HE h H w i e b) Q):JJ P N o g H u:=by
 intro r X K a w s Q;have d:=h X K a w s Q;refine⟨λ_ _=>trivial,?_⟩;rw[Oper.semAt_eq _ _ _ (λc j=>by rw[j]at n;cases n)];unfold Oper.wp at d;generalize (execOp a.eval o).run P w=res at d;have j: ∀{f:FuncId} {args:Array Value} {b:World} {R:Ending->World->Prop},Calls P f args b R->CallsIn (FR r) (0-1) P f args b R:=by
  intro f args b R t;have m:CallsIn Fence.wide (0-1) P f args b R:=callsIn_wide.2 t;cases r with
  |none=>exact m
  |some l=>exact m
 cases res with
 |ok v b=>
  cases v with
  |enter f args=>exact⟨(λh=>by cases h),j d⟩
  |row row args=>refine⟨(λh=>by cases h),λc q _=>?_⟩;obtain⟨v,k,z,y⟩:=d c q;exact⟨v,k,z,stepsIn_wide.2 y⟩
  |round l f tmps assign body=>exact d.elim
  |_=>exact d
 |halt x b=>cases x<;>exact d
def V7(ops:Array Oper)(env:Env)(j:Nat):Aa:=
 match (ops[j]?).bind (·.dst)with
 |some d=>env.get d
 |none=>.any
def Xi(ops:Array Oper)(g:Option (Nat×Bool))(env:Env)(A B:Prop):Prop:=
 match g with
 |none=>A
 |some (j,want)=>
  match V7 ops env j with
  | .bool b=>(b=want->A)/\(b=(!want)->B)
  | .tup []=>B
  |_=>False
def Oi(n:Nat)(ops:List Oper):Bool:=ops.all λo=>match o.dst with|some d=>decide (d<n)|none=>true
theorem xK{x:Array Oper}(s:OP f g j){A B:Prop}(h:Xi x o.guard g A B):
  (Region.wanted o (yielded x j.tmps)=true/\A)\/(Region.wanted o (yielded x j.tmps)=false/\B):=by
 unfold Xi at h;unfold Region.wanted;cases v:o.guard with
 |none=>grind
 |some p=>
  obtain⟨y,k⟩:=p;rw[v]at h;simp only at h⊢;cases a:V7 x g y with
  |bool b=>
   rw[a]at h;simp only at h;have r:yielded x j.tmps y=some b:=by
    unfold V7 at a;unfold yielded;cases n:(x[y]?).bind (·.dst)with
    |none=>grind
    |some d=>
     rw[n]at a;simp only at a;simp only[AD];rcases Nj (env:=g) (t:=d)with e|m;grind;rw[a]at m;obtain⟨q,hr⟩:=s _ _ m;have:j.tmps[d]? =some (.bool b):=by
      have i:j.tmps.getD d undef= .bool b:=by generalize j.tmps.getD d undef=c at hr;cases hr;rfl
      rw[QJ]at i;grind[Array.getElem?_eq_getElem]
     rw[this]
   rw[r];by_cases u:b=k;grind;refine .inr ⟨by simp[u],h.2 ?_⟩;cases b<;>cases k<;>simp_all
  |tup w=>
   cases w with
   |cons _ _=>grind
   |nil=>
    rw[a]at h;simp only at h;refine .inr ⟨?_,h⟩;have r:yielded x j.tmps y=none:=by
     unfold V7 at a;unfold yielded;cases n:(x[y]?).bind (·.dst)with
     |none=>rfl
     |some d=>
      rw[n]at a;simp only at a;simp only[AD];rcases Nj (env:=g) (t:=d)with e|m;grind;rw[a]at m;obtain⟨q,hr⟩:=s _ _ m;have i: ∃l,j.tmps.getD d undef= .tuple l:=by generalize j.tmps.getD d undef=c at hr;cases hr;exact⟨_,rfl⟩
      obtain⟨l,i⟩:=i;have:j.tmps[d]? =some (.tuple l):=t!
      rw[this]
    rw[r];rfl
  |_=>grind
section
variable {P:Program} {N:Nat} {env:Env} {H:A1} {Q:Exit->Env->A1->Prop}
def Lh.cond{y:Code}{b:Bool}(d:BM env k= .bool b)(h:b=true->Lh P N n env H Q)(f:b=false->Lh P N y env H Q):Lh P N (.cond k n y) env H Q:=by
 intro r X g a w s c;have hr:=Dj s.env k;rw[d]at hr;have e:a.eval k= .bool b:=by generalize a.eval k=v at hr;cases hr;rfl
 apply wpIn_cond e;cases b;exact f rfl r X g a w s c;exact h rfl r X g a w s c
end
mutual
def Aa.idsAll(p:Nat->Bool):Aa->Bool
 | .ptr id _ _=>p id
 | .sl id _ _ _ _=>p id
 | .yf id=>p id
 | .mp id=>p id
 | .itp id m=>p id&&p m
 | .vptr cs=>Aa.idsAllL p cs
 | .vs _ rows=>Aa.idsAllL p rows
 | .fn _ a b=>Aa.idsAllL p a&&Aa.idsAllL p b
 | .agg cs=>Aa.idsAllL p cs
 | .tup cs=>Aa.idsAllL p cs
 | .bool _| .int _ _| .str _| .nilp| .nils| .nilf| .any=>true
def Aa.idsAllL(p:Nat->Bool):List Aa->Bool
 |[]=>true
 |v::r=>Aa.idsAll p v&&Aa.idsAllL p r
end
mutual
def Aa.ren(ρ:Nat->Nat):Aa->Aa
 | .ptr id g off=>.ptr (ρ id) g off
 | .sl id g sz off len=>.sl (ρ id) g sz off len
 | .yf id=>.yf (ρ id)
 | .mp id=>.mp (ρ id)
 | .itp id m=>.itp (ρ id) (ρ m)
 | .vptr cs=>.vptr (Aa.renL ρ cs)
 | .vs sz rows=>.vs sz (Aa.renL ρ rows)
 | .fn f a b=>.fn f (Aa.renL ρ a) (Aa.renL ρ b)
 | .agg cs=>.agg (Aa.renL ρ cs)
 | .tup cs=>.tup (Aa.renL ρ cs)
 | .bool b=>.bool b
 | .int k n=>.int k n
 | .str s=>.str s
 | .nilp=>.nilp
 | .nils=>.nils
 | .nilf=>.nilf
 | .any=>.any
def Aa.renL(ρ:Nat->Nat):List Aa->List Aa
 |[]=>[]
 |v::r=>Aa.ren ρ v::Aa.renL ρ r
end
theorem OG(a:Nat->Nat)(l:List Aa):Aa.renL a l=l.map (Aa.ren a):=by induction l<;>grind[Aa.renL]
theorem Dr(p:Nat->Bool)(l:List Aa):Aa.idsAllL p l=true↔ ∀v∈l,v.idsAll p=true:=by induction l<;>grind[Aa.idsAllL]
theorem Mi{p:Nat->Bool}(h:Aa.idsAllL p d=true)(a:d[N]? =some e):e.idsAll p=true:=by grind[Dr]
theorem uw(a:Nat->Nat)(v:Aa):(v.ren a).cells=v.cells.map (Aa.ren a):=by cases v<;>simp[Aa.ren,Aa.cells,OG]
def Uk{p:Nat->Bool}(h:e.idsAll p=true): ∀u∈e.cells,u.idsAll p=true:=by
 cases e<;>simp only[Aa.cells,A6]<;>first
  |(intro u a;subst a;exact h)
  |(simp only[Aa.idsAll]at h;exact(Dr _ _).1 h)
theorem Bx.ren{x y:Cx}{p:Nat→Bool}{ρ:Nat→Nat}(F: ∀id,p id=true→id<x.n→ρ id<y.n∧y.gen (ρ id)=x.gen id∧y.io (ρ id)=x.io id∧y.cap (ρ id)=x.cap id)
  (Y:y.w=x.w) (hO: ∀B,y.O B->x.O B) {v:Aa}  (r:Bx x v b):v.idsAll p=true->Bx y (v.ren ρ) b:=by
 induction r with
 |bool c=>exact λ_=>.bool c
 |int k n=>exact λ_=>.int k n
 |str t L=>exact λ_=>.str t L
 |nilp=>exact λ_=>.nilp
 | @ptr id g H b A T E z=>intro q;obtain⟨a,c,d,e⟩:=F id q A;refine .ptr a (by rw[c];exact T) E λC=>?_;rw[c]at C;rw[d];exact z C
 | @vptr cs B H f K S z X M=>intro q;simp only[Aa.idsAll]at q;simp only[Aa.ren,OG];refine .vptr f (λo=>K (hO B o)) (by rw[Y];exact S) (λj v l=>?_) λj v l=>?_;grind;grind[Option.some.injEq,Mi]
 |nils=>exact λ_=>.nils
 | @vs sz D a cap f P W al ha X M=>
  intro q;simp only[Aa.idsAll]at q;simp only[Aa.ren,OG];have I: ∀{j:Nat} {e:Aa},(D.map (Aa.ren ρ))[j]? =some e-> ∃u,D[j]? =some u/\e=u.ren ρ:=by grind[Option.some.injEq]
  have G: ∀{u:Aa} {i:Nat} {v:Aa},(u.ren ρ).cells[i]? =some v-> ∃t,u.cells[i]? =some t/\v=t.ren ρ:=by grind[uw,Option.some.injEq]
  have J:(D.map (Aa.ren ρ)).length=D.length:=k!
  rw[<-J];refine .vs f (by rw[J];exact P) W (λj e l=>?_) (λV=>?_) λj e i v l U=>?_;grind[uw,List.length_map];obtain⟨B,H,e,K,S,z⟩:=ha (by simpa using V);refine⟨B,H,e,λo=>K (hO B o),by rw[Y];exact S,λj e i v l U=>?_⟩;obtain⟨u,s,rfl⟩:=I l;obtain⟨t,L,rfl⟩:=G U;rw[Y];exact z j u i t s L;obtain⟨u,s,rfl⟩:=I l;obtain⟨t,L,rfl⟩:=G U;exact M j u i t s L (Uk (Mi q s) _ (BN L))
 | @sl id g sz H len b A T E z=>intro q;obtain⟨a,c,d,e⟩:=F id q A;refine .sl a (by rw[c];exact T) E λC=>?_;rw[c]at C;rw[d,e];exact z C
 | @fn f first N Q R E h2 ap ar Z ad=>
  intro q;simp only[Aa.idsAll,BY]at q;simp only[Aa.ren,OG];refine .fn (by simpa using E) (by simpa using h2) (λj v b l z=>?_) λj v b l z=>?_;rw[CN]at l;cases s:first[j]? with
  |none=>rw[s]at l;cases l
  |some u=>rw[s]at l;simp only[Bs,Ao]at l;subst l;exact Z j u b s z (Mi q.1 s)
  rw[CN]at l;cases s:N[j]? with
  |none=>rw[s]at l;cases l
  |some u=>rw[s]at l;simp only[Bs,Ao]at l;subst l;exact ad j u b s z (Mi q.2 s)
 | @yf id b A E z=>intro q;obtain⟨a,c,d,e⟩:=F id q A;refine .yf a E λC=>?_;rw[c]at C;rw[d];exact z C
 | @mp id b A E z=>intro q;obtain⟨a,c,d,e⟩:=F id q A;refine .mp a E λC=>?_;rw[c]at C;rw[d];exact z C
 | @itp id m b A hm E z=>intro q;simp only[Aa.idsAll,BY]at q;obtain⟨a,c,d,e⟩:=F id q.1 A;obtain⟨a2,b2,d2,e2⟩:=F m q.2 hm;refine .itp a a2 E λC=>?_;rw[c]at C;rw[d,b2,d2,e];exact z C
 |nilf=>exact λ_=>.nilf
 | @agg cs ao h E X M=>
  intro q;simp only[Aa.idsAll]at q;simp only[Aa.ren,OG];refine .agg (by simpa using h) E λj v b l z=>?_;rw[CN]at l;cases s:cs[j]? with
  |none=>rw[s]at l;cases l
  |some u=>rw[s]at l;simp only[Bs,Ao]at l;subst l;exact M j u b s z (Mi q s)
 | @tup vs ax h X M=>
  intro q;simp only[Aa.idsAll]at q;simp only[Aa.ren,OG];refine .tup (by simpa using h) λj v b l z=>?_;rw[CN]at l;cases s:vs[j]? with
  |none=>rw[s]at l;cases l
  |some u=>rw[s]at l;simp only[Bs,Ao]at l;subst l;exact M j u b s z (Mi q s)
 |any b=>exact λ_=>.any b
mutual
theorem zX{p:Nat->Bool}{d:Nat->Nat}(c: ∀id,p id=true->d id=id): ∀v:Aa,v.idsAll p=true->v.ren d=v
 | .ptr id g off,h=>by simp only[Aa.ren,c id h]
 | .sl id g sz off len,h=>by simp only[Aa.ren,c id h]
 | .yf id,h=>by simp only[Aa.ren,c id h]
 | .mp id,h=>by simp only[Aa.ren,c id h]
 | .itp id m,h=>by simp only[Aa.idsAll,BY]at h;simp only[Aa.ren,c id h.1,c m h.2]
 | .vptr cs,h=>by simp only[Aa.ren,XP c cs h]
 | .vs sz rows,h=>by simp only[Aa.ren,XP c rows h]
 | .fn f a b,h=>by simp only[Aa.idsAll,BY]at h;simp only[Aa.ren,XP c a h.1,XP c b h.2]
 | .agg cs,h=>by simp only[Aa.ren,XP c cs h]
 | .tup cs,h=>by simp only[Aa.ren,XP c cs h]
 | .bool _,_=>rfl
 | .int _ _,_=>rfl
 | .str _,_=>rfl
 | .nilp,_=>rfl
 | .nils,_=>rfl
 | .nilf,_=>rfl
 | .any,_=>rfl
theorem XP{p:Nat->Bool}{b:Nat->Nat}(a: ∀id,p id=true->b id=id): ∀l:List Aa,Aa.idsAllL p l=true->Aa.renL b l=l
 |[],_=>rfl
 |v::r,h=>by simp only[Aa.idsAllL,BY]at h;simp only[Aa.renL,zX a v h.1,XP a r h.2]
end
def tI(P:Program)(t:TypeId):Option (Bool×Nat):=
 match P.info? t,P.underlying t with
 |some i,some d=>some ((match d with| .struct _| .array _ _=>true|_=>false),i.size)
 |_,_=>none
def Xf(h:tI P a=some (s,N))(w:World):(isAgg a).run P w= .ok s w:=by unfold tI at h;split at h;rename_i i d c t;unfold isAgg;simp only[Sem.run_bind,run_underlying t,Result.andThen_ok];split<;>simp_all;cases h
def K3{P:Program}(h:tI P a=some (s,N))(w:World):(sizeOf a).run P w= .ok N w:=by unfold tI at h;split at h;rename_i i d t c;simp at h;simp[sizeOf,typeInfo,t,h.2];cases h
def Pp(H:A1):Aa->Nat->Option (List Aa)
 | .ptr id g off,n=>
  match H[id]? with
  |some (.live g' cs)=>if g=g'/\off+n<=cs.length then some ((cs.drop off).take n)else none
  |_=>none
 | .vptr cs,n=>if n<=cs.length then some (cs.take n)else none
 |_,_=>none
def lG(x:Cx)(vs:List Aa)(cs:List Value):Prop:=cs.length=vs.length/\ ∀(j:Nat) (v:Aa) (c:Value),vs[j]? =some v->cs[j]? =some c->Bx x v c
theorem OW(B a j:Nat):(⟨B,a,none⟩:Addr).add j=⟨B,a+j,none⟩:=by grind[Addr.add]
theorem PZ{w:World}(h:w.heap[N]? =some (.cells i a y))(b:Nat):w.cell? ⟨N,b,none⟩=i[b]? :=by grind[World.cell?]
theorem tA(s:It c h H w)(r:Bx (cx c h H w) e b)(hr:Pp H e N=some d):
  ∃(B a:Nat) (k:List Value),b= .pointer (some ⟨B,a,none⟩)/\k.length=N/\(∀j u,k[j]? =some u->w.cell? ((⟨B,a,none⟩:Addr).add j)=some u/\u.oneCell'=true)/\lG (cx c h H w) d k:=by
 cases r with
 | @ptr id g a b O Z V x=>
  simp only[Pp]at hr;split at hr;rename_i U k L;split at hr;rename_i m;obtain⟨rfl,F⟩:=m;simp only[Ao]at hr;subst hr;obtain⟨t,q⟩:=s.live id g k L;obtain⟨B,o,rfl⟩:=x t;rcases q with⟨hn,_⟩|⟨D,I,T,S,f,l,K,E,A,M,i⟩;rw[hn]at o;cases o;have:D=B:=by rw[show(cx c h H w).io id=some B from o]at l;injection l with G;exact G.symm
  subst this;refine⟨D,a,(List.range N).map (λj=>f (a+j)),rfl,k!,?_,?_,?_⟩;intro j u p;have X:j<N:=by grind[Nat.lt_or_ge,List.getElem?_eq_none]
  have Q:u=f (a+j):=by grind[List.getElem?_range]
  subst Q;have y:k[a+j]? =some (k[a+j]' o!):=Av o!;obtain⟨J,P,_⟩:=i _ _ y;rw[OW,PZ (w:=w) K];exact⟨J,P⟩;grind[List.length_map,List.length_range,List.length_take,List.length_drop];grind[Nat.lt_or_ge,List.getElem?_eq_none,List.getElem?_range,Option.some.injEq];cases hr;cases hr
 | @vptr k B a f Y W x R=>
  simp only[Pp]at hr;split at hr;rename_i A;simp only[Ao]at hr;subst hr;refine⟨B,a,(List.range N).map f,rfl,k!,?_,?_,?_⟩;intro j u p;have X:j<N:=by grind[Nat.lt_or_ge,List.getElem?_eq_none]
  rw[CN,Qv X]at p;simp only[Bs,Ao]at p;subst p;rw[OW];exact x j _ (Av o!);grind[List.length_map,List.length_range,List.length_take];intro j u v p z;have X:j<N:=by rcases Ay j N with C|n;exact C;simp_all[Cm]
  rw[bD,if_pos X]at p;rw[CN,Qv X]at z;simp only[Bs,Ao]at z;subst z;exact R j u p;cases hr
 |_=>simp only[Pp]at hr;cases hr
def gT(P:Program)(t:TypeId)(H:A1)(v:Aa):Option Aa:=
 match tI P t with
 |some (true,n)=>(Pp H v n).map Aa.agg
 |some (false,_)=>(Pp H v 1).bind List.head?
 |none=>none
theorem xW(s:It c h H w)(r:Bx (cx c h H w) e b)(u:gT P a H e=some p):
  ∃B X l,b= .pointer (some ⟨B,X,none⟩)/\(loadVar a ⟨B,X,none⟩).run P w= .ok l w/\Bx (cx c h H w) p l:=by
 unfold gT at u;split at u;rename_i n g;cases hr:Pp H e n with
 |none=>grind
 |some o=>rw[hr]at u;simp at u;subst u;obtain⟨B,X,f,rfl,d,k,t⟩:=tA s r hr;refine⟨B,X,.agg f.toArray,rfl,?_,?_⟩;unfold loadVar;simp only[Sem.run_bind,Xf g,Result.andThen_ok,if_true,K3 g];subst d;rw[run_loadCells_list w ⟨B,X,none⟩ f λj e i=>(k j e i).1];rfl;refine .agg (by simpa using t.1) (λj b i=>?_) λj e b i v=>?_;grind;exact t.2 j e b i q!
 rename_i n g;cases hr:Pp H e 1 with
 |none=>grind
 |some o=>
  rw[hr]at u;simp at u;obtain⟨B,X,f,rfl,d,k,t⟩:=tA s r hr;match f,d with
  |[c0],_=>
   match o,t.1 with
   |[u0],_=>simp at u;subst u;refine⟨B,X,c0,rfl,?_,t.2 0 _ _ rfl rfl⟩;unfold loadVar;have m:=(k 0 c0 rfl).1;simp only[Addr.add,if_true]at m;simp[Xf g,m]
 cases u
def mI(P:Program)(env:Env)(H:A1):ResultVar->Option Aa
 | .tmp t=>some (env.get t)
 | .cell a t=>gT P t H (env.get a)
def Sk(P:Program)(env:Env)(H:A1):List ResultVar->Option (List Aa)
 |[]=>some []
 |r::rs=>
  match mI P env H r,Sk P env H rs with
  |some v,some vs=>some (v::vs)
  |_,_=>none
def gU(P:Program)(fn:Func)(env:Env)(H:A1):Option Aa:=
 match Sk P env H fn.results.toList with
 |some [v]=>some v
 |some vs=>some (.tup vs)
 |none=>none
def jA(h:OP f g j)(t:Nat):Bx f (g.get t) (j.tmps.getD t undef):=Dj h (.tmp t)
def tC(tmps:Array Value):ResultVar->Sem Value
 | .tmp t=>pure (tmps.getD t undef)
 | .cell a t=>do loadVar t (<-asAddr (tmps.getD a undef))
def zZ(b:Func)(tmps:Array Value):results b tmps=(do
  let a<-b.results.mapM (tC tmps);pure (if h:a.size=1 then a[0]else .tuple a)):=rfl
theorem qF{P:Program}{N:Nat}{X:Nat→Prop}{h:Gh}{env:Env}{H:A1}{a:Act}{w:World}(s:St X h N env H a w): ∀(g:List ResultVar) (i:List Aa),Sk P env H g=some i→
  ∃f,Sem.run P (g.mapM (tC a.tmps)) w= .ok f w/\lG (cx X h H w) i f
 |[],i,hv=>by simp only[Sk,Ao]at hv;subst hv;exact⟨[],rfl,rfl,λ_ _ _ h=>by cases h⟩
 |r::g,i,hv=>by
  simp only[Sk]at hv;split at hv;rename_i v l k n;simp at hv;subst hv;obtain⟨f,o,b⟩:=qF s g l n;have e: ∃c,Sem.run P (tC a.tmps r) w= .ok c w/\Bx (cx X h H w) v c:=by
   cases r with
   |tmp t=>simp only[mI,Ao]at k;subst k;exact⟨_,rfl,jA s.env t⟩
   |cell x t=>obtain⟨B,y,m,p,q,hr⟩:=xW s.sim (jA s.env x) k;refine⟨m,?_,hr⟩;simp only[tC,p];simp[asAddr,q]
  obtain⟨c,z,hr⟩:=e;refine⟨c::f,?_,by simpa using b.1,?_⟩;simp_all;intro j u d C A;cases j with
  |zero=>grind
  |succ j=>exact b.2 j u d q! q!
  cases hv
theorem ABl(s:St c h N g H j w)(d:gU P I g H=some e):
  ∃a,(results I j.tmps).run P w= .ok a w/\Bx (cx c h H w) e a:=by
 unfold gU at d;cases v:Sk P g H I.results.toList with
 |none=>grind
 |some l=>
  rw[v]at d;obtain⟨f,m,b⟩:=qF s _ l v;have n:Sem.run P (I.results.mapM (tC j.tmps)) w= .ok f.toArray w:=by grind[Array.mapM_eq_mapM_toList,Sem.run_map,Result.andThen_ok]
  rw[zZ];simp only[Sem.run_bind,n];simp only[Result.andThen_ok,Sem.run_pure,Result.ok.injEq,and_true,exists_eq_left'];match l,b with
  |[],b=>simp at d;subst d;have:f=[]:=EZ (by simpa using b.1);subst this;exact .tup rfl λX e a i _=>by cases i
  |[v0],b=>
   simp at d;subst d;match f,b.1 with
   |[c0],_=>exact b.2 0 _ _ rfl rfl
  |v0::v1::r,b=>
   simp at d;subst d;have k:f.toArray.size≠1:=by rw[dY,b.1];simp
   rw[dif_neg k];exact .tup (by simpa using b.1) λX e a i o=>b.2 X e a i q!
def OR(n0:Nat)(v:Aa)(H:A1)(v2:Aa)(H2:A1):Prop:=
 n0<=H2.length/\ ∀(X:Nat->Prop) (h:Gh) (w:World) (c:Value),It X h H w->Bx (cx X h H w) v c->
  ∃h2,It X h2 H2 w/\Bx (cx X h2 H2 w) v2 c/\(∀id,id<n0->h2.gen id=h.gen id/\h2.io id=h.io id/\h2.cap id=h.cap id)/\ ∀B,owned h2 H2 B->owned h H B
def OR.refl(v:Aa)(H:A1)(hn:N<=H.length):OR N v H v H:=⟨hn,λ_ h _ _ s r=>⟨h,s,r,λ_ _=>⟨rfl,rfl,rfl⟩,λ_ h=>h⟩⟩
def AIC(P:Program)(fn:Func)(n0:Nat)(Q:Aa->A1->Prop):Exit->Env->A1->Prop
 | .normal,env,H| .ret,env,H=> ∃v v2 H2,gU P fn env H=some v/\OR n0 v H v2 H2/\Q v2 H2
 |_,_,_=>False
def env0:Nat->List Aa->Env
 |_,[]=>[]
 |i,v::r=>(i,v)::env0 (i+1) r
theorem xB{t:Nat}{v:Aa}: ∀{i:Nat} {l:List Aa},(t,v)∈env0 i l->i<=t/\l[t-i]? =some v
 |i,u::r,h=>by simp only[env0,Aw]at h;rcases h with⟨rfl,rfl⟩|h;simp;obtain⟨a,b⟩:=xB h;grind
theorem kV{y:Option (List Deferred)}(b:w.heap[N]? =some (.deferred l))(B a:Nat):(w.putObj N (.deferred y)).cell? ⟨B,a,none⟩=w.cell? ⟨B,a,none⟩:=by grind[World.cell?,World.putObj_heap_same,World.putObj_heap_other]
def It.shut(s:It c h H w){x y:Option (List Deferred)}(J:w.heap[N]? =some (.deferred x)):
  (cx c h H w).Later (cx c h H (w.putObj N (.deferred y)))/\It c h H (w.putObj N (.deferred y)):=by
 have C:(cx c h H w).Later (cx c h H (w.putObj N (.deferred y))):=⟨by simp[cx],λB _ _ G=>kV J B G,λ_ _ h=>h,Ap _,λ_ _=>Ap _,λ_ _ _=>⟨rfl,rfl⟩⟩
 have d: ∀{B:Nat} {o:Obj},w.heap[B]? =some o->(∀z,o≠ .deferred z)->(w.putObj N (.deferred y)).heap[B]? =some o:=by intro B o a F;by_cases i:B=N;subst i;rw[J]at a;injection a with e;exact(F x e.symm).elim;rw[World.putObj_heap_other i,a]
 refine⟨C,λB a=>⟨by simpa using(s.out B a).1,(s.out B a).2⟩,λid g K l=>?_,λid L l=>?_,s.inj,s.bldKeep λid e l _=>⟨l,rfl,rfl,rfl,λB o _ a F=>(d a F).trans a.symm⟩⟩;obtain⟨A,n⟩:=s.live id g K l;refine⟨A,?_⟩;rcases n with⟨hn,rfl⟩|⟨B,p,T,M,f,X,q,k,E,u,b⟩;exact .inl ⟨hn,rfl⟩;refine .inr ⟨B,p,T,M,f,X,d q (λz=>k!),k,E,u,λj v U=>?_⟩;obtain⟨V,W,Y⟩:=b j v U;exact⟨V,W,Y.later C⟩;obtain⟨A,B,r,X,q,D,O,P,Q,R,S,I⟩:=s.lp id L l;exact⟨A,B,r,X,d q (λz=>k!),D,O,P,Q,R,S,λt v m=>⟨(I t v m).1,(I t v m).2.later C⟩⟩
theorem HE.shut(x:HE h H w O R A){y z:Option (List Deferred)}(d:w.heap.size<=N)(e:A.heap[N]? =some (.deferred z)):HE h H w O R (A.putObj N (.deferred y))where
 os:=x.os
 tape:=x.tape
 output:=x.output
 size:=by simpa using x.size
 keep B hB hn:=by rw[World.putObj_heap_other o!];exact x.keep B hB hn
 n:=x.n
 gen:=x.gen
 same:=x.same
 fresh:=x.fresh
 loops B r hB:=by obtain⟨f,O⟩:=x.loops B r hB;grind[World.putObj_heap_other]
def nV{P:Program}{A:Func}{N:Nat}{X:Nat→Prop}{g h:Gh}{H b p:A1}{z:World}{v t:Aa}{f:Env}{a:Act}{Q:Aa→A1→Prop}(o:gU P A f b=some v)(j:OR H.length v b t p)(B:Q t p):
  ∀(i:List Deferred) (w:World),i.Nodup->(∀d∈i,∃D,d={target:=.collected D,args:= #[]}/\z.heap.size<=D/\w.heap[D]? =some (.deferred (some [])))->
   St X h N f b a w->HE g H z h b w->
   LeavesInM Fence.wide 0 P A a.tmps (λe u=> ∃c v h b,e= .returned c/\Q v b/\It X h b u/\Bx (cx X h b u) v c/\HE g H z h b u) i .returning w
 |[],w,_,_,s,x=>by obtain⟨c,m,l⟩:=ABl s o;obtain⟨J,n,r,I,K⟩:=j.2 X h w c s.sim l;exact⟨c,m,c,t,J,p,rfl,B,n,r,GD.ext rfl j.1 I K x⟩
 |d::i,w,hnd,hds,s,x=>by obtain⟨D,rfl,G,q⟩:=hds d k!;simp only[Gk]at hnd;refine⟨k!,.inl ⟨D,_,rfl,run_takeDeferred q,?_⟩⟩;have C:=s.sim.shut (y:=none) q;refine nV o j B i _ hnd.2 (λF k=>?_) ⟨C.2,s.env.later C.1,s.size⟩ (x.shut G q);obtain⟨E,rfl,o,j⟩:=hds F (CW _ k);refine⟨E,rfl,o,?_⟩;rw[World.putObj_heap_other,j];rintro rfl;exact hnd.1 k
theorem J1(c:P.funcs[E]? =some I)(C:I.body=some n)(hn:d.length≤I.ntmps)
  (Q:Lh P I.ntmps n (env0 0 d) H (AIC P I H.length u)):Ek P E d H u:=by
 intro X g w a s M hr;have D:OP (cx X g H w) (env0 0 d) {tmps:=a++Array.replicate (I.ntmps-a.size) undef,defers:=[]}:=by
  intro t v m;obtain⟨_,N⟩:=xB m;have G:t<d.length:=q!
  have L:a[t]? =some (a[t]' o!):=Nf o!;have:(a++Array.replicate (I.ntmps-a.size) undef).getD t undef=a[t]' o!:=by simp_all[Xq]
  grind
 refine(callsIn_wide (n:=0)).1 (callsIn_of_wp_marks c C trivial (wpIn_mono (Q none X g {tmps:=a++Array.replicate (I.ntmps-a.size) undef,defers:=[]} w ⟨s,D,w!⟩ (λl e=>by cases e)) ?_));rintro e z i ⟨O,j,F,q,J,K,A,B,y,x⟩;have k: ∀v h f,gU P I j F=some v->OR H.length v F h f->u h f->LeavesInM Fence.wide 0 P I z.tmps (λe i=> ∃n v O F,e= .returned n/\u v F/\It X O F i/\Bx (cx X O F i) v n/\HE g H w O F i) z.defers .returning i:=by intro v h f o p r;rw[B,C5];exact nV o p r A i y x J K
 cases e with
 |normal=>obtain⟨v,h,f,o,p,r⟩:=q;exact k v h f o p r
 |ret=>obtain⟨v,h,f,o,p,r⟩:=q;exact k v h f o p r
 |_=>exact q.elim
def Enters(P:Program)(F:FuncId):Bool:=
 match P.funcs[F]? with
 |some fn=>fn.body.isSome&& !(fn.name== "runtime.NumGoroutine")
 |none=>false
def gF(h:Enters P E=true)(args:Array Value)(w:World):(callFunc E args).run P w= .ok (.enter E args) w:=by unfold Enters at h;split at h;rename_i a c;unfold callFunc;cases b:a.body<;>simp_all;cases h
def Fl.ren(ρ:Nat->Nat):Fl->Fl
 | .dead=>.dead
 | .live g cs=>.live g (Aa.renL ρ cs)
 | .lp L=>.lp {L with env:=L.env.map λp=>(p.1,p.2.ren ρ)}
 | .mp k es=>.mp k es
 | .it n s=>.it n s
def Fl.idsAll(p:Nat->Bool):Fl->Bool
 | .dead=>true
 | .live _ cs=>Aa.idsAllL p cs
 | .lp L=>L.env.all λq=>q.2.idsAll p
 | .mp _ _=>true
 | .it _ _=>true
def ZB(H:A1)(bs:List Nat):A1:=bs.map λb=>(H.getD b .dead).ren (bs.idxOf ·)
def Sy(H:A1)(bs:List Nat)(j:Nat):Nat:=if j<bs.length then bs.getD j 0 else H.length+(j-bs.length)
def am(ρ:Nat->Nat):A1->List Nat->A1->A1
 |H,b::bs,e::es=>am ρ (H.set b (e.ren ρ)) bs es
 |H,_,_=>H
def Ul(H:A1)(bs:List Nat)(Hc:A1):A1:=am (Sy H bs) H bs Hc++(Hc.drop bs.length).map (Fl.ren (Sy H bs))
def Sb(c:Nat->Nat): ∀(bs:List Nat) (H a:A1),(am c H bs a).length=H.length
 |[],H,a=>by cases a<;>rfl
 |b::bs,H,[]=>rfl
 |b::bs,H,e::es=>by simp only[am];rw[Sb c bs];simp
def gG(c:Nat->Nat){id:Nat}: ∀(bs:List Nat) (H a:A1),id∉bs->(am c H bs a)[id]? =H[id]?
 |[],H,a,_=>by cases a<;>rfl
 |b::bs,H,[],_=>rfl
 |b::bs,H,e::es,h=>by simp only[Aw,not_or]at h;simp only[am];rw[gG c bs _ _ h.2,DU (λe=>h.1 e.symm)]
def u5(a:Nat->Nat): ∀(bs:List Nat) (H c:A1) (j b:Nat),bs.Nodup->bs[j]? =some b->b<H.length->bs.length<=c.length->(am a H bs c)[b]? =(c[j]?).map (Fl.ren a)
 |[],_,_,_,_,_,hj,_,_=>by simp at hj
 |b0::bs,H,[],_,_,_,_,_,hl=>by simp at hl
 |b0::bs,H,e::es,j,b,hnd,hj,hb,hl=>by
  simp only[Gk]at hnd;simp only[am];cases j with
  |zero=>simp at hj;subst hj;rw[gG a bs _ _ hnd.1];simp[hb]
  |succ j=>simp at hj;rw[u5 a bs _ es j b hnd.2 hj (by simpa using hb) (by simpa using hl)];simp
def nS(h:N∈r):r.idxOf N<r.length:=List.idxOf_lt_length_of_mem h
theorem fo(h:N∈r):r[r.idxOf N]? =some N:=q!
theorem ou(a:r.Nodup)(h:r[N]? =some t):r.idxOf t=N:=q!
section
variable {X:Nat->Prop} {h:Gh} {H:A1} {w:World} {bs:List Nat}
mutual
theorem pq: ∀v:Aa,v.idsAll (λ_=>true)=true
 | .itp _ _=>rfl
 | .ptr _ _ _=>rfl
 | .sl _ _ _ _ _=>rfl
 | .yf _=>rfl
 | .mp _=>rfl
 | .vptr c=>O7 c
 | .vs _ d=>O7 d
 | .fn _ a b=>by simp only[Aa.idsAll,O7 a,O7 b,XT]
 | .agg c=>O7 c
 | .tup c=>O7 c
 | .bool _| .int _ _| .str _| .nilp| .nils| .nilf| .any=>rfl
theorem O7: ∀l:List Aa,Aa.idsAllL (λ_=>true) l=true
 |[]=>rfl
 |v::r=>by simp only[Aa.idsAllL,pq v,O7 r,XT]
end
def Xs(X:Nat->Prop)(h:Gh)(H:A1)(bs:List Nat)(B:Nat):Prop:=X B\/ ∃id e,id∉bs/\H[id]? =some e/\e≠Fl.dead/\h.io id=some B
def WG(h:Gh)(bs:List Nat):Gh:=⟨λj=>(bs[j]?).bind h.io,λj=>((bs[j]?).map h.gen).getD 0,λj=>((bs[j]?).map h.cap).getD 0⟩
def xu:m.ren z= .dead↔m= .dead:=by cases m<;>simp[Fl.ren]
theorem kJ(d:(ZB H bs)[N]? =some m)(c:m≠ .dead): ∃b a,bs[N]? =some b/\H[b]? =some a/\a≠ .dead/\m=a.ren (bs.idxOf ·):=by grind[ZB,Fl.ren]
theorem ADx(e:(ZB H bs)[N]? =some (Fl.live t d)): ∃b a,bs[N]? =some b/\H[b]? =some (Fl.live t a)/\d=Aa.renL (bs.idxOf ·) a:=by obtain⟨b,j,h,f,_,i⟩:=kJ e k!;cases j<;>grind[Fl.ren]
theorem dK(d:owned (WG h bs) (ZB H bs) N): ∃b e,b∈bs/\H[b]? =some e/\e≠Fl.dead/\h.io b=some N:=by obtain⟨j,e,f,c,a⟩:=d;grind[kJ,WG]
theorem wO(x:Nat)(c:decide (x∈bs)=true)(_:x<(cx X h H w).n):
  bs.idxOf x<(cx (Xs X h H bs) (WG h bs) (ZB H bs) w).n/\(cx (Xs X h H bs) (WG h bs) (ZB H bs) w).gen (bs.idxOf x)=(cx X h H w).gen x/\(cx (Xs X h H bs) (WG h bs) (ZB H bs) w).io (bs.idxOf x)=(cx X h H w).io x/\(cx (Xs X h H bs) (WG h bs) (ZB H bs) w).cap (bs.idxOf x)=(cx X h H w).cap x:=by
 have a:x∈bs:=q!
 have b:=fo a;refine⟨by simpa[cx,ZB]using nS a,?_,?_,?_⟩<;>simp[cx,WG,b]
def ADy(B:Nat)(a:(cx (Xs X h H bs) (WG h bs) (ZB H bs) w).O B):(cx X h H w).O B:=by rcases a with(a|⟨id,e,_,d,c,f⟩)|a;exact .inl a;exact .inr ⟨id,e,d,c,f⟩;obtain⟨b,e,_,d,c,f⟩:=dK a;exact .inr ⟨b,e,d,c,f⟩
theorem PD{w:World}(h:w.heap[N]? =some M):N<w.heap.size:=q!
theorem It.io_at(s:It X h H w)(c:H[N]? =some m)(p:m≠ .dead)(b:h.io N=some t):t<w.heap.size:=by
 cases m with
 |dead=>grind
 |live g l=>obtain⟨_,hn|⟨d,i,T,e,f,a,j,_⟩⟩:=s.live N g l c;rw[show(cx X h H w).io N=h.io N from rfl,b]at hn;grind;rw[show(cx X h H w).io N=h.io N from rfl,b]at a;injection a with m;subst m;exact PD j
 |lp L=>obtain⟨_,d,r,a,j,_⟩:=s.lp N L c;rw[show(cx X h H w).io N=h.io N from rfl,b]at a;injection a with m;subst m;exact PD j
 |mp k q=>obtain⟨d,i,B,_,o,_⟩:=s.bld N _ c rfl;grind[PD]
 |it n seen=>obtain⟨d,B,_,o⟩:=s.bld N _ c rfl;grind[PD]
def cJ:(m.ren z).isB=m.isB:=by cases m<;>rfl
def BAt.ren{h h':Gh}{w w':World}{id id':Nat}{ρ:Nat->Nat}(b:BAt h w id m)(g:h'.io id'=h.io id)(a:h'.gen id'=h.gen id)(f:h'.cap id'=h.cap id)(l: ∀B (o:Obj),h.io id=some B->w.heap[B]? =some o->w'.heap[B]? =w.heap[B]?):BAt h' w' id' (m.ren ρ):=by
 cases m with
 |mp k p=>obtain⟨B,i,c,j,d,e⟩:=b;exact⟨B,i,g.trans c,a.trans j,(l B _ c d).trans d,e⟩
 |it n seen=>obtain⟨B,c,j,d⟩:=b;exact⟨B,g.trans c,a.trans j,by rw[f];exact(l B _ c d).trans d⟩
 |_=>trivial
theorem It.sub(s:It X h H w)(K:bs.Nodup)(hb: ∀b∈bs,((H.getD b .dead).idsAll λid=>decide (id∈bs))=true):It (Xs X h H bs) (WG h bs) (ZB H bs) w where
 out B n:=by have M: ¬(∃b e,b∈bs/\H[b]? =some e/\e≠Fl.dead/\h.io b=some B)-> ¬owned (WG h bs) (ZB H bs) B:=λhn ho=>hn (dK ho);rcases n with n|⟨id,e,Z,d,o,k⟩;exact⟨(s.out B n).1,M λ⟨b,e,_,d,o,k⟩=>(s.out B n).2 ⟨b,e,d,o,k⟩⟩;exact⟨s.io_at d o k,M λ⟨b,e',hm,x,Q,C⟩=>Z (s.inj id b e e' B d x o Q k C▸hm)⟩
 live j g cs hj:=by
  obtain⟨b,A,a,D,rfl⟩:=ADx hj;obtain⟨Y,J⟩:=s.live b g A D;refine⟨by simpa[cx,WG,a]using Y,?_⟩;rcases J with⟨hn,rfl⟩|⟨B,N,T,fz,f,y,c,G,ad,W,l⟩;exact .inl ⟨by simpa[cx,WG,a]using hn,rfl⟩;refine .inr ⟨B,N,T,fz,f,by simpa[cx,WG,a]using y,c,by simpa[cx,WG,a]using G,by rw[OG,CA];exact ad,W,?_⟩;intro i v z;rw[OG,CN]at z;cases hu:A[i]? with
  |none=>rw[hu]at z;cases z
  |some u=>rw[hu]at z;simp only[Bs,Ao]at z;subst z;obtain⟨d,k,x⟩:=l i u hu;refine⟨d,k,Bx.ren (p:=λid=>decide (id∈bs)) (λid=>wO id) rfl ADy x ?_⟩;have:=hb b (BN a);grind[Mi,Fl.idsAll]
 lp j L hj:=by
  obtain⟨b,P,a,D,o,I⟩:=kJ hj k!;cases P with
  |dead=>exact(o rfl).elim
  |live g cs=>simp[Fl.ren]at I
  |mp=>simp[Fl.ren]at I
  |it=>simp[Fl.ren]at I
  |lp L0=>simp only[Fl.ren,Fl.lp.injEq]at I;subst I;obtain⟨Y,B,r,y,c,d,k,x,C,h5,h6,h7⟩:=s.lp b L0 D;refine⟨by simpa[cx,WG,a]using Y,B,r,by simpa[cx,WG,a]using y,c,d,k,x,C,h5,h6,λt v m=>?_⟩;obtain⟨q,hq,e⟩:=Br.1 m;simp only[EX]at e;obtain⟨rfl,rfl⟩:=e;refine⟨(h7 q.1 q.2 hq).1,Bx.ren (p:=λid=>decide (id∈bs)) (λid=>wO id) rfl ADy (h7 q.1 q.2 hq).2 ?_⟩;have:=hb b (BN a);grind[Fl.idsAll,List.all_eq_true]
 inj i i' e e' B d k hn1 hn2 x C:=by obtain⟨b,c0,E,R,U,_⟩:=kJ d hn1;obtain⟨b',O,F,S,V,_⟩:=kJ k hn2;have e:=s.inj b b' c0 O B R S U V (by simpa[WG,E]using x) (by simpa[WG,F]using C);subst e;rw[<-ou K E,<-ou K F]
 bld j e hj n:=by obtain⟨b,P,a,D,o,rfl⟩:=kJ hj (by rintro rfl;cases n);rw[cJ]at n;exact(s.bld b P D n).ren (by simp[WG,a]) (by simp[WG,a]) (by simp[WG,a]) (λ_ _ _ _=>rfl)
def NK(h:Gh)(H:A1)(bs:List Nat)(hc:Gh):Gh:=
 let pick {α:Type} (f fc:Nat->α) (id:Nat):α:=if id∈bs then fc (bs.idxOf id)else if id<H.length then f id else fc (bs.length+(id-H.length))
 ⟨pick h.io hc.io,pick h.gen hc.gen,pick h.cap hc.cap⟩
def k9:(Ul H bs R).length=H.length+(R.length-bs.length):=by simp[Ul,Sb]
def YW(h:bs.Nodup)(k:bs.length≤R.length)(a:(Ul H bs R)[N]? =some m):
  (N∉bs/\N<H.length/\H[N]? =some m)\/ ∃j f,N=Sy H bs j/\R[j]? =some f/\m=f.ren (Sy H bs):=by
 unfold Ul at a;rcases Ay N H.length with b|b;rw[CT (by rw[Sb];exact b)]at a;by_cases g:N∈bs;have i:=fo g;rw[u5 _ bs H R _ N h i b k]at a;cases d:R[bs.idxOf N]? with
 |none=>rw[d]at a;cases a
 |some f=>rw[d]at a;simp only[Bs,Ao]at a;refine .inr ⟨bs.idxOf N,f,?_,d,a.symm⟩;unfold Sy;rw[if_pos (nS g),Qu,i];rfl
 rw[gG _ bs H R g]at a;exact .inl ⟨g,b,a⟩;rw[Cj (by rw[Sb];exact b),Sb,CN,KX]at a;cases d:R[bs.length+(N-H.length)]? with
 |none=>rw[d]at a;cases a
 |some f=>rw[d]at a;simp only[Bs,Ao]at a;refine .inr ⟨_,f,?_,d,a.symm⟩;unfold Sy;rw[if_neg o!];omega
theorem bH{hc:Gh}(f:bs.Nodup)(a: ∀b∈bs,b<H.length)(j:Nat)(g:j<R.length):
  Sy H bs j<(Ul H bs R).length/\(NK h H bs hc).gen (Sy H bs j)=hc.gen j/\(NK h H bs hc).io (Sy H bs j)=hc.io j/\(NK h H bs hc).cap (Sy H bs j)=hc.cap j:=by
 rw[k9];unfold Sy;split;grind[NK];have c:H.length+(j-bs.length)∉bs:=λc=>by have:=a _ c;omega
 have e:bs.length+(H.length+(j-bs.length)-H.length)=j:=o!
 simp only[NK,c,if_false,show¬(H.length+(j-bs.length)<H.length)from by omega,e,and_true];omega
theorem mG(c:bs.Nodup)(k: ∀b∈bs,b<H.length)(r:bs.length≤R.length)(s:owned (NK h H bs O) (Ul H bs R) N):
  (∃id e,id∉bs/\H[id]? =some e/\e≠Fl.dead/\h.io id=some N)\/owned O R N:=by
 obtain⟨id,e,o,l,a⟩:=s;rcases YW c r o with⟨u,p,t⟩|⟨j,m,rfl,q,d⟩;grind[NK];have i:j<R.length:=q!
 rw[(bH (h:=h) (hc:=O) c k j i).2.2.1]at a;exact .inr ⟨j,m,q,λn=>l (d.trans (xu.2 n)),a⟩
theorem HE.back(l:bs.Nodup)(k: ∀b∈bs,b<H.length)(x:HE (WG h bs) (ZB H bs) w O R A):HE h H w (NK h H bs O) (Ul H bs R) A:=by
 have r:bs.length<=R.length:=by have:=x.n;simpa[ZB]using this
 refine⟨x.os,x.tape,x.output,x.size,λB p hn=>x.keep B p λa=>?_,?_,?_,?_,?_,x.loops⟩;obtain⟨b,e,_,g,f,i⟩:=dK a;exact hn ⟨b,e,g,f,i⟩;rw[k9];omega;intro id c;by_cases d:id∈bs;have q:=fo d;have:=x.gen (bs.idxOf id) (by simpa[ZB]using nS d);grind[NK,WG];simp[NK,d,c];intro id c;by_cases d:id∈bs;have q:=fo d;have:=x.same (bs.idxOf id) (by simpa[ZB]using nS d);grind[NK,WG];simp[NK,d,c];intro B a;rcases mG l k r a with⟨id,e,_,g,f,i⟩|a;exact .inl ⟨id,e,g,f,i⟩;rcases x.fresh B a with a|a;obtain⟨b,e,_,g,f,i⟩:=dK a;exact .inl ⟨b,e,g,f,i⟩;grind
def Bx.back(g:bs.Nodup)(f: ∀d∈bs,d<H.length)(l:bs.length≤R.length)
  (r:Bx (cx (Xs X h H bs) O R w) e b):Bx (cx X (NK h H bs O) (Ul H bs R) w) (e.ren (Sy H bs)) b:=by
 refine Bx.ren (x:=cx (Xs X h H bs) O R w) (y:=cx X (NK h H bs O) (Ul H bs R) w) (ρ:=Sy H bs) (p:=λ_=>true) (λj _ k=>bH (h:=h) (hc:=O) g f j k) rfl (λB a=>?_) r (pq e);rcases a with a|a;exact .inl (.inl a);rcases mG g f l a with a|a;exact .inl (.inr a);exact .inr a
theorem It.back(s:It X h H w)(l:bs.Nodup)(z: ∀b∈bs,b<H.length)(x:HE (WG h bs) (ZB H bs) w O R A)
  (sc:It (Xs X h H bs) O R A):It X (NK h H bs O) (Ul H bs R) A:=by
 have Y:bs.length<=R.length:=by have:=x.n;simpa[ZB]using this
 have xb:=HE.back (h:=h) l z x;have M: ∀{id:Nat} {e:Fl} {B:Nat} {o:Obj},id∉bs->H[id]? =some e->e≠ .dead->h.io id=some B->w.heap[B]? =some o->A.heap[B]? =some o:=by intro id e B o y E ao c d;refine(x.keep B (PD d) λho=>?_).trans d;obtain⟨b,e',ap,I,h0,S⟩:=dK ho;exact y (s.inj id b e e' B E I ao h0 c S▸ap)
 have lt: ∀{j:Nat} {D:Fl},R[j]? =some D->j<R.length:=by intro j D F;rcases Ay j R.length with C|C;exact C;grind[List.getElem?_eq_none]
 refine⟨λB n=>⟨DQ (s.out B n).1 x.size,λho=>?_⟩,λid g cs U=>?_,λid L U=>?_,λid ar e e' B G C ad al I S=>?_,λid e U n=>?_⟩;rcases mG l z Y ho with⟨id,e,_,G,h0,C⟩|ho;exact(s.out B n).2 ⟨id,e,G,h0,C⟩;exact(sc.out B (.inl n)).2 ho;rcases YW l Y U with⟨y,k,E⟩|⟨j,D,rfl,F,a⟩;obtain⟨W,K⟩:=s.live id g cs E;refine⟨by simpa[cx,NK,y,k]using W,?_⟩;rcases K with⟨hn,rfl⟩|⟨B,Q,T,fz,f,c,d,J,Z,V,p⟩;exact .inl ⟨by simpa[cx,NK,y,k]using hn,rfl⟩;refine .inr ⟨B,Q,T,fz,f,by simpa[cx,NK,y,k]using c,M y E k! c d,by simpa[cx,NK,y,k]using J,Z,V,λi v P=>?_⟩;obtain⟨G,C,I⟩:=p i v P;exact⟨G,C,I.later (xb.later X)⟩;cases D with
 |dead=>simp[Fl.ren]at a
 |lp L=>simp[Fl.ren]at a
 |mp=>simp[Fl.ren]at a
 |it=>simp[Fl.ren]at a
 |live g0 N=>
  simp only[Fl.ren,Fl.live.injEq]at a;obtain⟨rfl,rfl⟩:=a;obtain⟨_,r1,r2,r3⟩:=bH (h:=h) (hc:=O) l z j (lt F);obtain⟨W,K⟩:=sc.live j g N F;refine⟨r1.trans W,?_⟩;rcases K with⟨hn,rfl⟩|⟨B,Q,T,fz,f,c,d,J,Z,V,p⟩;exact .inl ⟨r2.trans hn,rfl⟩;refine .inr ⟨B,Q,T,fz,f,r2.trans c,d,J.trans r3.symm,by rw[OG,CA];exact Z,V,λi v P=>?_⟩;rw[OG,CN]at P;cases hu:N[i]? with
  |none=>rw[hu]at P;cases P
  |some u=>rw[hu]at P;simp only[Bs,Ao]at P;subst P;obtain⟨G,C,I⟩:=p i u hu;exact⟨G,C,Bx.back l z Y I⟩
 rcases YW l Y U with⟨y,k,E⟩|⟨j,D,rfl,F,a⟩;obtain⟨W,B,r,c,d,G,C,I,S,h5,h6,h7⟩:=s.lp id L E;exact⟨by simpa[cx,NK,y,k]using W,B,r,by simpa[cx,NK,y,k]using c,M y E k! c d,G,C,I,S,h5,h6,λt v m=>⟨(h7 t v m).1,(h7 t v m).2.later (xb.later X)⟩⟩;cases D with
 |dead=>simp[Fl.ren]at a
 |live g0 N=>simp[Fl.ren]at a
 |mp=>simp[Fl.ren]at a
 |it=>simp[Fl.ren]at a
 |lp L0=>simp only[Fl.ren,Fl.lp.injEq]at a;subst a;obtain⟨_,r1,r2,r3⟩:=bH (h:=h) (hc:=O) l z j (lt F);obtain⟨W,B,r,c,d,G,C,I,S,h5,h6,h7⟩:=sc.lp j L0 F;refine⟨r1.trans W,B,r,r2.trans c,d,G,C,I,S,h5,h6,λt v m=>?_⟩;obtain⟨q,hq,e⟩:=Br.1 m;simp only[EX]at e;obtain⟨rfl,rfl⟩:=e;exact⟨(h7 q.1 q.2 hq).1,Bx.back l z Y (h7 q.1 q.2 hq).2⟩
 have key: ∀{id:Nat} {e:Fl},(Ul H bs R)[id]? =some e→e≠ .dead→(NK h H bs O).io id=some B→
   (id∉bs/\H[id]? =some e/\h.io id=some B)\/ ∃j D,id=Sy H bs j/\R[j]? =some D/\D≠ .dead/\O.io j=some B:=by
  intro id e U ao c;rcases YW l Y U with⟨y,k,E⟩|⟨j,D,rfl,F,a⟩;exact .inl ⟨y,E,by simpa[NK,y,k]using c⟩;exact .inr ⟨j,D,rfl,F,λh0=>ao (a.trans (xu.2 h0)),by rw[<-(bH (h:=h) (hc:=O) l z j (lt F)).2.2.1];exact c⟩
 rcases key G ad I with⟨m1,a1,b1⟩|⟨j1,g1,e1,a1,d1,b1⟩<;>rcases key C al S with⟨m2,a2,b2⟩|⟨j2,g2,e2,a2,d2,b2⟩;exact s.inj _ _ _ _ B a1 a2 ad al b1 b2;exact((sc.out B (.inr ⟨_,_,m1,a1,ad,b1⟩)).2 ⟨j2,g2,a2,d2,b2⟩).elim;exact((sc.out B (.inr ⟨_,_,m2,a2,al,b2⟩)).2 ⟨j1,g1,a1,d1,b1⟩).elim;rw[e1,e2,sc.inj _ _ _ _ B a1 a2 d1 d2 b1 b2];rcases YW l Y U with⟨y,k,E⟩|⟨j,D,rfl,F,rfl⟩;have b:=s.bld id e E n;have a:e.ren (λx=>x)=e:=by cases e<;>simp_all[Fl.ren,Fl.isB]
 have:=b.ren (h':=NK h H bs O) (w':=A) (id':=id) (ρ:=λx=>x) (by simp[NK,y,k]) (by simp[NK,y,k]) (by simp[NK,y,k]) (λB o c hb=>(M y E (by rintro rfl;cases n) c hb).trans hb.symm);rwa [a]at this;rw[cJ]at n;obtain⟨_,r1,r2,r3⟩:=bH (h:=h) (hc:=O) l z j (lt F);exact(sc.bld j D F n).ren r2 r1 r3 (λ_ _ _ _=>rfl)
end
def ml(env:Env)(c:Call)(first caps:List Aa):List Aa:=first++c.args.toList.map (BM env)++caps
def fI(P:Program)(s f:Nat):Option (Nat×TypeId×Nat):=
 match P.underlying s with
 |some (.struct fs)=>
  match fs[f]? with
  |some fd=>
   match tI P fd.type with
   |some (_,n)=>some (fd.offset,fd.type,n)
   |none=>none
  |none=>none
 |_=>none
def eI(P:Program)(t:TypeId):Option (Option Nat×TypeId×Nat):=
 match P.underlying t with
 |some (.array len e)=>(tI P e).map λi=>(some len,e,i.2)
 |some (.slice e)=>(tI P e).map λi=>(none,e,i.2)
 |_=>none
inductive Kd where
 |bool|int (k:IntKind)|str|bytes|other
 deriving DecidableEq
def kd(P:Program)(t:TypeId):Kd:=
 match P.underlying t with
 |some .bool=>.bool
 |some (.int k)=>.int k
 |some .string=>.str
 |some (.slice e)=>match P.underlying e with|some (.int .u8)=>.bytes|_=>.other
 |_=>.other
def TB(H:A1)(id g:Nat):Bool:=
 match H[id]? with
 |some (.live g' _)=>g'==g
 |_=>false
def It.cur{w:World}(s:It X h H w)(a:TB H N t=true):h.gen N=t:=by unfold TB at a;split at a;rename_i c b d;have:=(s.live N c b d).1;simp at a;exact this.trans a;cases a
def shift(H:A1)(k:Nat):Aa->Option Aa
 | .ptr id g off=>if TB H id g then some (.ptr id g (off+k))else none
 | .vptr cs=>if k<=cs.length then some (.vptr (cs.drop k))else none
 |_=>none
theorem u7(s:It c h H w)(r:Bx (cx c h H w) e b)(X:shift H N e=some p):
  ∃B a,b= .pointer (some ⟨B,a,none⟩)/\Bx (cx c h H w) p (.pointer (some ((⟨B,a,none⟩:Addr).add N))):=by
 cases r with
 | @ptr id g a b v o t l=>simp only[shift]at X;split at X;rename_i d;simp at X;subst X;obtain⟨B,i,rfl⟩:=l (s.cur d);refine⟨B,a,rfl,.ptr v o rfl λ_=>⟨B,i,by rw[OW]⟩⟩;cases X
 | @vptr q B a f n m l x=>simp only[shift]at X;split at X;simp at X;subst X;refine⟨B,a,rfl,?_⟩;rw[OW];refine .vptr (λj=>f (N+j)) n m (λj e k=>?_) λj e k=>?_;grind;grind;cases X
 |_=>grind[shift]
def Ve(P:Program)(H:A1)(s f:Nat)(v:Aa):Option Aa:=
 match fI P s f with
 |some (off,_,n)=>if n=0 then none else shift H off v
 |none=>none
def tY(sim:It c h H w)(r:Bx (cx c h H w) e b)(d:Ve P H N t e=some p):
  ∃i,(Instr.fieldAt N b t).run P w= .ok i w/\Bx (cx c h H w) p i:=by
 unfold Ve at d;split at d;rename_i k f n a;split at d;cases d;rename_i hn;obtain⟨B,o,rfl,hr⟩:=u7 sim r d;unfold fI at a;split at a;rename_i s g;split at a;rename_i l v;split at a;rename_i X m j;obtain⟨rfl,rfl,rfl⟩:=a;refine⟨_,?_,hr⟩;simp[Instr.fieldAt,run_underlying g,v,Instr.sureAddr,fieldPlace,K3 j,hn];cases a;cases a;cases a;cases d
def Vk(P:Program)(H:A1)(t:TypeId)(v:Aa)(i:Aa):Option Aa:=
 match eI P t,i with
 |some (some len,_,sz),.int _ i=>if 0<=i/\i<len then shift H (i.toNat*sz) v else none
 |some (none,_,sz),.int _ i=>
  match v with
  | .vs sz' rows=>if 0<=i/\sz=sz' then(rows[i.toNat]?).map λe=>.vptr e.cells else none
  | .sl id g sz' off len=>if 0<=i/\i<len/\sz=sz'/\TB H id g=true then some (.ptr id g (off+i.toNat*sz))else none
  |_=>none
 |_,_=>none
theorem tf(sim:It c h H w)(r:Bx (cx c h H w) e b)(T:Bx (cx c h H w) p B)
  (l:Vk P H a e p=some G): ∃O,(Instr.indexAt a b B).run P w= .ok O w/\Bx (cx c h H w) G O:=by
 unfold Vk at l;split at l;rename_i len Q sz k n t;cases T;split at l;rename_i A;obtain⟨i,o,rfl,hr⟩:=u7 sim r l;unfold eI at t;split at t;rename_i F y d;cases m:tI P y with
 |none=>rw[m]at t;cases t
 |some u=>rw[m]at t;simp only[Bs,Ao,EX]at t;obtain⟨rfl,rfl,rfl⟩:=t;refine⟨_,?_,hr⟩;simp[Instr.indexAt,asIntOf,run_underlying d,Instr.sureAddr,A,K3 m]
 rename_i y d;cases m:tI P y<;>grind;cases t;cases l;rename_i Q sz k n t;cases T;have d: ∃p,P.underlying a=some (.slice Q)/\tI P Q=some p/\p.2=sz:=by
  unfold eI at t;split at t;rename_i F y d;cases m:tI P y with
  |none=>rw[m]at t;cases t
  |some u=>rw[m]at t;simp at t
  rename_i y d;cases m:tI P y with
  |none=>rw[m]at t;cases t
  |some u=>rw[m]at t;simp only[Bs,Ao,EX]at t;obtain⟨_,rfl,rfl⟩:=t;exact⟨u,d,m,rfl⟩
  cases t
 obtain⟨u,d,m,rfl⟩:=d;cases r with
 | @vs N q X cap f C Y S W Z=>
  simp only at l;split at l;rename_i A;obtain⟨v,rfl⟩:=A;cases x:q[n.toNat]? with
  |none=>rw[x]at l;cases l
  |some R=>
   rw[x]at l;simp only[Bs,Ao]at l;subst l;have s:n.toNat<q.length:=by rcases Ay n.toNat q.length with I|I;exact I;rw[Cm I]at x;cases x
   obtain⟨i,z,rfl,V,U,J⟩:=W (by intro Q;rw[Q]at s;simp at s);refine⟨.pointer (some ⟨i,z+n.toNat*u.2,none⟩),?_,.vptr (λj=>f n.toNat j) V U (λj e M=>?_) λj e M=>Z _ R _ e x M⟩;have E:n<q.length:=o!
   simp[Instr.indexAt,asIntOf,run_underlying d,v,E,K3 m,OW];have:=J _ R j e x M;rw[dc];exact this
  cases l
 | @sl id g N z len b K x h1 J=>simp only at l;split at l;rename_i A;obtain⟨v,s,rfl,D⟩:=A;simp only[Ao]at l;subst l;rcases J (sim.cur D)with⟨_,hl,_,_⟩|⟨i,cap,L,C,_,rfl⟩;omega;refine⟨.pointer (some ⟨i,z+n.toNat*u.2,none⟩),?_,.ptr K x rfl λ_=>⟨i,L,rfl⟩⟩;simp[Instr.indexAt,asIntOf,run_underlying d,v,s,K3 m,OW];cases l
 |_=>cases l
 cases l
def so(P:Program)(t:TypeId)(cs:List Aa)(off:Nat):Option Aa:=
 match tI P t with
 |some (true,n)=>if off+n<=cs.length then some (.agg ((cs.drop off).take n))else none
 |some (false,_)=>cs[off]?
 |none=>none
theorem xm{P:Program}{w:World}(l:i.size=d.length)(o: ∀(j:Nat) (c:Value),i[j]? =some c→c.oneCell'=true)
  (m: ∀(j:Nat) (v:Aa) (c:Value),d[j]? =some v->i[j]? =some c->Bx f v c) (b:so P a d N=some e): ∃c,(part a i N).run P w= .ok c w/\Bx f e c:=by
 unfold so at b;split at b;rename_i n x;split at b;rename_i t;simp at b;subst b;refine⟨.agg (i.extract N (N+n)),by simp[part,Xf x,K3 x],.agg w! (λj c h=>?_) λj v c h g=>?_⟩;grind[Array.getElem?_extract];grind;cases b;rename_i n x;have k:N<d.length:=q!
 have g:i[N]? =some (i[N]' o!):=Nf o!;exact⟨_,by simp[part,Xf x,g],m N e _ b g⟩;cases b
def rW(P:Program)(s f:Nat)(v:Aa):Option Aa:=
 match fI P s f,v with
 |some (off,t,_),.agg cs=>so P t cs off
 |_,_=>none
def ABH(r:Bx f e b)(d:rW P N t e=some p): ∃x,(Instr.field N b t).run P w= .ok x w/\Bx f p x:=by
 unfold rW at d;split at d;rename_i o v n i a;cases r with
 | @agg i j g k m=>obtain⟨x,l,hr⟩:=xm (P:=P) (w:=w) g k m d;unfold fI at a;split at a;rename_i q h;split at a;rename_i s u;split at a;simp at a;obtain⟨rfl,rfl,rfl⟩:=a;exact⟨x,by simp[Instr.field,run_underlying h,u,asAgg,l],hr⟩;cases a;cases a;cases a
 cases d
def jQ(P:Program)(t:TypeId)(v i:Aa):Option Aa:=
 match v,i with
 | .agg cs,.int _ i=>
  match eI P t with
  |some (some len,e,sz)=>if 0<=i/\i<len then so P e cs (i.toNat*sz)else none
  |_=>none
 | .str s,.int _ i=>if kd P t= .str/\0<=i then(s[i.toNat]?).map λb=>.int .u8 b.toNat else none
 |_,_=>none
theorem sN{P:Program}(h:kd P a= .str):P.underlying a=some .string:=by unfold kd at h;grind
theorem AGo(h:kd P a= .int D):P.underlying a=some (.int D):=by unfold kd at h;grind
theorem ABM(r:Bx f e b)(u:Bx f p B)(t:jQ P a e p=some G): ∃x,(Instr.index a b B).run P w= .ok x w/\Bx f G x:=by
 unfold jQ at t;split at t;rename_i C k n;cases u;split at t;rename_i len q sz d;split at t;rename_i g;cases r with
 | @agg C D m F J=>
  obtain⟨x,i,hr⟩:=xm (P:=P) (w:=w) m F J t;unfold eI at d;split at d;rename_i A E o;cases z:tI P E with
  |none=>grind
  |some c=>rw[z]at d;simp only[Bs,Ao,EX]at d;obtain⟨rfl,rfl,rfl⟩:=d;exact⟨x,by simp[Instr.index,asIntOf,run_underlying o,g,K3 z,i],hr⟩
  simp_all;cases d
 cases t;cases t;rename_i s k n;cases u;cases r with
 | @str s h I=>
  split at t;rename_i g;subst I;cases y:h.data.toList[n.toNat]? with
  |none=>grind
  |some v=>
   rw[y]at t;simp only[Bs,Ao]at t;subst t;have j:h[n.toNat]? =some v:=by
    obtain⟨H,d⟩:=HJ.1 y;have l:n.toNat<h.size:=by simpa using H
    rw[getElem?_pos h n.toNat l];exact congrArg some d
   exact⟨.int .u8 v.toNat,by simp[Instr.index,asIntOf,run_underlying (sN g.1),g.2,j],.int _ _⟩
  cases t
 cases t
def ABv(P:Program)(g:TypeId->Option (List Kd)):List Field->Nat->Option (List Kd)
 |[],_=>some []
 |f::r,off=>
  if f.offset=off/\(f.name== "_")=false then
   match g f.type with
   |some ks=>if ks.length=P.cellsOf f.type then(ABv P g r (off+ks.length)).map (ks++ ·)else none
   |none=>none
  else none
def vQ(P:Program):Nat->TypeId->Option (List Kd)
 |0,_=>none
 |d+1,t=>
  match P.underlying t with
  |some .bool=>some [.bool]
  |some (.int k)=>some [.int k]
  |some .string=>some [.str]
  |some (.array n e)=>
   match vQ P d e with
   |some ks=>if ks.length=P.cellsOf e/\(P.info? e).isSome then some (List.replicate n ks).flatten else none
   |none=>none
  |some (.struct fs)=>if P.stoodInHeld t then none else ABv P (vQ P d) fs.toList 0
  |_=>none
def yz:Kd->Aa->Bool
 | .bool,.bool _=>true
 | .int k,.int k' _=>decide (k=k')
 | .str,.str _=>true
 |_,_=>false
def typed:List Kd->List Aa->Bool
 |[],[]=>true
 |k::ks,v::vs=>yz k v&&typed ks vs
 |_,_=>false
def sEq:Aa->Aa->Bool
 | .bool a,.bool b=>a==b
 | .int _ a,.int _ b=>a==b
 | .str a,.str b=>a==b
 |_,_=>false
def tX:List Aa->List Aa->Bool
 |[],[]=>true
 |a::as,b::bs=>sEq a b&&tX as bs
 |_,_=>false
variable {C:List Kd}
def XQ{b:List Kd}: ∀{a:List Aa},typed (C++b) a=true->typed C (a.take C.length)=true/\typed b (a.drop C.length)=true:=by
 induction C with
 |nil=>intro a h;exact⟨by simp[typed],by simpa using h⟩
 |cons k f e=>
  intro a h;cases a with
  |nil=>simp[typed]at h
  |cons v a=>simp only[Di,typed,BY]at h;obtain⟨c,d⟩:=e h.2;exact⟨by simp[typed,h.1,c],by simpa using d⟩
def Gf: ∀{a:List Kd} {b:List Aa},typed a b=true->b.length=a.length
 |[],[],_=>rfl
 |_::_,_::_,h=>by simp only[typed,BY]at h;simp[Gf h.2]
 |[],_::_,h=>by simp[typed]at h
 |_::_,[],h=>by simp[typed]at h
def oY: ∀(n:Nat) (c bs:List Aa),c.length=bs.length->tX c bs=(tX (c.take n) (bs.take n)&&tX (c.drop n) (bs.drop n))
 |0,c,bs,_=>by simp[tX]
 |n+1,[],[],_=>by simp[tX]
 |n+1,a::c,b::bs,h=>by simp only[Bn,Nat.add_right_cancel_iff]at h;simp only[tX,List.take_succ_cons,List.drop_succ_cons,oY n c bs h,Bool.and_assoc]
 |n+1,[],_::_,h=>by simp at h
 |n+1,_::_,[],h=>by simp at h
def Over(P:Program)(x:Cx)(t:TypeId)(as:List Aa)(a:Value):Prop:=
 ∃(b:Bool) (n:Nat) (cs:List Value),tI P t=some (b,n)/\as.length=n/\lG x as cs/\(if b then a= .agg cs.toArray else cs=[a])
def EqF(P:Program)(d:Nat)(t:TypeId)(ks:List Kd):Prop:=
 ∀(w:World) (x:Cx) (a b:Value) (as bs:List Aa),Over P x t as a->Over P x t bs b->typed ks as=true->typed ks bs=true->(Op.equalIn d t a b).run P w= .ok (tX as bs) w
def kD{P:Program}{off n:Nat}{w:World}(hr:lG f d x)(t:tI P a=some (s,n))(m:s=false→n=1)(o:off+n≤d.length):
  ∃h,(part a x.toArray off).run P w= .ok h w/\Over P f a ((d.drop off).take n) h:=by
 have e:lG f ((d.drop off).take n) ((x.drop off).take n):=by refine⟨by simp[hr.1],λj v c g i=>?_⟩;rw[bD]at g i;split at g;rename_i k;rw[if_pos k]at i;rw[KX]at g i;exact hr.2 _ v c g i;cases g
 cases s with
 |true=>refine⟨.agg (x.toArray.extract off (off+n)),by simp[part,Xf t,K3 t],true,n,(x.drop off).take n,t,w!,e,?_⟩;simp only[if_true,Value.agg.injEq];apply Array.toList_inj.1;simp only[Array.toList_extract,uA,Ss]
 |false=>
  obtain rfl:=m rfl;have l:off<x.length:=by rw[hr.1];omega
  refine⟨x[off],by simp[part,Xf t,l],false,1,(x.drop off).take 1,t,w!,e,?_⟩;rw[if_neg k!,PX l];rfl
def mK{d:Nat}(h:vQ P d a=some C): ∃b,tI P a=some (b,P.cellsOf a)/\(b=false->C.length=1):=by
 cases d with
 |zero=>simp[vQ]at h
 |succ d=>
  unfold vQ at h;unfold tI Program.cellsOf;cases f:P.info? a with
  |none=>
   have t:P.underlying a=none:=by simp[Program.underlying,f]
   rw[t]at h;cases h
  |some i=>
   cases t:P.underlying a with
   |none=>rw[t]at h;cases h
   |some c=>rw[t]at h;refine⟨_,rfl,?_⟩;cases c<;>simp_all<;>(subst h;rfl)
def xy{P:Program}{d:Nat}{g:TypeId→Option (List Kd)}(C: ∀t i,g t=some i→EqF P d t i∧ ∃b,tI P t=some (b,P.cellsOf t)∧(b=false→i.length=1)){x:Cx}{w:World}{l bs:List Aa}{H I:List Value}
  (A:lG x l H) (B:lG x bs I) (j:l.length=bs.length): ∀(m:List Field) (h:Nat) (i:List Kd),ABv P g m h=some i->h<=l.length->typed i (l.drop h)=true->typed i (bs.drop h)=true->(Op.eqFields d H.toArray I.toArray m).run P w= .ok (tX (l.drop h) (bs.drop h)) w
 |[],h,i,hk,_,ta,tb=>by simp only[ABv,Ao]at hk;subst hk;have J:=Gf ta;have K:=Gf tb;rw[EZ J,EZ K];simp[Op.eqFields,tX]
 |f::m,h,i,hk,ho,ta,tb=>by
  simp only[ABv]at hk;split at hk;rename_i L;obtain⟨rfl,k⟩:=L;split at hk;rename_i k1 u;split at hk;rename_i o;cases hr:ABv P g m (f.offset+k1.length)with
  |none=>rw[hr]at hk;cases hk
  |some N=>
   rw[hr]at hk;simp only[Bs,Ao]at hk;subst hk;obtain⟨q,y⟩:=XQ ta;obtain⟨r,z⟩:=XQ tb;obtain⟨s,b,D,n⟩:=C _ _ u;have E:=Gf q;have O:=Gf r;have v:f.name≠ "_" :=by simpa using k
   obtain⟨a,Q,F⟩:=kD (P:=P) (w:=w) (off:=f.offset) A D (λe=>o▸n e) (by rw[<-o];simp at E;omega);obtain⟨c,R,G⟩:=kD (P:=P) (w:=w) (off:=f.offset) B D (λe=>o▸n e) (by rw[<-o];simp at O;omega);rw[<-o]at F G;have p:=s w x a c _ _ F G q r;have M:=xy C (w:=w) A B j m (f.offset+k1.length) N hr (by simp at E;omega) (by simpa[Nd]using y) (by simpa[Nd]using z);rw[oY k1.length _ _ (by simp[j])];simp only[Op.eqFields,if_pos v,Sem.run_bind,Q,R,p,Result.andThen_ok];cases tX ((l.drop f.offset).take k1.length) ((bs.drop f.offset).take k1.length);simp;simp only[Cw,PW,if_false,Bool.true_and,M,Nd]
  cases hk;cases hk;cases hk
def ux{P:Program}{d:Nat}{e:TypeId}{f:List Kd}(o:EqF P d e f){b:Bool}(s:tI P e=some (b,f.length))(j:b=false→f.length=1){x:Cx}{w:World}{h bs:List Aa}{z A:List Value}
  (u:lG x h z) (v:lG x bs A) (g:h.length=bs.length): ∀(n i:Nat),i*f.length<=h.length->typed (List.replicate n f).flatten (h.drop (i*f.length))=true->typed (List.replicate n f).flatten (bs.drop (i*f.length))=true->(Op.eqItems d e f.length z.toArray A.toArray (List.range' i n)).run P w= .ok (tX (h.drop (i*f.length)) (bs.drop (i*f.length))) w
 |0,i,_,ta,tb=>by have B:=Gf ta;have C:=Gf tb;rw[EZ (l:=h.drop _) (by simpa using B),EZ (l:=bs.drop _) (by simpa using C)];simp[Op.eqItems,tX]
 |n+1,i,ho,ta,tb=>by
  rw[lK,oG]at ta tb;obtain⟨q,k⟩:=XQ ta;obtain⟨r,m⟩:=XQ tb;have y:=Gf q;have E:=Gf r;obtain⟨a,H,F⟩:=kD (P:=P) (w:=w) (off:=i*f.length) u s j (by simp at y;omega);obtain⟨c,I,G⟩:=kD (P:=P) (w:=w) (off:=i*f.length) v s j (by simp at E;omega);have p:=o w x a c _ _ F G q r;rw[Nd]at k m;have t:i*f.length+f.length=(i+1)*f.length:=by rw[EW];omega
  rw[t]at k m;have D:=ux o s j (w:=w) u v g n (i+1) (by simp at y;omega) k m;rw[oY f.length _ _ (by simp[g]),Nd,Nd,t];rw[List.range'_succ];simp only[Op.eqItems,Sem.run_bind,H,I,p,Result.andThen_ok];cases tX ((h.drop (i*f.length)).take f.length) ((bs.drop (i*f.length)).take f.length);simp;simp[D]
def vR{P:Program}(d:Nat): ∀(m:Nat) (t:TypeId) (y:List Kd),vQ P m t=some y->EqF P (d+m) t y
 |0,_,_,h=>by simp[vQ]at h
 |m+1,t,y,h=>by
  obtain⟨bt,T,_⟩:=mK h;intro w x a b F bs X Y o p;obtain⟨O,n1,xs,c,U,ra,j⟩:=X;obtain⟨Z,n2,ys,r,V,E,l⟩:=Y;rw[c]at r;simp only[Ao,EX]at r;obtain⟨rfl,rfl⟩:=r;have I:=Gf o;have J:=Gf p;have g: ∀q,P.underlying t=some q->O=(match q with| .struct _| .array _ _=>true|_=>false):=by intro q S;unfold tI at c;rw[S]at c;split at c;rename_i G;injection G with e;subst e;simp only[Ao,EX]at c;exact c.1.symm;cases c
  unfold vQ at h;split at h;rename_i f;simp only[Ao]at h;subst h;have:=g _ f;simp only at this;subst this;simp only[PW,if_false]at j l;subst j l;match F,I,bs,J with
  |[u],_,[v],_=>have C:=ra.2 0 u a rfl rfl;have D:=E.2 0 v b rfl rfl;simp only[typed,Qr]at o p;cases u<;>simp[yz]at o;cases v<;>simp[yz]at p;cases C;cases D;rw[show d+(m+1)=(d+m)+1 from rfl,run_equalIn_bool' w (d+m) t _ _ f];simp[tX,sEq]
  rename_i k f;simp only[Ao]at h;subst h;have:=g _ f;simp only at this;subst this;simp only[PW,if_false]at j l;subst j l;match F,I,bs,J with
  |[u],_,[v],_=>have C:=ra.2 0 u a rfl rfl;have D:=E.2 0 v b rfl rfl;simp only[typed,Qr]at o p;cases u<;>simp[yz]at o;cases v<;>simp[yz]at p;cases C;cases D;subst o p;rw[show d+(m+1)=(d+m)+1 from rfl,run_equalIn_int w (d+m) t _ _ _ _ f];simp[tX,sEq]
  rename_i f;simp only[Ao]at h;subst h;have:=g _ f;simp only at this;subst this;simp only[PW,if_false]at j l;subst j l;match F,I,bs,J with
  |[u],_,[v],_=>
   have C:=ra.2 0 u a rfl rfl;have D:=E.2 0 v b rfl rfl;simp only[typed,Qr]at o p;cases u<;>simp[yz]at o;cases v<;>simp[yz]at p;cases C with
   |str s1 Q=>
    cases D with
    |str s2 R=>subst Q R;rw[show d+(m+1)=(d+m)+1 from rfl,run_equalIn_string w (d+m) t _ _ f];simp[tX,sEq,ByteArray.toList_eq]
  rename_i n e f;split at h;rename_i k1 A;split at h;rename_i H;simp only[Ao]at h;subst h;have:=g _ f;simp only at this;subst this;simp only[if_true]at j l;subst j l;obtain⟨N,s⟩:=de.1 H.2;obtain⟨b,L,B⟩:=mK A;rw[<-H.1]at L;have i:=ux (vR d m e k1 A) L B (w:=w) ra E o! n 0 k! (by simpa using o) (by simpa using p);rw[show d+(m+1)=(d+m)+1 from rfl,run_equalIn_array w (d+m) _ _ f s,<-H.1,List.range_eq_range'];simpa using i;cases h;cases h;rename_i K f;split at h;cases h;rename_i W;have:=g _ f;simp only at this;subst this;simp only[if_true]at j l;subst j l;have z:P.fieldsOf t=K:=by simp[Program.fieldsOf,f]
  have i:=xy (d:=d+m) (λt y M=>⟨vR d m t y M,mK M⟩) (w:=w) ra E o! K.toList 0 y h k! (by simpa using o) (by simpa using p);rw[show d+(m+1)=(d+m)+1 from rfl,run_equalIn_struct w (d+m) t _ _ (by rw[z];exact f) (by simpa using W),z];simpa using i;cases h
def oI(op:BinOp)(k:IntKind)(a b:Int):Option Aa:=
 match op with
 | .add=>some (.int k (k.wrap (a+b)))
 | .sub=>some (.int k (k.wrap (a-b)))
 | .mul=>some (.int k (k.wrap (a*b)))
 | .quo=>if b=0 then none else some (.int k (k.wrap (a.tdiv b)))
 | .rem=>if b=0 then none else some (.int k (a.tmod b))
 | .and=>some (.int k (k.wrap (BitVec.ofInt k.bits a&&&BitVec.ofInt k.bits b).toNat))
 | .or=>some (.int k (k.wrap (BitVec.ofInt k.bits a|||BitVec.ofInt k.bits b).toNat))
 | .xor=>some (.int k (k.wrap (BitVec.ofInt k.bits a^^^BitVec.ofInt k.bits b).toNat))
 | .andNot=>some (.int k (k.wrap (BitVec.ofInt k.bits a&&& ~~~BitVec.ofInt k.bits b).toNat))
 | .eql=>some (.bool (a==b))
 | .neq=>some (.bool (a !=b))
 | .lss=>some (.bool (decide (a<b)))
 | .leq=>some (.bool (decide (a<=b)))
 | .gtr=>some (.bool (decide (a>b)))
 | .geq=>some (.bool (decide (a>=b)))
 | .shl| .shr=>none
def ya{d b:Int}(w:World)(h:oI F D d b=some e): ∃c,(binOp F a (.int D d) (.int D b)).run P w= .ok c w/\Bx f e c:=by
 cases F<;>simp only[oI]at h<;>(try split at h)<;>first
  |cases h;done
  |(simp at h;subst h;first
    |exact⟨_,by simp[binOp,Op.intArith,Op.intDiv,Op.intBits, *],.int _ _⟩
    |exact⟨_,by simp[binOp,Op.intCmp],.bool _⟩)
def jX(op:BinOp)(k:IntKind)(a b:Int):Option Aa:=
 if b<0 then none else
 match op with
 | .shl=>some (.int k (k.wrap (a*2^min b.toNat k.bits)))
 | .shr=>some (.int k (a.fdiv (2^min b.toNat k.bits)))
 |_=>none
def ACb(P:Program)(t:TypeId):Option (List Kd):=
 if P.eqGuardType P.depth t then none else
 match vQ P 12 t with
 |some ks=>if tI P t=some (true,ks.length)then some ks else none
 |none=>none
def vJ(op:BinOp)(a b:List UInt8):Option Aa:=
 match op with
 | .add=>if a.length+b.length<=9223372036854775807 then some (.str (a++b))else none
 | .eql=>some (.bool (a==b))
 | .neq=>some (.bool (a !=b))
 | .lss=>some (.bool (Op.bytesLess a b))
 | .leq=>some (.bool (Op.bytesLess a b||a==b))
 | .gtr=>some (.bool (!(Op.bytesLess a b||a==b)))
 | .geq=>some (.bool (!Op.bytesLess a b))
 |_=>none
def wj(P:Program)(op:BinOp)(t:TypeId)(x y:Aa):Option Aa:=
 match x,y with
 | .int k a,.int k' b=>
  match op with
  | .shl| .shr=>jX op k a b
  |_=>if k=k' then oI op k a b else none
 | .bool a,.bool b=>
  match op with
  | .eql=>if kd P t= .bool then some (.bool (a==b))else none
  | .neq=>if kd P t= .bool then some (.bool (!(a==b)))else none
  |_=>none
 | .str a,.str b=>vJ op a b
 | .agg as,.agg bs=>
  match ACb P t with
  |some ks=>
   if typed ks as=true/\typed ks bs=true then
    match op with
    | .eql=>some (.bool (tX as bs))
    | .neq=>some (.bool (!tX as bs))
    |_=>none
   else none
  |none=>none
 |_,_=>none
theorem AAZ(h:kd P a= .bool):P.underlying a=some .bool:=by unfold kd at h;grind
def toList_data(t:ByteArray):t.toList=t.data.toList:=ByteArray.toList_eq t
def AET(w:World)(ra:Bx f e b)(A:Bx f p B)(h:wj P F a e p=some G):
  ∃c,(do eqGuard F a k L b B;binOp F a b B:Sem Value).run P w= .ok c w/\Bx f G c:=by
 unfold wj at h;split at h;rename_i t n T U;cases ra;cases A;have m:(eqGuard F a k L (.int t n) (.int T U)).run P w= .ok () w:=by unfold eqGuard;cases F<;>simp
 simp only[Sem.run_bind,m,Result.andThen_ok];split at h;unfold jX at h;split at h;cases h;rename_i C;simp only[Ao]at h;subst h;exact⟨_,by simp[binOp,Op.shift,C],.int _ _⟩;unfold jX at h;split at h;cases h;rename_i C;simp only[Ao]at h;subst h;exact⟨_,by simp[binOp,Op.shift,C],.int _ _⟩;simp_all[ya];rename_i X q;cases ra;cases A;have m:(eqGuard F a k L (.bool X) (.bool q)).run P w= .ok () w:=by unfold eqGuard;cases F<;>simp
 simp only[Sem.run_bind,m,Result.andThen_ok];split at h;split at h;rename_i I;simp only[Ao]at h;subst h;exact⟨_,run_eql_bool w a X q (AAZ I),.bool _⟩;cases h;split at h;rename_i I;simp only[Ao]at h;subst h;refine⟨_,?_,.bool _⟩;simp only[binOp];simp[run_equal_bool w a X q (AAZ I)];cases h;cases h
 ·rename_i s1 s2;cases ra with
  |str s x=>
   cases A with
   |str z O=>
    have m:(eqGuard F a k L (.string s) (.string z)).run P w= .ok () w:=by unfold eqGuard;cases F<;>simp
    simp only[Sem.run_bind,m,Result.andThen_ok];subst x O;unfold vJ at h;split at h;split at h;rename_i S;simp only[Ao]at h;subst h;have o: ¬(((s.size+z.size:Nat):Int)>IntKind.i64.max):=by
     have Z:s.data.toList.length=s.size:=k!
     have e2:z.data.toList.length=z.size:=k!
     have K:IntKind.i64.max=9223372036854775807:=g!
     rw[K];omega
    exact⟨.string (s++z),by simp only[binOp];simp only[Op.stringOp,if_neg o];rfl,.str _ k!⟩;cases h;all_goals first
     |cases h;done
     |(simp only[Ao]at h
       subst h;exact⟨_,by simp only[binOp];simp[Op.stringOp,toList_data,bne],.bool _⟩)
 rename_i g bs;cases ra with
 | @agg g b V M Y=>
  cases A with
  | @agg bs B W N vb=>
   split at h;rename_i ks d;unfold ACb at d;split at d;cases d;rename_i u;split at d;rename_i J E;split at d;rename_i r;simp only[Ao]at d;subst d;split at h;rename_i i;have y:=vR (P:=P) 9988 12 a J E;have Q:=Gf i.1;have R:=Gf i.2;have l:(Op.equalIn 10000 a (.agg b) (.agg B)).run P w= .ok (tX g bs) w:=
    y w f (.agg b) (.agg B) g bs ⟨true,_,b.toList,r,o!,⟨by simpa using V,λj v c H D=>Y j v c H (by simpa using D)⟩,k!⟩
     ⟨true,_,B.toList,r,o!,⟨by simpa using W,λj v c H D=>vb j v c H (by simpa using D)⟩,k!⟩ i.1 i.2
   have m:(eqGuard F a k L (.agg b) (.agg B)).run P w= .ok () w:=run_eqGuard_agg w F a k L b B (by simpa using u);simp only[Sem.run_bind,m,Result.andThen_ok];split at h;simp only[Ao]at h;subst h;exact⟨_,by rw[run_eql_struct,l];rfl,.bool _⟩;simp only[Ao]at h;subst h;exact⟨_,by rw[run_neq_struct,l];rfl,.bool _⟩;cases h;cases h;cases d;cases d;cases h
 cases h
def unV(op:UnOp)(v:Aa):Option Aa:=
 match op,v with
 | .neg,.int k n=>some (.int k (k.wrap (0-n)))
 | .xor,.int k n=>some (.int k (k.wrap (BitVec.ofInt k.bits (if k.signed then-1 else k.max)^^^BitVec.ofInt k.bits n).toNat))
 | .not,.bool b=>some (.bool !b)
 |_,_=>none
def AHN{v:UnOp}(w:World)(r:Bx f e b)(h:unV v e=some p): ∃a,(Op.unary v b).run P w= .ok a w/\Bx f p a:=by unfold unV at h;split at h;cases r;simp at h;subst h;exact⟨_,by simp[Op.unary,Op.intArith],.int _ _⟩;cases r;simp at h;subst h;exact⟨_,by simp only[Op.unary];rfl,.int _ _⟩;cases r;simp at h;subst h;exact⟨_,by simp[Op.unary],.bool _⟩;cases h
def rowsOf(H:A1):Aa->Option (List Aa)
 | .vs sz rows=>if sz=1 then some (rows.flatMap Aa.cells)else none
 | .sl id g sz off len=>
  match H[id]? with
  |some (.live g' cs)=>if g=g'/\sz=1/\off+len<=cs.length then some ((cs.drop off).take len)else none
  |_=>none
 | .nils=>some []
 |_=>none
def u8s:List Aa->Option (List UInt8)
 |[]=>some []
 | .int .u8 n::r=>(u8s r).map (UInt8.ofNat n.toNat:: ·)
 |_=>none
def Wo(P:Program)(H:A1)(src dst:TypeId)(v:Aa):Option Aa:=
 match kd P dst,v with
 | .int k,.int _ n=>if(P.underlying src).isSome then some (.int k (k.wrap n))else none
 | .str,.str s=>if(P.underlying src).isSome then some (.str s)else none
 | .str,v=>
  if kd P src= .bytes then
   match rowsOf H v with
   |some cs=>(u8s cs).map Aa.str
   |none=>none
  else none
 |_,_=>none
theorem pH{sz:Nat}: ∀{rows:List Aa},(∀(j:Nat) (e:Aa),rows[j]? =some e->e.cells.length=sz)->(rows.flatMap Aa.cells).length=rows.length*sz
 |[],_=>k!
 |e::r,h=>by have b:=h 0 e rfl;have d:=pH (rows:=r) λj a c=>h (j+1) a q!;grind
theorem flat_get{sz:Nat}(c:0<sz): ∀{rows:List Aa},(∀(j:Nat) (e:Aa),rows[j]? =some e→e.cells.length=sz)→ ∀(i:Nat) (v:Aa),(rows.flatMap Aa.cells)[i]? =some v→
  ∃e,rows[i/sz]? =some e/\e.cells[i%sz]? =some v
 |e::r,h,i,v,hi=>by
  have d:=h 0 e rfl;simp at hi;rcases Ay i sz with f|a;grind[Nat.div_eq_of_lt,Nat.mod_eq_of_lt];rw[Cj o!,d]at hi;obtain⟨b,l,m⟩:=flat_get c (rows:=r) (λj b n=>h (j+1) b q!) (i-sz) v hi;have g:i/sz=(i-sz)/sz+1:=by rw[<-Nat.add_div_right _ c,Nat.sub_add_cancel a]
  have k:i%sz=(i-sz)%sz:=by rw[<-Nat.add_mod_right (i-sz),Nat.sub_add_cancel a]
  grind
def zb{P:Program}(s:It c h H w)(r:Bx (cx c h H w) e b)(hr:rowsOf H e=some d):
  ∃a n cap V,b= .slice a n cap/\n=d.length/\lG (cx c h H w) d V/\((a=none/\n=0)\/ ∃C,a=some C/\(loadCells C n).run P w= .ok V.toArray w):=by
 cases r with
 |nils=>simp only[rowsOf,Ao]at hr;subst hr;exact⟨none,0,0,[],rfl,rfl,⟨rfl,λ_ _ _ h=>by cases h⟩,.inl ⟨rfl,rfl⟩⟩
 | @vs sz X a cap f D ar m Z hv=>
  simp only[rowsOf]at hr;split at hr;rename_i R;subst R;simp only[Ao]at hr;subst hr;have l:=pH m;rw[Nat.mul_one]at l;cases X with
  |nil=>
   cases a with
   |none=>exact⟨none,0,cap,[],rfl,rfl,⟨rfl,λ_ _ _ h=>by cases h⟩,.inl ⟨rfl,rfl⟩⟩
   |some C=>exact⟨some C,0,cap,[],rfl,rfl,⟨rfl,λ_ _ _ h=>by cases h⟩,.inr ⟨C,rfl,by simp[loadCells,loadCellsFrom]⟩⟩
  |cons Y I=>
   obtain⟨B,i,rfl,hO,hB,L⟩:=Z k!;generalize Y::I=X at*;refine⟨_,X.length,cap,(List.range X.length).map λj=>f j 0,rfl,l.symm,⟨by simp[l],λj e v A o=>?_⟩,.inr ⟨_,rfl,?_⟩⟩;obtain⟨K,p,E⟩:=flat_get o! m j e A;rw[Nat.div_one]at p;rw[Nat.mod_one]at E;have t:j<X.length:=by rcases Ay j X.length with y|y;exact y;rw[Cm y]at p;cases p
   rw[CN,Qv t]at o;simp only[Bs,Ao]at o;subst o;exact hv j K 0 e p E;have:=run_loadCells (P:=P) w ⟨B,i,none⟩ X.length (λj=>f j 0) λj A=>by have J:X[j]? =some (X[j]):=Av A;have hl:=m j _ J;have M:(X[j]).cells[0]? =some ((X[j]).cells[0]' o!):=Av o!;rw[OW];have:=(L j _ 0 _ J M).1;simpa[cx]using this
   exact this
  cases hr
 | @sl id g sz i len b ao hg R L=>
  simp only[rowsOf]at hr;split at hr;rename_i g' x J;split at hr;rename_i z;obtain⟨rfl,rfl,ap⟩:=z;simp only[Ao]at hr;subst hr;obtain⟨G,F⟩:=s.live id g x J;rcases L G with⟨q,rfl,rfl,rfl⟩|⟨B,cap,q,D,N,rfl⟩;exact⟨none,0,0,[],rfl,k!,⟨k!,λ_ _ _ _ h=>by cases h⟩,.inl ⟨rfl,rfl⟩⟩;rcases F with⟨hn,_⟩|⟨Q,W,T,fz,f,u,hb,S,U,al,k⟩;rw[hn]at q;cases q;have:Q=B:=by rw[q]at u;injection u with K;exact K.symm
  subst this;refine⟨_,len,cap,(List.range len).map λj=>f (i+j),rfl,w!,⟨w!,λj e v A o=>?_⟩,.inr ⟨_,rfl,?_⟩⟩;have t:j<len:=by rcases Ay j len with y|y;exact y;rw[Cm (by simpa using y)]at o;cases o
  rw[bD,if_pos t,KX]at A;rw[CN,Qv t]at o;simp only[Bs,Ao]at o;subst o;exact(k _ e A).2.2;exact run_loadCells (P:=P) w ⟨Q,i,none⟩ len (λj=>f (i+j)) λj A=>by have O:x[i+j]? =some (x[i+j]' o!):=Av o!;rw[OW,PZ (w:=w) hb];exact(k _ _ O).1
  cases hr;cases hr
 |_=>simp only[rowsOf]at hr;cases hr
theorem yG{x:Cx}: ∀{d:List Aa} {b:List Value} {bs:List UInt8},lG x d b->u8s d=some bs-> ∃e:List Int,b=e.map (Value.int .u8)/\bs=e.map λn=>UInt8.ofNat n.toNat
 |[],b,bs,hr,hb=>by simp only[u8s]at hb;rw[EZ hr.1];simp_all
 |v::d,b,bs,hr,hb=>by
  match b,hr with
  |u::b,hr=>
   have h:=hr.2 0 v u rfl rfl;have l:lG x d b:=⟨by have:=hr.1;simpa using this,λj a c p o=>hr.2 (j+1) a c q! q!⟩
   unfold u8s at hb;split at hb<;>rename_i f<;>(try cases f)<;>try (cases hb;done)
   cases k:u8s d with
   |none=>grind
   |some g=>obtain⟨e,i,m⟩:=yG l k;cases h;exact⟨_::e,by rw[i];rfl,q!⟩
def yu(a:List Int): ∀s:ByteArray,(a.foldl (λr n=>r.push (UInt8.ofNat n.toNat)) s).data.toList=s.data.toList++a.map λn=>UInt8.ofNat n.toNat:=by induction a<;>simp_all
theorem AC5{P:Program}(h:kd P a= .bytes): ∃e,P.underlying a=some (.slice e)/\P.underlying e=some (.int .u8):=by unfold kd at h;grind
theorem ACi(s:It c h H w)(r:Bx (cx c h H w) e b)(l:Wo P H a J e=some p):
  ∃y,(convert a J b).run P w= .ok y w/\Bx (cx c h H w) p y:=by
 unfold Wo at l;split at l;rename_i k I n j;split at l;rename_i i;obtain⟨C,i⟩:=de.1 i;simp only[Ao]at l;subst l;cases r;exact⟨_,by simp[convert,run_underlying i,run_underlying (AGo j),Conv.intToInt],.int _ _⟩;cases l;rename_i o j;split at l;rename_i i;obtain⟨C,i⟩:=de.1 i;simp only[Ao]at l;subst l;cases r with
 |str t F=>exact⟨_,by simp[convert,run_underlying i,run_underlying (sN j)],.str _ F⟩
 cases l;rename_i L j _;split at l;rename_i D;split at l;rename_i B v;cases q:u8s B with
 |none=>rw[q]at l;cases l
 |some bs=>
  rw[q]at l;simp only[Bs,Ao]at l;subst l;obtain⟨u,m,z⟩:=AC5 D;obtain⟨X,n,cap,K,rfl,hn,d,f⟩:=zb (P:=P) s r v;obtain⟨x,rfl,rfl⟩:=yG d q;rcases f with⟨rfl,E⟩|⟨A,rfl,g⟩;have:x=[]:=by have G:=d.1;grind[List.length_map,List.eq_nil_of_length_eq_zero]
  subst this;exact⟨.string .empty,by simp[convert,run_underlying m,run_underlying (sN j),run_underlying z,Conv.bytesToString],.str _ rfl⟩;refine⟨_,?_,.str _ (yu x ByteArray.empty)⟩;simp only[convert,Sem.run_bind,run_underlying m,run_underlying (sN j),run_underlying z,Result.andThen_ok];exact run_bytesToString w A n cap x (by simpa using g)
 cases l;cases l;cases l
def sR(P:Program)(H:A1)(t:TypeId)(v:Aa):Option Aa:=
 match P.underlying t,v with
 |some .string,.str s=>some (.int .i64 s.length)
 |some (.array n _),_=>some (.int .i64 n)
 |some (.slice _),.vs _ rows=>some (.int .i64 rows.length)
 |some (.slice _),.sl _ _ _ _ len=>some (.int .i64 len)
 |some (.slice _),.nils=>some (.int .i64 0)
 |_,_=>none
def AE1{P:Program}{w:World}{t ty:TypeId}(s:It c h H w)(r:Bx (cx c h H w) e b)(X:sR P H t e=some p):
  ∃f,(Builtin.len_ #[t] ty #[b]).run P w= .ok f w/\Bx (cx c h H w) p f:=by
 unfold sR at X;split at X;rename_i v d;simp only[Ao]at X;subst X;cases r with
 |str j m=>
  refine⟨.int .i64 j.size,by simp[Builtin.len_,run_underlying d,goInt],?_⟩;have:v.length=j.size:=by rw[<-m];simp
  rw[this];exact .int _ _
 rename_i n u d;simp only[Ao]at X;subst X;exact⟨.int .i64 n,by simp[Builtin.len_,run_underlying d,goInt],.int _ _⟩;rename_i sz i d;simp only[Ao]at X;subst X;cases r;exact⟨_,by simp[Builtin.len_,run_underlying d,goInt],.int _ _⟩;rename_i id g sz o len d;simp only[Ao]at X;subst X;cases r with
 |sl l x k q=>obtain⟨a,cap,rfl⟩:=k;exact⟨_,by simp[Builtin.len_,run_underlying d,goInt],.int _ _⟩
 rename_i d;simp only[Ao]at X;subst X;cases r;exact⟨_,by simp[Builtin.len_,run_underlying d,goInt],.int _ _⟩;cases X
def mmV(mx:Bool):List Aa->Option Aa
 |[.int k a,.int _ b]=>some (.int k (if mx then(if b>a then b else a)else(if b<a then b else a)))
 |_=>none
def ADH{P:Program}{w:World}{mx:Bool}{ts:Array TypeId}{ty:TypeId}(g:Bx f p b)(h:Bx f e B)(a:mmV mx [p,e]=some G):
  ∃x,((if mx then Builtin.max_ ts ty #[b,B]else Builtin.min_ ts ty #[b,B]):Sem Value).run P w= .ok x w/\Bx f G x:=by
 cases p<;>try (simp[mmV]at a;done)
 cases e<;>try (simp[mmV]at a;done)
 cases g;cases h;simp only[mmV,Ao]at a;subst a;cases mx;exact⟨_,by simp[Builtin.min_,Builtin.min2],.int _ _⟩;exact⟨_,by simp[Builtin.max_,Builtin.max2],.int _ _⟩
def mm3:Aa->Aa->Aa->Option Aa
 | .int k a,.int _ b,.int _ c=>some (.int k (if c<(if b<a then b else a)then c else(if b<a then b else a)))
 |_,_,_=>none
def AE6{P:Program}{w:World}{ts:Array TypeId}{ty:TypeId}{u:Aa}{g:Value}(i:Bx f e b)(j:Bx f p B)(k:Bx f G g)(a:mm3 e p G=some u):
  ∃x,(Builtin.min_ ts ty #[b,B,g]).run P w= .ok x w/\Bx f u x:=by
 unfold mm3 at a;split at a;cases i;cases j;cases k;simp at a;subst a;exact⟨_,by simp[Builtin.min_,Builtin.min2],.int _ _⟩;cases a
def se:Aa->Option Nat
 | .int _ i=>if 0<=i then some i.toNat else none
 |_=>none
def WL(d:Nat):Option Aa->Option Nat
 |none=>some d
 |some v=>se v
def gH(P:Program)(H:A1)(t:TypeId)(v:Aa)(lo hi mx:Option Aa):Option Aa:=
 match v with
 | .str s=>
  match WL 0 lo,WL s.length hi,mx with
  |some l,some h,none=>if kd P t= .str/\l<=h/\h<=s.length then some (.str ((s.drop l).take (h-l)))else none
  |_,_,_=>none
 | .vs sz rows=>
  match WL 0 lo,WL rows.length hi,WL rows.length mx,eI P t with
  |some l,some h,some m,some (none,_,sz')=>if sz=sz'/\l<=h/\h<=m/\m<=rows.length/\(mx.isSome=true->hi.isSome=true)then some (.vs sz ((rows.drop l).take (h-l)))else none
  |_,_,_,_=>none
 | .sl id g sz off len=>
  match WL 0 lo,WL len hi,WL len mx,eI P t with
  |some l,some h,some m,some (none,_,sz')=>
   if sz=sz'/\0<sz/\l<=h/\h<=m/\m<=len/\TB H id g=true/\(mx.isSome=true->hi.isSome=true)then
    if l=0 then some (.sl id g sz off h)else if l=h then some (.vs sz [])else some (.sl id g sz (off+l*sz) (h-l))
   else none
  |_,_,_,_=>none
 | .nils=>
  match WL 0 lo,WL 0 hi,WL 0 mx,eI P t with
  |some 0,some 0,some 0,some (none,_,_)=>if mx.isSome=true->hi.isSome=true then some .nils else none
  |_,_,_,_=>none
 |_=>none
theorem ABU(r:Bx f e b)(h:se e=some N): ∃k i,b= .int k i/\0<=i/\i.toNat=N:=by
 cases e<;>try (simp[se]at h;done)
 cases r;grind[se]
def run_sliceBound{P:Program}{w:World}{code:BoundsCode}(r:Bx f e b)(h:se e=some N)(x:N<=t):(Instr.sliceBound b t code).run P w= .ok N w:=by
 obtain⟨k,i,rfl,a,rfl⟩:=ABU r h;have:i<=t:=o!
 simp[Instr.sliceBound,asIntOf,a,this]
def Ya{P:Program}{w:World}{isSlice:Bool}{len cap l h m:Nat}{k j mx:Option Aa}{e b cmx:Option Value}(i: ∀v,k=some v→ ∃c,e=some c∧Bx f v c)(g:k=none→e=none)
  (o: ∀v,j=some v-> ∃c,b=some c/\Bx f v c) (t:j=none->b=none) (z: ∀v,mx=some v-> ∃c,cmx=some c/\Bx f v c) (u:mx=none->cmx=none)
  (a:WL 0 k=some l) (q:WL len j=some h) (D:WL len mx=some m) (s:l<=h) (E:h<=m) (J:m<=len) (K:len<=cap) (F:mx.isSome=true->j.isSome=true):
  (Instr.sliceBounds isSlice len cap e b cmx).run P w= .ok (l,h,if mx.isSome then m else cap) w:=by
 unfold Instr.sliceBounds;cases mx with
 |none=>
  obtain rfl:=u rfl;cases j with
  |none=>
   obtain rfl:=t rfl;simp only[WL,Ao]at q;subst q;cases k with
   |none=>obtain rfl:=g rfl;simp only[WL,Ao]at a;simp[a]
   |some v=>obtain⟨d,rfl,r⟩:=i v rfl;have n:=λc=>run_sliceBound (P:=P) (w:=w) (code:=c) r a s;simp[n]
  |some A=>
   obtain⟨B,rfl,y⟩:=o A rfl;have p:=λc=>run_sliceBound (P:=P) (w:=w) (code:=c) y q (show h<=cap by omega);cases k with
   |none=>obtain rfl:=g rfl;simp only[WL,Ao]at a;simp[a,p]
   |some v=>obtain⟨d,rfl,r⟩:=i v rfl;have n:=λc=>run_sliceBound (P:=P) (w:=w) (code:=c) r a s;simp[p,n]
 |some H=>
  obtain⟨I,rfl,G⟩:=z H rfl;have x:=F rfl;cases j with
  |none=>simp at x
  |some A=>
   obtain⟨B,rfl,y⟩:=o A rfl;have C:=λc=>run_sliceBound (P:=P) (w:=w) (code:=c) G D (show m<=cap by omega);have p:=λc=>run_sliceBound (P:=P) (w:=w) (code:=c) y q E;simp only[Sem.run_bind,C,p,Result.andThen_ok,Option.isSome_some,if_true];cases k with
   |none=>obtain rfl:=g rfl;simp only[WL,Ao]at a;simp[a]
   |some v=>obtain⟨d,rfl,r⟩:=i v rfl;have n:=λc=>run_sliceBound (P:=P) (w:=w) (code:=c) r a s;simp[n]
theorem QN{P:Program}(t:eI P a=some (none,J,N)):P.underlying a=some (.slice J)/\ ∃b,tI P J=some (b,N):=by unfold eI at t;split at t;simp_all;rename_i c d;cases f:tI P c<;>grind;cases t
theorem ABr{lo V q:Option Aa}{N L A:Option Value}(s:It c h H w)(r:Bx (cx c h H w) e b)
  (K: ∀e,lo=some e-> ∃b,N=some b/\Bx (cx c h H w) e b) (G:lo=none->N=none)
  (J: ∀e,V=some e-> ∃b,L=some b/\Bx (cx c h H w) e b) (F:V=none->L=none) (R: ∀e,q=some e-> ∃b,A=some b/\Bx (cx c h H w) e b) (I:q=none->A=none)
  (d:gH P H a e lo V q=some p): ∃c',(Instr.sliceAt a b N L A).run P w= .ok c' w/\Bx (cx c h H w) p c':=by
 unfold gH at d;split at d;rename_i s';split at d;rename_i l v S O;split at d;rename_i o;obtain⟨hk,h1,U⟩:=o;simp only[Ao]at d;subst d;obtain rfl:=I rfl;cases r with
 |str t' ht=>
  have x:s'.length=t'.size:=by rw[<-ht];simp
  rw[x]at O U;have o:=Ya (P:=P) (w:=w) (isSlice:=false) (len:=t'.size) (cap:=t'.size) (mx:=none) (cmx:=none) K G J F (λ_ h=>by cases h) (λ_=>rfl) S O rfl h1 U (Ap _) (Ap _) (λh=>by cases h);refine⟨.string (t'.extract l v),?_,.str _ ?_⟩;simp only[Instr.sliceAt,Instr.slice,Sem.run_bind,run_underlying (sN hk),Result.andThen_ok,Option.isSome_none,PW,if_false,o,Sem.run_pure];simp_all[uA]
 cases d;cases d;rename_i sz k;split at d;rename_i l v m u a1 S O Z he;split at d;rename_i o;obtain⟨rfl,h1,U,h3,h4⟩:=o;simp only[Ao]at d;subst d;obtain⟨z,t,y⟩:=QN he;cases r with
 | @vs sz k X cap f C Y ao ha d=>
  have o:=Ya (P:=P) (w:=w) (isSlice:=true) (len:=k.length) (cap:=cap) K G J F R I S O Z h1 U h3 C h4;have E: ∀{j:Nat} {u:Aa},((k.drop l).take (v-l))[j]? =some u->k[l+j]? =some u:=q!
  have x:((k.drop l).take (v-l)).length=v-l:=w!
  refine⟨.slice (if(if q.isSome then m else cap)=l then X else X.map (·.add (l*sz))) (v-l) ((if q.isSome then m else cap)-l),?_,?_⟩;simp only[Instr.sliceAt,Instr.slice,Sem.run_bind,run_underlying z,Result.andThen_ok,o,K3 y,Sem.run_pure];have hM:v<=(if q.isSome then m else cap):=by split<;>omega
  generalize (if q.isSome then m else cap)=M at hM;have T:Bx (cx c h H w) (.vs sz ((k.drop l).take (v-l))) (.slice (if M=l then X else X.map (·.add (l*sz))) ((k.drop l).take (v-l)).length (M-l)):=?_;rw[x]at T;exact T;refine .vs (λj i=>f (l+j) i) (by rw[x];omega) Y (λj u hj=>ao _ u (E hj)) (λa4=>?_) λj u i e hj V=>d _ u i e (E hj) V;have a3:l<v:=by rcases Ay l v with h5|h5;exact h5;simp_all[EZ]
  obtain⟨B,n,rfl,hO,hB,hc⟩:=ha (by intro u;rw[u]at h3;simp at h3;omega);refine⟨B,n+l*sz,?_,hO,hB,λj u i e hj V=>?_⟩;grind[OW];have:=hc _ u i e (E hj) V;rw[EW]at this;rw[show n+l*sz+(j*sz+i)=n+(l*sz+j*sz+i)from by omega];exact this
 cases d;cases d;rename_i id g sz n len;split at d;rename_i l v m u a1 S O Z he;split at d;rename_i o;obtain⟨rfl,Y,h1,U,h3,ad,h4⟩:=o;obtain⟨z,t,y⟩:=QN he;cases r with
 | @sl id g sz n len b W hg a2 hc=>
  rcases hc (s.cur ad)with⟨Q,rfl,rfl,rfl⟩|⟨B,cap,Q,C,D,rfl⟩;have o:=Ya (P:=P) (w:=w) (isSlice:=true) (len:=0) (cap:=0) K G J F R I S O Z h1 U h3 (Ap _) h4;have ax:l=0:=o!
  have ar:v=0:=o!
  have a0:m=0:=o!
  subst ax ar a0;simp only[if_true,Ao]at d;subst d;refine⟨.slice none 0 0,?_,.sl W hg ⟨_,_,rfl⟩ λ_=>.inl ⟨Q,rfl,rfl,rfl⟩⟩;simp only[Instr.sliceAt,Instr.slice,Sem.run_bind,run_underlying z,Result.andThen_ok,o,K3 y,Sem.run_pure];cases q<;>simp;have o:=Ya (P:=P) (w:=w) (isSlice:=true) (len:=len) (cap:=cap) K G J F R I S O Z h1 U h3 C h4
  have ap:(Instr.sliceAt a (.slice (some ⟨B,n,none⟩) len cap) N L A).run P w=
    .ok (.slice (if(if q.isSome then m else cap)=l then some ⟨B,n,none⟩else(some ⟨B,n,none⟩:Option Addr).map (·.add (l*sz))) (v-l) ((if q.isSome then m else cap)-l)) w:=by
   simp only[Instr.sliceAt,Instr.slice,Sem.run_bind,run_underlying z,Result.andThen_ok,o,K3 y,Sem.run_pure]
  refine⟨_,ap,?_⟩;have hM:v<=(if q.isSome then m else cap)/\(if q.isSome then m else cap)<=cap:=by split<;>omega
  generalize (if q.isSome then m else cap)=M at hM;split at d;rename_i hl;subst hl;simp only[Ao]at d;subst d;refine .sl W hg ⟨_,_,rfl⟩ λ_=>.inr ⟨B,M,Q,hM.1,?_,?_⟩;exact Dh (Nat.add_le_add_left (Mn _ hM.2) _) D;simp[OW];rename_i hl;split at d;rename_i al;subst al;simp only[Ao]at d;subst d;rw[Gl];exact Bx.vs (rows:=[]) (λ_ _=>undef) (Be _) Y (λ_ _ h=>by simp at h) (λh=>(h rfl).elim) λ_ _ _ _ h=>by simp at h
  rename_i al;simp only[Ao]at d;subst d;refine .sl W hg ⟨_,_,rfl⟩ λ_=>.inr ⟨B,M-l,Q,o!,?_,?_⟩;rw[dc,<-EW];have:l+(M-l)=M:=o!
  rw[this];exact Dh (Nat.add_le_add_left (Mn _ hM.2) _) D;rw[if_neg o!];simp[OW]
 cases d;cases d;split at d;rename_i u sz S O Z he;split at d;rename_i h4;simp only[Ao]at d;subst d;obtain⟨z,t,y⟩:=QN he;cases r;have o:=Ya (P:=P) (w:=w) (isSlice:=true) (len:=0) (cap:=0) K G J F R I S O Z (Ap _) (Ap _) (Ap _) (Ap _) h4;refine⟨.slice none 0 0,?_,.nils⟩;simp only[Instr.sliceAt,Instr.slice,Sem.run_bind,run_underlying z,Result.andThen_ok,o,K3 y,Sem.run_pure];cases q<;>simp;cases d;cases d;cases d
def Aa.solid:Aa->Bool
 | .any=>false
 | .tup _=>false
 |_=>true
def cells_one(h:b.oneCell'=true):b.cells= #[b]:=by cases b<;>first|rfl|(simp[Value.oneCell']at h;done)
theorem WE(r:Bx f e b)(h:e.solid=true):Bx f (.agg e.cells) (.agg b.cells):=by
 have one: ∀{u:Aa} {d:Value},Bx f u d->d.oneCell'=true->d.cells= #[d]->u.cells=[u]->Bx f (.agg u.cells) (.agg d.cells):=by intro u d A g q z;rw[q,z];refine .agg rfl (λj b s=>?_) λj e b s l=>?_;grind;grind
 cases r with
 |agg o g p=>exact .agg o g p
 |any b=>simp[Aa.solid]at h
 |tup o p=>simp[Aa.solid]at h
 |ptr i m g l=>exact one (.ptr i m g l) g (cells_one g) rfl
 |sl i m g l=>obtain⟨a,cap,rfl⟩:=g;exact one (.sl i m ⟨a,cap,rfl⟩ l) rfl (cells_one rfl) rfl
 |bool c=>exact one (.bool c) rfl rfl rfl
 |int k n=>exact one (.int k n) rfl rfl rfl
 |str t y=>exact one (.str t y) rfl rfl rfl
 |nilp=>exact one .nilp rfl rfl rfl
 |vptr x a c b d=>exact one (.vptr x a c b d) rfl rfl rfl
 |nils=>exact one .nils rfl rfl rfl
 |vs x a c b d v=>exact one (.vs x a c b d v) rfl rfl rfl
 |fn a c b d=>exact one (.fn a c b d) rfl rfl rfl
 |yf i g l=>exact one (.yf i g l) g (cells_one g) rfl
 |mp i g l=>exact one (.mp i g l) g (cells_one g) rfl
 |itp i w g l=>exact one (.itp i w g l) g (cells_one g) rfl
 |nilf=>exact one .nilf rfl rfl rfl
def WD(cs:List Aa)(off:Nat)(vs:List Aa):List Aa:=cs.take off++vs++cs.drop (off+vs.length)
theorem jW{c:List Aa}(h:N+c.length<=d.length):(WD d N c).length=d.length:=by grind[WD]
theorem tE{b:List Aa}(h:N+b.length<=d.length)(j:Nat):(WD d N b)[j]? =if N<=j/\j<N+b.length then b[j-N]? else d[j]? :=by grind[WD,List.getElem?_append_left]
inductive Za where
 |arr (sz:Nat)
 |str (l:List (Nat×Nat))
def Za.at_:Za->Nat->Option (Nat×Nat)
 | .arr sz,i=>some (i*sz,sz)
 | .str l,i=>l[i]?
def Yd(P:Program)(t:TypeId):Option (List Aa):=
 match (P.info? t).bind (·.zero)with
 |some z=>if z.cells.toList.all (·.oneCell')then some (z.cells.toList.map pZ)else none
 |none=>none
def sw(P:Program)(t:TypeId):Option Za:=
 match P.underlying t with
 |some (.struct fs)=>(fs.toList.mapM λf=>(P.info? f.type).map λi=>(f.offset,i.size)).map Za.str
 |some (.array _ e)=>(P.info? e).map λi=>Za.arr i.size
 |_=>none
def pj(p:Za):List Aa->List (Nat×Aa)->Option (List Aa)
 |cs,[]=>some cs
 |cs,(i,v)::r=>
  match p.at_ i with
  |some (off,size)=>if v.solid=true/\v.cells.length=size/\off+size<=cs.length then pj p (WD cs off v.cells) r else none
  |none=>none
def rF(P:Program)(t:TypeId)(parts:List (Nat×Aa)):Option Aa:=
 match Yd P t,sw P t with
 |some z,some p=>(pj p z parts).map Aa.agg
 |_,_=>none
theorem dR(x:Cx)(h:Yd P a=some d): ∃i v,P.info? a=some i/\i.zero=some v/\Bx x (.agg d) (.agg v.cells):=by
 unfold Yd at h;cases z:P.info? a with
 |none=>grind
 |some i=>
  cases b:i.zero with
  |none=>grind
  |some v=>rw[z]at h;simp only[AD,b]at h;split at h;rename_i t;simp at h;subst h;refine⟨i,v,rfl,b,.agg k! (λj c e=>?_) λj u c e f=>?_⟩;grind;grind[oV];cases h
theorem foldl_set(a:Nat): ∀(l:List Value) (k:Nat) (b:Array Value),a+k+l.length≤b.size→
  ((l.zipIdx k).foldl (λb (p:Value×Nat)=>b.setIfInBounds (a+p.2) p.1) b).size=b.size/\∀j,((l.zipIdx k).foldl (λb (p:Value×Nat)=>b.setIfInBounds (a+p.2) p.1) b)[j]? =if a+k<=j/\j<a+k+l.length then l[j-(a+k)]? else b[j]?
 |[],k,b,_=>by simp;intro j c d;omega
 |v::l,k,b,h=>by simp at h⊢;obtain⟨c,d⟩:=foldl_set a l (k+1) (b.setIfInBounds (a+k) v) w!;grind
theorem ADs{g:List Aa}{b:Array Value}{off:Nat}(r:Bx f (.agg d) (.agg i))(p:Bx f (.agg g) (.agg b))(h:off+g.length≤d.length)(a:Array Value)
  (x:a.size=i.size) (e: ∀j,a[j]? =if off<=j/\j<off+b.size then b[j-off]? else i[j]?):Bx f (.agg (WD d off g)) (.agg a):=by
 cases r with
 |agg m q t=>
  cases p with
  |agg n k o=>refine .agg (by rw[x,m,jW h]) (λj c l=>?_) λj v c l s=>?_;grind;grind[tE]
theorem uR{x:Cx}(p:Za): ∀(b:List (Nat×Aa)) (a:List (Nat×Value)) (f:List Aa) (d:Array Value) (n:List Aa),a.map (·.1)=b.map (·.1)→
  (∀(j:Nat) (q:Nat×Aa) (o:Nat×Value),b[j]? =some q->a[j]? =some o->Bx x q.2 o.2)->Bx x (.agg f) (.agg d)->pj p f b=some n->
  ∃l,Instr.fill p.at_ d a=some l/\Bx x (.agg n) (.agg l)
 |[],a,f,d,n,m,_,r,h=>by
  have:a=[]:=t!
  subst this;simp only[pj,Ao]at h;subst h;exact⟨d,rfl,r⟩
 |(i,v)::b,(i',c)::a,f,d,n,m,hr,r,h=>by
  simp at m;obtain⟨rfl,m⟩:=m;simp only[pj]at h;split at h;rename_i e size E;split at h;rename_i u;obtain⟨g,rfl,s⟩:=u;have t:=WE (hr 0 (i',v) (i',c) rfl rfl) g;have z:c.cells.size=v.cells.length:=by cases t with|agg h _ _=>exact h
  have w:d.size=f.length:=by cases r with|agg h _ _=>exact h
  have k:=foldl_set e c.cells.toList 0 d q!;have B:c.cells.zipIdx.foldl (λf (p:Value×Nat)=>f.setIfInBounds (e+p.2) p.1) d=(c.cells.toList.zipIdx 0).foldl (λf (p:Value×Nat)=>f.setIfInBounds (e+p.2) p.1) d:=by rw[<-Array.foldl_toList,Array.toList_zipIdx]
  have A:=ADs (off:=e) r t s ((c.cells.toList.zipIdx 0).foldl (λf (p:Value×Nat)=>f.setIfInBounds (e+p.2) p.1) d) k.1 (λj=>q!);obtain⟨l,C,D⟩:=uR p b a _ _ n m (λj q o F y=>hr (j+1) q o q! q!) A h;grind[Instr.fill];cases h;cases h
theorem AA4{b:List (Nat×Aa)}{t:Array (Nat×Value)}(E:t.toList.map (·.1)=b.map (·.1))
  (hr: ∀(j:Nat) (q:Nat×Aa) (A:Nat×Value),b[j]? =some q->t.toList[j]? =some A->Bx f q.2 A.2) (h:rF P a b=some e): ∃c,(Instr.build a t).run P w= .ok c w/\Bx f e c:=by
 unfold rF at h;split at h;rename_i z p F d;cases y:pj p z b with
 |none=>grind
 |some H=>
  rw[y]at h;simp at h;subst h;obtain⟨i,v,D,k,G⟩:=dR f F;obtain⟨m,s,C⟩:=uR p b t.toList z v.cells H E hr G y;refine⟨.agg m,run_build w a t m ?_,C⟩;unfold Program.built;rw[D];unfold sw at d;split at d;rename_i B r;rw[r];cases o:B.toList.mapM (λx=>(P.info? x.type).map λi=>(x.offset,i.size))with
  |none=>grind
  |some l=>simp only[k,o];rw[<-s];congr 1;grind[Za.at_]
  rename_i n u r;rw[r];cases g:P.info? u with
  |none=>grind
  |some I=>rw[g]at d;simp at d;subst d;simp only[k,g];exact s
  cases d
 cases h
def Ce(P:Program)(env:Env)(H:A1):Op->Option Aa
 | .move x| .assign x=>some (BM env x)
 | .pick c a b=>
  match BM env c with
  | .bool t=>some (if t then BM env a else BM env b)
  |_=>none
 | .load t a=>gT P t H (BM env a)
 | .nilCheck x=>
  match BM env x with
  | .ptr id g off=>if TB H id g then some (.ptr id g off)else none
  | .vptr cs=>some (.vptr cs)
  | .fn (.func f) a b=>some (.fn (.func f) a b)
  |_=>none
 | .binOp op t x y _=>wj P op t (BM env x) (BM env y)
 | .unOp op _ x=>unV op (BM env x)
 | .convert s d x=>Wo P H s d (BM env x)
 | .fieldAddr s x f=>Ve P H s f (BM env x)
 | .field s x f=>rW P s f (BM env x)
 | .indexAddr t x i=>Vk P H t (BM env x) (BM env i)
 | .index t x i=>jQ P t (BM env x) (BM env i)
 | .slice t x lo hi mx=>gH P H t (BM env x) (lo.map (BM env)) (hi.map (BM env)) (mx.map (BM env))
 | .extract x i=>
  match BM env x with
  | .tup vs=>vs[i]?
  |_=>none
 | .makeFunc f a b=>some (.fn f (a.toList.map (BM env)) (b.toList.map (BM env)))
 | .build t parts=>rF P t (parts.toList.map λp=>(p.1,BM env p.2))
 | .call {callee:=.builtin .len,args:=⟨[x]⟩,argTypes:=⟨[t]⟩}=>sR P H t (BM env x)
 | .call {callee:=.builtin .max,args:=⟨[x,y]⟩,.. }=>mmV true [BM env x,BM env y]
 | .call {callee:=.builtin .min,args:=⟨[x,y]⟩,.. }=>mmV false [BM env x,BM env y]
 | .call {callee:=.builtin .min,args:=⟨[x,y,z]⟩,.. }=>mm3 (BM env x) (BM env y) (BM env z)
 |_=>none
def ABg{P:Program}{N:Nat}{X:Nat→Prop}{h:Gh}{env:Env}{H:A1}{a:Act}{w:World}{o:Oper}{v:Aa}(s:St X h N env H a w)(b:Ce P env H o.op=some v):
  ∃c,(execOp a.eval o).run P w= .ok (.value c) w/\Bx (cx X h H w) v c:=by
 have k:=λx=>Dj s.env x;have d: ∀{m:Sem Value},(∃c,m.run P w= .ok c w/\Bx (cx X h H w) v c)-> ∃c,(do pure (Next.value (<-m)):Sem Next).run P w= .ok (.value c) w/\Bx (cx X h H w) v c:=by rintro m ⟨c,u,hr⟩;exact⟨c,by simp[u],hr⟩
 unfold execOp;cases e:o.op with
 |move x=>rw[e]at b;simp only[Ce,Ao]at b;subst b;exact⟨_,rfl,k x⟩
 |assign x=>rw[e]at b;simp only[Ce,Ao]at b;subst b;exact⟨_,rfl,k x⟩
 |pick c x y=>rw[e]at b;simp only[Ce]at b;split at b;rename_i t ht;have u:=k c;rw[ht]at u;simp only[Ao]at b;subst b;generalize W:a.eval c=cv at u;cases u;simp only[W,asBool];cases t;exact⟨_,k!,k y⟩;exact⟨_,k!,k x⟩;cases b
 |load t x=>rw[e]at b;simp only[Ce]at b;obtain⟨B,ad,D,E,hl,hr⟩:=xW s.sim (k x) b;exact d ⟨D,by rw[E];simp[Instr.loadAt,Instr.sureAddr,hl],hr⟩
 |nilCheck x=>
  rw[e]at b;simp only[Ce]at b;have z:=k x;split at b;rename_i id g ad E;rw[E]at z;split at b;rename_i M;simp only[Ao]at b;subst b;generalize A:a.eval x=c at z;cases z with
  |ptr Y S n u=>obtain⟨B,al,rfl⟩:=u (s.sim.cur M);exact⟨_,by simp only[A];rfl,.ptr Y S n u⟩
  cases b;rename_i cs E;rw[E]at z;simp only[Ao]at b;subst b;generalize A:a.eval x=c at z;cases z with
  |vptr f n r U V=>exact⟨_,by simp only[A];rfl,.vptr f n r U V⟩
  rename_i f p q E;rw[E]at z;simp only[Ao]at b;subst b;generalize A:a.eval x=c at z;cases z with
  |fn n r U V=>exact⟨_,by simp only[A];rfl,.fn n r U V⟩
  cases b
 |binOp op t x y yt=>rw[e]at b;simp only[Ce]at b;exact d (AET w (k x) (k y) b)
 |unOp op t x=>rw[e]at b;simp only[Ce]at b;exact d (AHN w (k x) b)
 |convert p q x=>rw[e]at b;simp only[Ce]at b;exact d (ACi s.sim (k x) b)
 |fieldAddr p x f=>rw[e]at b;simp only[Ce]at b;exact d (tY s.sim (k x) b)
 |field p x f=>rw[e]at b;simp only[Ce]at b;exact d (ABH (k x) b)
 |indexAddr t x i=>rw[e]at b;simp only[Ce]at b;exact d (tf s.sim (k x) (k i) b)
 |index t x i=>rw[e]at b;simp only[Ce]at b;exact d (ABM (k x) (k i) b)
 |slice t x lo hi T=>
  rw[e]at b;simp only[Ce]at b;have G: ∀(y:Option Operand) (v:Aa),y.map (BM env)=some v-> ∃c,y.map a.eval=some c/\Bx (cx X h H w) v c:=by
   intro y v Q;cases y with
   |none=>cases Q
   |some y=>simp only[Bs,Ao]at Q;subst Q;exact⟨_,rfl,k y⟩
  have C: ∀(y:Option Operand),y.map (BM env)=none->y.map a.eval=none:=by
   intro y Q;cases y with
   |none=>rfl
   |some y=>cases Q
  exact d (ABr s.sim (k x) (G lo) (C lo) (G hi) (C hi) (G T) (C T) b)
 |extract x i=>
  rw[e]at b;simp only[Ce]at b;have z:=k x;split at b;rename_i vs E;rw[E]at z;generalize u:a.eval x=c at z;cases z with
  | @tup vs R hs Z=>
   have ao:i<vs.length:=by rcases Ay i vs.length with r|r;exact r;rw[Cm r]at b;cases b
   have S:R[i]? =some (R[i]' o!):=Nf o!;refine d ⟨_,?_,Z i v _ b S⟩;simp only[Instr.extract,u,S];rfl
  cases b
 |makeFunc f p q=>
  rw[e]at b;simp only[Ce,Ao]at b;subst b;have L: ∀(p:Array Operand) (j:Nat) (v:Aa) (c:Value),(p.toList.map (BM env))[j]? =some v->(p.map a.eval)[j]? =some c->Bx (cx X h H w) v c:=by
   intro p j v c J u;rw[CN,PV]at J;rw[bE]at u;cases O:p[j]? with
   |none=>rw[O]at J;cases J
   |some y=>rw[O]at J u;simp only[Bs,Ao]at J u;subst J u;exact k y
  exact d ⟨_,rfl,.fn k! k! (L p) (L q)⟩
 |build t I=>
  rw[e]at b;simp only[Ce]at b;refine d (AA4 ?_ ?_ b);simp;intro j q q' K F;rw[CN,PV]at K;rw[PV,bE]at F;cases O:I[j]? with
  |none=>rw[O]at K;cases K
  |some y=>rw[O]at K F;simp only[Bs,Ao]at K F;subst K F;exact k y.2
 |call c=>
  rw[e]at b;simp only[Ce]at b;split at b<;>rename_i l<;>first
   |(cases b;done)
   |(cases l;done)
   |skip
  injection l with l;subst l;simp only[resolve,invoke,builtin,Sem.run_bind,Sem.run_pure,Result.andThen_ok,QE,Bl,HH];obtain⟨D,n,r⟩:=AE1 (ty:=o.type) s.sim (k _) b;exact⟨D,by rw[n];rfl,r⟩;injection l with l;subst l;simp only[resolve,invoke,builtin,Sem.run_bind,Sem.run_pure,Result.andThen_ok,QE,Bl,HH];obtain⟨D,n,r⟩:=ADH (P:=P) (w:=w) (mx:=true) (ts:=_) (ty:=o.type) (k _) (k _) b;exact⟨D,by simp only[if_true]at n;rw[n];rfl,r⟩;injection l with l;subst l;simp only[resolve,invoke,builtin,Sem.run_bind,Sem.run_pure,Result.andThen_ok,QE,Bl,HH];obtain⟨D,n,r⟩:=ADH (P:=P) (w:=w) (mx:=false) (ts:=_) (ty:=o.type) (k _) (k _) b;exact⟨D,by simp only[PW,if_false]at n;rw[n];rfl,r⟩;injection l with l;subst l;simp only[resolve,invoke,builtin,Sem.run_bind,Sem.run_pure,Result.andThen_ok,QE,Bl,HH];obtain⟨D,n,r⟩:=AE6 (P:=P) (w:=w) (ts:=_) (ty:=o.type) (k _) (k _) (k _) b;exact⟨D,by rw[n];rfl,r⟩
 |_=>rw[e]at b;simp[Ce]at b
def Dq{P:Program}{N:Nat}{H:A1}{v:Aa}(b:Ce P g H o.op=some v)(e:K v H):JJ P N o g H K:=by apply C1 (by cases f:o.op<;>first|rfl|(rw[f]at b;simp[Ce]at b));intro X h a w s Q;obtain⟨c,d,hr⟩:=ABg s b;unfold Oper.wp;rw[d,Oper.upon_value];exact⟨c,v,h,H,rfl,e,hr,s.sim,HE.refl _ _ _⟩
section
variable {X:Nat->Prop} {h:Gh} {H:A1} {w:World}
def Gh.at_(h:Gh)(id:Nat)(io:Option Nat)(gen cap:Nat):Gh:=
 ⟨λi=>if i=id then io else h.io i,λi=>if i=id then gen else h.gen i,λi=>if i=id then cap else h.cap i⟩
def Holds(x:Cx)(cs:List Aa)(arr:Array Value)(fz:Nat×Nat):Prop:=
 ∃f:Nat->Value,cs.length<=arr.size/\(∀i,i<arr.size->(decide (fz.1<=i)&&decide (i<fz.2))=false)/\
  ∀(j:Nat) (v:Aa),cs[j]? =some v->arr[j]? =some (f j)/\(f j).oneCell'=true/\Bx x v (f j)
def Pt(r:Bx f (.agg d) (.agg i)):Holds f d i (0,0):=by
 cases r with
 |agg l h k=>
  refine⟨λj=>i.getD j undef,o!,λc _=>k!,λj v x=>?_⟩;have b:j<i.size:=by rcases Ay j d.length with g|g;omega;rw[Cm g]at x;cases x
  have a:i[j]? =some (i[j]):=Nf b;have e:i.getD j undef=i[j]:=by simp[b]
  show i[j]? =some (i.getD j undef)/\(i.getD j undef).oneCell'=true/\Bx f v (i.getD j undef);rw[e];exact⟨a,h j _ a,k j v _ x a⟩
def It.of_ext'(s:It X h H w)(V:HE h H w O R A)
  (key: ∀(id:Nat) (e:Fl),R[id]? =some e->e≠ .dead->(H[id]? =some e/\O.gen id=h.gen id/\O.io id=h.io id/\O.cap id=h.cap id/\ ∀B,h.io id=some B->A.heap[B]? =w.heap[B]?)\/((∃g K,e= .live g K/\zp (cx X O R A) id g K)\/(∃L,e= .lp L/\vE (cx X O R A) id L)\/(e.isB=true/\BAt O A id e)))
  (inj: ∀(id x:Nat) (e W:Fl) (B:Nat),R[id]? =some e->R[x]? =some W->e≠ .dead->W≠ .dead->O.io id=some B->O.io x=some B->id=x):It X O R A:=by
 have hl:=V.later X;refine⟨λB l=>⟨DQ (s.out B l).1 V.size,λN=>?_⟩,λid g K I=>?_,λid L I=>?_,inj,λid e I l=>?_⟩;rcases V.fresh B N with N|N;exact(s.out B l).2 N;have:=(s.out B l).1;omega;rcases key id _ I k! with⟨c,y,q,M,z⟩|⟨Y,D,e,hn⟩|⟨L,e,_⟩|⟨e,_⟩;obtain⟨T,J⟩:=s.live id g K c;refine⟨y.trans T,?_⟩;rcases J with⟨hn,rfl⟩|⟨B,C,T',P,f,d,i,G,U,S,o⟩;exact .inl ⟨q.trans hn,rfl⟩;refine .inr ⟨B,C,T',P,f,q.trans d,(z B d).trans i,G.trans M.symm,U,S,λj v hj=>?_⟩;obtain⟨p1,p2,p3⟩:=o j v hj;exact⟨p1,p2,p3.later hl⟩;injection e with a b;subst a b;exact hn;cases e;cases e;rcases key id _ I k! with⟨c,y,q,M,z⟩|⟨Y,D,e,hn⟩|⟨L',e,hn⟩|⟨e,_⟩;obtain⟨T,B,r,d,i,u,E,F,Q,h5,h6,Z⟩:=s.lp id L c;exact⟨y.trans T,B,r,q.trans d,(z B d).trans i,u,E,F,Q,h5,h6,λt v m=>⟨(Z t v m).1,(Z t v m).2.later hl⟩⟩;cases e;injection e with a;subst a;exact hn;cases e;rcases key id _ I (by rintro rfl;cases l)with⟨c,y,q,M,z⟩|⟨Y,D,e,hn⟩|⟨L',e,hn⟩|⟨_,hn⟩;cases e with
 |mp k es=>obtain⟨B,p,u,E,F,Q⟩:=s.bld id _ c l;exact⟨B,p,q.trans u,y.trans E,(z B u).trans F,Q⟩
 |it n seen=>obtain⟨B,u,E,F⟩:=s.bld id _ c l;exact⟨B,q.trans u,y.trans E,by rw[M];exact(z B u).trans F⟩
 |_=>cases l
 subst e;cases l;subst e;cases l;exact hn
def It.of_ext(s:It X h H w)(m:HE h H w O R A)
  (key: ∀(id:Nat) (e:Fl),R[id]? =some e->e≠ .dead->(H[id]? =some e/\O.gen id=h.gen id/\O.io id=h.io id/\O.cap id=h.cap id/\ ∀B,h.io id=some B->A.heap[B]? =w.heap[B]?)\/((∃g j,e= .live g j/\zp (cx X O R A) id g j)\/ ∃L,e= .lp L/\vE (cx X O R A) id L))
  (inj: ∀(id c:Nat) (e k:Fl) (B:Nat),R[id]? =some e->R[c]? =some k->e≠ .dead->k≠ .dead->O.io id=some B->O.io c=some B->id=c):It X O R A:=
 s.of_ext' m (λi e l f=>(key i e l f).imp id λh=>h.imp id .inl) inj
def Ir{e:Fl}(a:(H++[m])[N]? =some e):(N<H.length/\H[N]? =some e)\/(N=H.length/\e=m):=by rcases QH N H.length with b|rfl|c;rw[CT b]at a;exact .inl ⟨b,a⟩;rw[Cj (Ap _),Gl]at a;simp at a;exact .inr ⟨rfl,a.symm⟩;rw[Cm w!]at a;cases a
def JI{e:Fl}(c:N<H.length)(a:(H.set N m)[t]? =some e):(t≠N/\H[t]? =some e)\/(t=N/\e=m):=by by_cases b:t=N;subst b;rw[Gt c]at a;simp at a;exact .inr ⟨rfl,a.symm⟩;rw[DU (λe=>b e.symm)]at a;exact .inl ⟨b,a⟩
def HE.push(o:Obj)(cap:Nat)(E:Fl):
  HE h H w (h.at_ H.length (some w.heap.size) 0 cap) (H++[E]) {w with heap:=w.heap.push o}where
 os:=rfl
 tape:=rfl
 output:=rfl
 size:=k!
 keep B hB _:=by simp[TF,Bi hB]
 n:=k!
 gen id hid:=by simp[Gh.at_,Bi hid]
 same id hid _:=by simp[Gh.at_,Bi hid]
 fresh B ho:=by obtain⟨id,e,b,d,a⟩:=ho;rcases Ir b with⟨c,b⟩|⟨rfl,rfl⟩;exact .inl ⟨id,e,b,d,by simpa[Gh.at_,Bi c]using a⟩;simp[Gh.at_]at a;exact .inr o!
 loops B r hB:=⟨r,by have:=PD hB;simp[TF,Bi this,hB]⟩
def It.push_any(s:It X h H w)(o:Obj)(cap:Nat)(E:Fl)
  (t:E≠ .dead->((∃g l,E= .live g l/\zp (cx X (h.at_ H.length (some w.heap.size) 0 cap) (H++[E]) {w with heap:=w.heap.push o}) H.length g l)\/∃L,E= .lp L/\vE (cx X (h.at_ H.length (some w.heap.size) 0 cap) (H++[E]) {w with heap:=w.heap.push o}) H.length L)):
  It X (h.at_ H.length (some w.heap.size) 0 cap) (H++[E]) {w with heap:=w.heap.push o}:=by
 refine s.of_ext (HE.push o cap E) (λid e f d=>?_) λid u e v B p q b c i j=>?_;rcases Ir f with⟨a,f⟩|⟨rfl,rfl⟩;refine .inl ⟨f,by simp[Gh.at_,Bi a],by simp[Gh.at_,Bi a],by simp[Gh.at_,Bi a],λB k=>?_⟩;have:=s.io_at f d k;simp[TF,Bi this];exact .inr (t d);rcases Ir p with⟨l1,m⟩|⟨rfl,_⟩<;>rcases Ir q with⟨l2,n⟩|⟨rfl,_⟩;exact s.inj _ _ _ _ B m n b c (by simpa[Gh.at_,Bi l1]using i) (by simpa[Gh.at_,Bi l2]using j);have r:=s.io_at m b (by simpa[Gh.at_,Bi l1]using i);simp[Gh.at_]at j;omega;have r:=s.io_at n c (by simpa[Gh.at_,Bi l2]using j);simp[Gh.at_]at i;omega;rfl
def It.push(s:It X h H w)(a:Array Value)(T:TypeId)(c:Nat×Nat)(g:List Aa)(i:Holds (cx X h H w) g a c):
  It X (h.at_ H.length (some w.heap.size) 0 a.size) (H++[.live 0 g]) {w with heap:=w.heap.push (.cells a T c)}:=by
 refine s.push_any _ _ _ λ_=>.inl ⟨0,g,rfl,?_⟩;obtain⟨f,e,d,b⟩:=i;refine⟨by simp[cx,Gh.at_],.inr ⟨w.heap.size,a,T,c,f,by simp[cx,Gh.at_],by show(w.heap.push (.cells a T c))[w.heap.size]? =_;simp,by simp[cx,Gh.at_],e,d,λj v k=>?_⟩⟩;obtain⟨l,m,n⟩:=b j v k;exact⟨l,m,n.later ((HE.push _ _ _).later X)⟩
def It.upd(s:It X h H w){id g g' B:Nat}{K cs':List Aa}{arr:Array Value}{T:TypeId}{fz:Nat×Nat}{w':World}(y:H[id]? =some (Fl.live g K))(hg:g≤g')
  (z:g'=g->h.io id=some B/\h.cap id=arr.size) (a:h.io id=some B\/w.heap.size<=B) (hb:w'.heap[B]? =some (.cells arr T fz)) (N: ∀k,k<w.heap.size->k≠B->w'.heap[k]? =w.heap[k]?)
  (R:w'.os=w.os) (C:w'.tape=w.tape) (G:w'.output=w.output) (A:w.heap.size<=w'.heap.size) (hh:Holds (cx X h H w) cs' arr fz):
  It X (h.at_ id (some B) g' arr.size) (H.set id (.live g' cs')) w'/\HE h H w (h.at_ id (some B) g' arr.size) (H.set id (.live g' cs')) w':=by
 have q:id<H.length:=by rcases Ay id H.length with o|o;exact o;rw[Cm o]at y;cases y
 have u:h.gen id=g:=(s.live id g K y).1;have S:HE h H w (h.at_ id (some B) g' arr.size) (H.set id (.live g' cs')) w':=by refine⟨R,C,G,A,λk O hn=>?_,k!,λi n=>?_,λi n e=>?_,λk ho=>?_,λk r hr=>⟨r,?_⟩⟩;refine N k O λe=>?_;subst e;rcases a with a|a;exact hn ⟨id,_,y,k!,a⟩;omega;by_cases e:i=id;subst e;simp[Gh.at_,u,hg];simp[Gh.at_,e];by_cases Z:i=id;subst Z;simp only[Gh.at_,if_true]at e⊢;have:=z (e.trans u);exact⟨this.1.symm,this.2.symm⟩;simp[Gh.at_,Z];obtain⟨i,d,t,b,o⟩:=ho;rcases JI q t with⟨n,l⟩|⟨rfl,_⟩;exact .inl ⟨i,d,l,b,by simpa[Gh.at_,n]using o⟩;simp[Gh.at_]at o;subst o;rcases a with a|a;exact .inl ⟨i,_,y,k!,a⟩;exact .inr a;have Q:=PD hr;refine(N k Q λe=>?_).trans hr;subst e;rcases a with a|a;rcases(s.live id g K y).2 with⟨hn,_⟩|⟨W,Y,T',ad,f',x,D,_⟩;rw[show(cx X h H w).io id=h.io id from rfl,a]at hn;cases hn;rw[show(cx X h H w).io id=h.io id from rfl,a]at x;injection x with e;subst e;rw[show(cx X h H w).w.heap=w.heap from rfl,hr]at D;cases D;omega
 have hl:=S.later X;have c: ∀{i:Nat} {d:Fl},i≠id->H[i]? =some d->d≠ .dead->h.io i=some B->False:=by intro i d n t b m;rcases a with a|a;exact n (s.inj i id d _ B t y b k! m a);have:=s.io_at t b m;omega
 refine⟨s.of_ext S (λi d t b=>?_) (λi i' d L k t o E F I J=>?_),S⟩;rcases JI q t with⟨n,l⟩|⟨rfl,rfl⟩;refine .inl ⟨l,by simp[Gh.at_,n],by simp[Gh.at_,n],by simp[Gh.at_,n],λW m=>N W (s.io_at l b m) λe=>?_⟩;subst e;exact c n l b m;obtain⟨f,P,M,p⟩:=hh;refine .inr (.inl ⟨g',cs',rfl,by simp[cx,Gh.at_],.inr ⟨B,arr,T,fz,f,by simp[cx,Gh.at_],hb,by simp[cx,Gh.at_],P,M,λj v hj=>?_⟩⟩);obtain⟨p1,p2,p3⟩:=p j v hj;exact⟨p1,p2,p3.later hl⟩;rcases JI q t with⟨U,d⟩|⟨rfl,_⟩<;>rcases JI q o with⟨V,L⟩|⟨rfl,_⟩;exact s.inj _ _ _ _ k d L E F (by simpa[Gh.at_,U]using I) (by simpa[Gh.at_,V]using J);simp[Gh.at_]at J;subst J;exact(c U d E (by simpa[Gh.at_,U]using I)).elim;simp[Gh.at_]at I;subst I;exact(c V L F (by simpa[Gh.at_,V]using J)).elim;rfl
end
def ABJ(h:w.heap[N]? =some (.cells i a y))(B:Nat):w.frozen? ⟨N,B,none⟩=(decide (y.1<=B)&&decide (B<y.2)):=by unfold World.frozen?;rw[h]
def Up{P:Program}{B off:Nat}{T:TypeId}{h:Nat×Nat}: ∀(g:List Value) (i:Nat) (a:Array Value) (w:World),w.heap[B]? =some (.cells a T h)→off+i+g.length≤a.size→
  (∀j,j<a.size->(decide (h.1<=j)&&decide (j<h.2))=false)->(∀v∈g,v.oneCell'=true)->
  ∃d b,(storeCells ⟨B,off,none⟩ g i).run P w= .ok () d/\d.heap[B]? =some (.cells b T h)/\b.size=a.size/\(∀j,b[j]? =if off+i<=j/\j<off+i+g.length then g[j-(off+i)]? else a[j]?)/\(∀k,k≠B->d.heap[k]? =w.heap[k]?)/\d.os=w.os/\d.tape=w.tape/\d.output=w.output/\d.heap.size=w.heap.size
 |[],i,a,w,hb,_,_,_=>⟨w,a,rfl,hb,rfl,λj=>by rw[if_neg k!],λ_ _=>rfl,rfl,rfl,rfl,rfl⟩
 |v::g,i,a,w,hb,hle,hfz,h1=>by
  simp only[Bn]at hle;have o:w.cell? ⟨B,off+i,none⟩=some (a[off+i]' o!):=by rw[PZ (w:=w) hb];exact Nf o!
  have p:w.frozen? ⟨B,off+i,none⟩=false:=by rw[ABJ hb];exact hfz _ o!
  have c:(store ⟨B,off+i,none⟩ v).run P w= .ok () (w.setCell ⟨B,off+i,none⟩ v):=by rw[run_store P w _ v .plain (h1 v k!),o];simp[p]
  have l:(w.setCell ⟨B,off+i,none⟩ v).heap[B]? =some (.cells (a.setIfInBounds (off+i) v) T h):=by simp[World.setCell,ay,hb]
  obtain⟨d,b,r,s,t,x,y,z,A,C,D⟩:=Up (P:=P) (off:=off) g (i+1) (a.setIfInBounds (off+i) v) (w.setCell ⟨B,off+i,none⟩ v) l w!
   (by simpa using hfz) (λu q=>h1 u (CW _ q))
  refine⟨d,b,?_,s,by rw[t];simp,λj=>?_,λk n=>?_,z,A,C,by rw[D];simp[World.setCell]⟩;simp only[storeCells,OW,Sem.run_bind,c,Result.andThen_ok];exact r;rw[x];by_cases m:j=off+i;subst m;rw[if_neg o!,if_pos k!,Array.getElem?_setIfInBounds_self_of_lt o!];simp;by_cases f:off+(i+1)<=j/\j<off+(i+1)+g.length;rw[if_pos f,if_pos w!,show j-(off+i)=(j-(off+(i+1)))+1 from by omega];rfl;rw[if_neg f,if_neg w!,tq (λe=>m e.symm)];rw[y k n];simp[World.setCell,ay,Oa n]
section
variable {P:Program} {N:Nat} {o:Oper} {env:Env} {H:A1} {K:Aa->A1->Prop}
def JJ.alloc(z:o.op= .alloc a)(g:Yd P a=some d)(f:K (.ptr H.length 0 0) (H++[.live 0 d])):JJ P N o env H K:=by
 apply C1 (by rw[z];rfl);intro X h t w s Q;obtain⟨i,v,e,c,j⟩:=dR (cx X h H w) g;have b:(execOp t.eval o).run P w= .ok (.value (.pointer (some ⟨w.heap.size,0,none⟩))) {w with heap:=w.heap.push (.cells v.cells a)}:=by unfold execOp;rw[z];simp[Instr.alloc,zeroValue,typeInfo,e,c,newVar,newRow]
 unfold Oper.wp;rw[b,Oper.upon_value];refine⟨_,_,_,_,rfl,f,?_,s.sim.push v.cells a (0,0) d (Pt j),HE.push _ _ _⟩;exact .ptr (by simp[cx]) (by simp[cx,Gh.at_]) rfl λ_=>⟨w.heap.size,by simp[cx,Gh.at_],rfl⟩
def JJ.box(c:o.op= .box a k)(g:BM env k=e)(f:e.solid=true)(t:K (.ptr H.length 0 0) (H++[.live 0 e.cells])):JJ P N o env H K:=by
 apply C1 (by rw[c];rfl);intro X h x w s Q;have d:=Dj s.env k;rw[g]at d;have i:=WE d f;have b:(execOp x.eval o).run P w= .ok (.value (.pointer (some ⟨w.heap.size,0,none⟩))) {w with heap:=w.heap.push (.cells (x.eval k).cells a)}:=by unfold execOp;rw[c];simp[Instr.box,newVar,newRow]
 unfold Oper.wp;rw[b,Oper.upon_value];refine⟨_,_,_,_,rfl,t,?_,s.sim.push _ a (0,0) e.cells (Pt i),HE.push _ _ _⟩;exact .ptr (by simp[cx]) (by simp[cx,Gh.at_]) rfl λ_=>⟨w.heap.size,by simp[cx,Gh.at_],rfl⟩
def JJ.store{id g off:Nat}{v:Aa}{cs:List Aa}{b:Bool}(ho:o.op= .store a k L)(hx:BM env k= .ptr id g off)(hy:BM env L=v)(hs:v.solid=true)
  (he:H[id]? =some (Fl.live g cs)) (ht:tI P a=some (b,v.cells.length)) (J:off+v.cells.length<=cs.length) (V:K .any (H.set id (.live g (WD cs off v.cells)))):JJ P N o env H K:=by
 apply C1 (by rw[ho];rfl);intro X h x w s Q;have Z:=Dj s.env k;rw[hx]at Z;have Y:=Dj s.env L;rw[hy]at Y;have rz:=WE Y hs;obtain⟨I,F⟩:=s.sim.live id g cs he;obtain⟨B,i,S⟩: ∃B,h.io id=some B/\x.eval k= .pointer (some ⟨B,off,none⟩):=by
  generalize x.eval k=c at Z;cases Z with
  |ptr al O h1 hc=>obtain⟨B,i,rfl⟩:=hc I;exact⟨B,i,rfl⟩
 rcases F with⟨hn,_⟩|⟨B',D,T,R,f,z,hb,E,ad,G,m⟩;rw[show(cx X h H w).io id=h.io id from rfl,i]at hn;cases hn;rw[show(cx X h H w).io id=h.io id from rfl,i]at z;injection z with e;subst e;generalize U:x.eval L=c at Y rz;obtain⟨M,A,W⟩:c.cells.size=v.cells.length/\(∀(j:Nat) (d:Value),c.cells[j]? =some d->d.oneCell'=true)/\(∀(j:Nat) (u:Aa) (d:Value),v.cells[j]? =some u->c.cells[j]? =some d->Bx (cx X h H w) u d):=by cases rz with|agg p q r=>exact⟨p,q,r⟩
 obtain⟨w',n,p1,p2,p3,p4,p5,p6,p7,p8,p9⟩:=Up (P:=P) (off:=off) c.cells.toList 0 D w hb w! G (λd hd=>by obtain⟨j,C⟩:=Dn hd;exact A j d (by simpa using C));have y:(execOp x.eval o).run P w= .ok .skip w':=by unfold execOp;rw[ho];simp only[S,U,Instr.storeAt,Instr.sureAddr,Sem.run_bind,Sem.run_pure,Result.andThen_ok,storeVar,K3 ht];rw[if_neg (by simp[M])];simp only[Result.andThen_ok,p1]
 have hh:Holds (cx X h H w) (WD cs off v.cells) n R:=by
  refine⟨λj=>if off<=j/\j<off+v.cells.length then c.cells.getD (j-off) undef else f j,by rw[jW J];omega,by rw[p3];exact G,λj u C=>?_⟩;rw[tE J]at C;rw[p4];simp only[Su,Du,M,PV];split at C;rename_i l;rw[if_pos l,if_pos l];have hl:j-off<c.cells.size:=o!
  have O:c.cells[j-off]? =some (c.cells[j-off]):=Nf hl;have e:c.cells.getD (j-off) undef=c.cells[j-off]:=by simp[hl]
  rw[e];exact⟨O,A _ _ O,W _ u _ C O⟩;rename_i l;rw[if_neg l,if_neg l];exact m j u C
 obtain⟨q1,q2⟩:=s.sim.upd (g':=g) (B:=B) (arr:=n) (T:=T) (fz:=R) (w':=w') he (Ap _) (λ_=>⟨i,by rw[p3];exact E.symm⟩) (.inl i) p2 (λt _ V=>p5 t V) p6 p7 p8 (by rw[p9];exact Ap _) hh;unfold Oper.wp;rw[y,Oper.upon_skip];exact⟨_,_,_,_,rfl,V,.any _,q1,q2⟩
end
section
variable {X:Nat->Prop} {h:Gh} {H:A1} {w w':World}
def HE.grow(b:w'.os=w.os)(f:w'.tape=w.tape)(d:w'.output=w.output)(e:w.heap.size<=w'.heap.size)(c: ∀k,k<w.heap.size->w'.heap[k]? =w.heap[k]?):HE h H w h H w':=⟨b,f,d,e,λB a _=>c B a,Ap _,λ_ _=>Ap _,λ_ _ _=>⟨rfl,rfl⟩,λ_ h=>.inl h,λB r a=>⟨r,(c B (PD a)).trans a⟩⟩
def It.grow(s:It X h H w)(c:w'.os=w.os)(i:w'.tape=w.tape)(f:w'.output=w.output)(g:w.heap.size<=w'.heap.size)(e: ∀k,k<w.heap.size->w'.heap[k]? =w.heap[k]?):It X h H w':=s.of_ext (HE.grow c i f g e) (λ_ _ d b=>.inl ⟨d,rfl,rfl,rfl,λB a=>e B (s.io_at d b a)⟩) s.inj
def HE.virt:HE h H w (h.at_ H.length none 0 0) (H++[.live 0 []]) w where
 os:=rfl
 tape:=rfl
 output:=rfl
 size:=Ap _
 keep B _ _:=rfl
 n:=k!
 gen id hid:=by simp[Gh.at_,Bi hid]
 same id hid _:=by simp[Gh.at_,Bi hid]
 fresh B ho:=by obtain⟨id,e,b,d,a⟩:=ho;rcases Ir b with⟨c,b⟩|⟨rfl,rfl⟩;exact .inl ⟨id,e,b,d,by simpa[Gh.at_,Bi c]using a⟩;simp[Gh.at_]at a
 loops B r hB:=⟨r,hB⟩
theorem It.virt(s:It X h H w):It X (h.at_ H.length none 0 0) (H++[.live 0 []]) w:=by refine s.of_ext HE.virt (λid e f m=>?_) λid n e o B j k a b c d=>?_;rcases Ir f with⟨l,f⟩|⟨rfl,rfl⟩;grind[Gh.at_];exact .inr (.inl ⟨0,[],rfl,by simp[cx,Gh.at_],.inl ⟨by simp[cx,Gh.at_],rfl⟩⟩);rcases Ir j with⟨l1,g⟩|⟨rfl,_⟩<;>rcases Ir k with⟨l2,i⟩|⟨rfl,_⟩;exact s.inj _ _ _ _ B g i a b (by simpa[Gh.at_,Bi l1]using c) (by simpa[Gh.at_,Bi l2]using d);simp[Gh.at_]at d;simp[Gh.at_]at c;rfl
def It.bump(s:It X h H w){id g:Nat}{cs:List Aa}(n:H[id]? =some (Fl.live g cs))(hn:h.io id=none):
  It X (h.at_ id none (g+1) (h.cap id)) (H.set id (.live (g+1) [])) w/\HE h H w (h.at_ id none (g+1) (h.cap id)) (H.set id (.live (g+1) [])) w:=by
 have a:id<H.length:=by rcases Ay id H.length with b|b;exact b;rw[Cm b]at n;cases n
 have c:h.gen id=g:=(s.live id g cs n).1;have own: ∀B,owned (h.at_ id none (g+1) (h.cap id)) (H.set id (.live (g+1) [])) B->owned h H B:=by rintro B ⟨i,e,j,l,b⟩;rcases JI a j with⟨f,d⟩|⟨rfl,_⟩;exact⟨i,e,d,l,by simpa[Gh.at_,f]using b⟩;simp[Gh.at_]at b
 have u:HE h H w (h.at_ id none (g+1) (h.cap id)) (H.set id (.live (g+1) [])) w:=by refine⟨rfl,rfl,rfl,Ap _,λk A hn=>rfl,k!,λi f=>?_,λi f e=>?_,λB C=>.inl (own B C),λB r y=>⟨r,y⟩⟩;by_cases e:i=id;subst e;simp[Gh.at_,c];simp[Gh.at_,e];by_cases m:i=id;subst m;simp[Gh.at_,c]at e;simp[Gh.at_,m]
 refine⟨s.of_ext u (λi e j l=>?_) (λi F e m k j b o p q t=>?_),u⟩;rcases JI a j with⟨f,d⟩|⟨rfl,rfl⟩;exact .inl ⟨d,by simp[Gh.at_,f],by simp[Gh.at_,f],by simp[Gh.at_,f],λB z=>rfl⟩;exact .inr (.inl ⟨g+1,[],rfl,by simp[cx,Gh.at_],.inl ⟨by simp[cx,Gh.at_],rfl⟩⟩);rcases JI a j with⟨D,v⟩|⟨rfl,_⟩<;>rcases JI a b with⟨E,x⟩|⟨rfl,_⟩;exact s.inj _ _ _ _ k v x o p (by simpa[Gh.at_,D]using q) (by simpa[Gh.at_,E]using t);simp[Gh.at_]at t;simp[Gh.at_]at q;rfl
end
def Jr(H:A1)(sz:Nat):Aa->Option (Nat×List Aa)
 | .vs sz' rows=>if sz=sz' then some (rows.length,rows.flatMap Aa.cells)else none
 | .sl id g sz' off len=>
  match H[id]? with
  |some (.live g' cs)=>if g=g'/\sz=sz'/\off+len*sz<=cs.length then some (len,(cs.drop off).take (len*sz))else none
  |_=>none
 | .nils=>some (0,[])
 |_=>none
theorem ON{P:Program}{X:Nat→Prop}{h:Gh}{H:A1}{w:World}{v:Aa}{c:Value}{sz m:Nat}{J:List Aa}(s:It X h H w)(r:Bx (cx X h H w) v c)(N:0<sz)(hr:Jr H sz v=some (m,J)):
  ∃a cap S,c= .slice a m cap/\J.length=m*sz/\lG (cx X h H w) J S/\(∀u∈S,u.oneCell'=true)/\(Builtin.lenOf c).run P w= .ok m w/\(Builtin.firstCells sz m c).run P w= .ok S.toArray w:=by
 cases r with
 |nils=>simp only[Jr,Ao,EX]at hr;obtain⟨rfl,rfl⟩:=hr;exact⟨none,0,[],rfl,k!,⟨rfl,λ_ _ _ h=>by cases h⟩,(λ_ h=>by cases h),rfl,rfl⟩
 | @vs R b a cap f y Z D ha hv=>
  simp only[Jr]at hr;split at hr;rename_i F;subst F;simp only[Ao,EX]at hr;obtain⟨rfl,rfl⟩:=hr;have q:=pH D;cases b with
  |nil=>refine⟨a,cap,[],rfl,k!,⟨rfl,λ_ _ _ h=>by cases h⟩,(λ_ h=>by cases h),rfl,?_⟩;cases a<;>simp[Builtin.firstCells,loadCells,loadCellsFrom]
  |cons e0 E=>
   obtain⟨B,k,rfl,hO,hB,L⟩:=ha k!;generalize e0::E=b at*;have K: ∀j,j<b.length*sz-> ∃e v,b[j/sz]? =some e/\e.cells[j%sz]? =some v:=by intro j o;have F:j/sz<b.length:=(Nat.div_lt_iff_lt_mul N).2 o;have I:b[j/sz]? =some (b[j/sz]):=Av F;grind[Nat.mod_lt,List.getElem?_eq_getElem]
   refine⟨_,cap,(List.range (b.length*sz)).map λj=>f (j/sz) (j%sz),rfl,q,⟨by simp[q],λj v d o G=>?_⟩,λu O=>?_,rfl,?_⟩;grind[flat_get,Nat.lt_or_ge,List.getElem?_eq_none,List.getElem?_range,Option.some.injEq];grind;have:=run_loadCells (P:=P) w ⟨B,k,none⟩ (b.length*sz) (λj=>f (j/sz) (j%sz)) λj o=>by obtain⟨e,v,I,Q⟩:=K j o;rw[OW];have V:=(L _ e _ v I Q).1;rw[Nat.div_add_mod' j sz]at V;exact V
   grind[Builtin.firstCells]
  cases hr
 | @sl id g R k len c ao hg F L=>
  simp only[Jr]at hr;split at hr;rename_i g' l I;split at hr;rename_i x;obtain⟨rfl,rfl,ap⟩:=x;simp only[Ao,EX]at hr;obtain⟨rfl,rfl⟩:=hr;obtain⟨A,z⟩:=s.live id g l I;rcases L A with⟨n,rfl,rfl,rfl⟩|⟨B,cap,n,y,M,rfl⟩;exact⟨none,0,[],rfl,k!,⟨k!,λ_ _ _ _ h=>by cases h⟩,(λ_ h=>by cases h),rfl,rfl⟩;rcases z with⟨hn,_⟩|⟨U,ad,T,fz,f,p,hb,W,Y,al,i⟩;rw[hn]at n;cases n;have:U=B:=by rw[n]at p;injection p with e;exact e.symm
  subst this;refine⟨_,cap,(List.range (len*sz)).map λj=>f (k+j),rfl,w!,⟨w!,λj v d o G=>?_⟩,λu O=>?_,rfl,?_⟩;have C:j<len*sz:=by grind[Nat.lt_or_ge,List.getElem?_eq_none]
  rw[bD,if_pos C,KX]at o;rw[CN,Qv C]at G;simp only[Bs,Ao]at G;subst G;exact(i _ v o).2.2;simp only[Br,Hk]at O;obtain⟨j,o,rfl⟩:=O;have t:l[k+j]? =some (l[k+j]' o!):=Av o!;exact(i _ _ t).2.1;have:=run_loadCells (P:=P) w ⟨U,k,none⟩ (len*sz) (λj=>f (k+j)) λj o=>by have t:l[k+j]? =some (l[k+j]' o!):=Av o!;rw[OW,PZ (w:=w) hb];exact(i _ _ t).1
  simpa[Builtin.firstCells]using this;cases hr;cases hr
 |_=>simp only[Jr]at hr;cases hr
theorem zH(a b:Nat)(h:b<a):Builtin.nextslicecap a b<=2*a+2048:=by grind[Builtin.nextslicecap,Builtin.growBy]
def Ro(P:Program)(e:TypeId):Bool:=
 match P.info? e with
 |some i=>decide (i.bytes<=1048576)&&(match i.zero with|some z=>decide (z.cells.size=i.size)|none=>false)
 |none=>false
section
variable {P:Program} {N:Nat} {o:Oper} {env:Env} {H:A1} {K:Aa->A1->Prop}
theorem Tx(h:Ro P a=true): ∃i z,P.info? a=some i/\i.bytes<=1048576/\i.zero=some z/\z.cells.size=i.size:=by grind[Ro]
theorem kK(h:tI P a=some (s,N))(t:P.info? a=some q):q.size=N:=by unfold tI at h;grind
theorem JJ.buildSlice{t e:TypeId}{len sz:Nat}{f:Array (Nat×Operand)}{W:List Aa}(ho:o.op= .buildSlice t len f)(he:eI P t=some (none,e,sz))(a0:0<sz)(a5:Ro P e=true)
  (C:f.toList.map (·.1)=List.range len) (a7:f.toList.map (λp=>BM env p.2)=W) (O: ∀v∈W,v.solid=true/\v.cells.length=sz) (L:len<=4096/\sz<=4096) (hk:K (.vs sz W) H):JJ P N o env H K:=by
 apply C1 (by rw[ho];rfl);intro X h a w s Q;obtain⟨a1,b,hi⟩:=QN he;obtain⟨i,z,D,_,hz,a8⟩:=Tx a5;have A:=kK hi D;have V:W.length=len:=by have n:=congrArg List.length C;grind[List.length]
 let g:List Value:=f.toList.map λp=>a.eval p.2;have U:g.length=len:=by grind[List.length]
 have M: ∀(j:Nat) (v:Aa) (c:Value),W[j]? =some v->g[j]? =some c->Bx (cx X h H w) (.agg v.cells) (.agg c.cells)/\v.cells.length=sz:=by
  intro j v c G Y;have hm:=O v (BN G);refine⟨?_,hm.2⟩;subst a7;simp only[g,CN]at G Y;cases Z:f.toList[j]? with
  |none=>rw[Z]at G;cases G
  |some p=>rw[Z]at G Y;simp only[Bs,Ao]at G Y;subst G Y;exact WE (Dj s.env p.2) hm.1
 have y: ∀c∈g,c.cells.size=sz:=by
  intro c Y;obtain⟨j,B⟩:=Dn Y;have E:j<W.length:=by grind[Nat.lt_or_ge,List.getElem?_eq_none]
  obtain⟨n,r⟩:=M j _ c (Av E) B;cases n<;>grind
 have R:(f.map λ(q:Nat×Operand)=>(q.1,a.eval q.2)).toList=(g.zipIdx 0).map λx=>(x.2,x.1):=by
  apply Iw;intro j;simp only[Array.toList_map,CN,List.getElem?_zipIdx,D9,g];cases Z:f.toList[j]? with
  |none=>rfl
  |some p=>
   have n:(f.toList.map (·.1))[j]? =some p.1:=by rw[CN,Z];rfl
   rw[C]at n;have E:j<len:=by rcases Ay j len with r|r;exact r;rw[Cm (by simpa using r)]at n;cases n
   rw[Qv E]at n;simp only[Ao]at n;simp[n]
 have a4:(g.flatMap λc=>c.cells.toList).length=len*sz:=by
  clear R;have: ∀l:List Value,(∀c∈l,c.cells.size=sz)->(l.flatMap λc=>c.cells.toList).length=l.length*sz:=by
   intro l;induction l with
   |nil=>simp
   |cons c l ih=>intro V;simp only[ID,Ac,Du,V c k!,ih (λd I=>V d (CW _ I)),Bn,EW];omega
  rw[this g y,U]
 have al: ∀(j:Nat) (c:Value) (q:Nat) (d:Value),g[j]? =some c->c.cells[q]? =some d->(g.flatMap λc=>c.cells.toList)[j*sz+q]? =some d:=by
  have: ∀(l:List Value),(∀c∈l,c.cells.size=sz)-> ∀(j:Nat) (c:Value) (q:Nat) (d:Value),l[j]? =some c->c.cells[q]? =some d->(l.flatMap λc=>c.cells.toList)[j*sz+q]? =some d:=by
   intro l;induction l with
   |nil=>intro _ j c q d B;simp at B
   |cons c0 l ih=>
    intro V j c q d B I;simp only[ID];have h0:=V c0 k!;cases j with
    |zero=>simp at B;subst B;rw[Xp,D9,CT (by rcases Ay q c0.cells.size with r|r;simpa using r;rw[rD r]at I;cases I)];simpa using I
    |succ j=>rw[Cj (by rw[Du,h0,EW];omega),Du,h0];rw[show(j+1)*sz+q-sz=j*sz+q from by rw[EW];omega];exact ih (λd I=>V d (CW _ I)) j c q d (by simpa using B) I
  exact this g y
 have F: ∃m:Array Value,(execOp a.eval o).run P w= .ok (.value (.slice (some ⟨w.heap.size,0,none⟩) len len)) {w with heap:=w.heap.push (.cells m e)}/\m.toList=g.flatMap λc=>c.cells.toList:=by
  unfold execOp;rw[ho];by_cases h0:len=0;subst h0;have:g=[]:=EZ U;refine⟨#[],?_,by rw[this];rfl⟩;have Z:f= #[]:=by have n:=congrArg List.length C;simp at n;exact n
  simp[Instr.buildSlice,run_underlying a1,K3 hi,Z,Instr.fill,newRow,show Array.range 0= #[]from rfl];refine⟨(g.flatMap λc=>c.cells.toList).toArray,?_,rfl⟩;have ap: ¬len*i.size=0:=by rw[A];exact Nat.mul_ne_zero h0 o!
  have a6: ¬len*i.size>2^24:=by rw[A];have:=lM L.1 L.2;omega
  have hf:=Go.Great.fill_whole (s:=sz) a0 g ((Array.range (len*i.size)).map (z.cells[· %z.cells.size]!)) y (by simp[U,A]);have:=run_buildSlice (P:=P) w t e len (f.map λ(q:Nat×Operand)=>(q.1,a.eval q.2)) _ i z a1 D hz a6 ap (by rw[R,A]at*;exact hf);simp only[Sem.run_bind];rw[show(f.map λx=>match x with|(i,x)=>(i,a.eval x))=(f.map λ(q:Nat×Operand)=>(q.1,a.eval q.2))from rfl,this];rfl
 obtain⟨m,F,ad⟩:=F;unfold Oper.wp;rw[F,Oper.upon_value];have ax:=s.sim.grow (w':={w with heap:=w.heap.push (.cells m e)}) rfl rfl rfl k! (λk hk=>by simp[TF,Bi hk]);have J:=HE.grow (h:=h) (H:=H) (w:=w) (w':={w with heap:=w.heap.push (.cells m e)}) rfl rfl rfl k! (λk hk=>by simp[TF,Bi hk]);refine⟨_,_,h,H,rfl,hk,?_,ax,J⟩;subst V;refine .vs (λj q=>((g.getD j undef).cells.getD q undef)) (Ap _) a0 (λj v B=>(O v (BN B)).2) (λao=>⟨w.heap.size,0,rfl,?_,by simp[cx],λj v q u B hq=>?_⟩) λj v q u B hq=>?_;rintro(hX|ho);have:=(s.sim.out _ hX).1;omega;obtain⟨id,e1,n,ao,r⟩:=ho;have:=s.sim.io_at n ao r;omega;all_goals
  have E:j<g.length:=by rcases Ay j W.length with r|r;omega;rw[Cm r]at B;cases B
  have S:g[j]? =some (g[j]):=Av E;have a3:g.getD j undef=g[j]:=by simp[Qu,S]
  obtain⟨r1,r2⟩:=M j v _ B S;rw[a3];cases r1 with
  |agg hs n G=>
   have ar:q<(g[j]).cells.size:=by rcases Ay q v.cells.length with r|r;omega;rw[Cm r]at hq;cases hq
   have T:(g[j]).cells[q]? =some ((g[j]).cells[q]):=Nf ar;have a2:(g[j]).cells.getD q undef=(g[j]).cells[q]:=by simp[ar]
   rw[a2];first
    |exact(G q u _ hq T).later (J.later X)
    |(refine⟨?_,n q _ T⟩
      have hb:(w.heap.push (.cells m e))[w.heap.size]? =some (.cells m e (0,0)):=k!
      rw[D9];show World.cell? {w with heap:=w.heap.push (.cells m e)} _=_;rw[PZ (w:={w with heap:=w.heap.push (.cells m e)}) hb,<-PV,ad];exact al j _ q _ S T)
end
section
variable {P:Program}
def Ye(z:Array Value)(n:Nat):(Builtin.zeroCells z n).size=n*z.size:=by simp[Builtin.zeroCells]
def lT{t ty e:TypeId}(g:P.underlying t=some (.slice e))(j:P.info? e=some q){base:Option Addr}{n cap m:Nat}{w w':World}
  (d:(Builtin.lenOf b).run P w= .ok m w) (f:(Builtin.firstCells q.size m b).run P w= .ok x.toArray w) (c:n+m<=cap)
  (i:(match base with
   |some a=>storeCells (a.add (n*q.size)) x
   |none=>pure ():Sem Unit).run P w= .ok () w'):
  (Builtin.append_ #[t,t] ty #[.slice base n cap,b]).run P w= .ok (.slice base (n+m) cap) w':=by
 cases base<;>simp only at i<;>simp[Builtin.append_,run_underlying g,sizeOf,typeInfo,j,d,f,c,i];simp at i;exact i
def pP{t ty e:TypeId}(g:P.underlying t=some (.slice e))(p:P.info? e=some q)(r:q.zero=some b)(l:q.bytes≤1048576){base:Option Addr}{n cap m:Nat}{os j:List Value}
  (f:(Builtin.lenOf B).run P w= .ok m w) (i:(Builtin.firstCells q.size n (.slice base n cap)).run P w.drew= .ok os.toArray w.drew) (hn:(Builtin.firstCells q.size m B).run P w.drew= .ok j.toArray w.drew)
  (z:cap<n+m) (h:n+m<=16777216):
  ∃a,n+m<=a/\(Builtin.append_ #[t,t] ty #[.slice base n cap,B]).run P w=.ok (.slice (some ⟨w.heap.size,0,none⟩) (n+m) a) {w.drew with heap:=w.drew.heap.push (.cells (os.toArray++j.toArray++Builtin.zeroCells b.cells (a-(n+m))) e)}:=by
 have d: ¬(Builtin.nextslicecap (n+m) cap*q.bytes>2^48):=by have s:=zH (n+m) cap z;have u:Builtin.nextslicecap (n+m) cap*q.bytes<=33556480*1048576:=lM o! l;omega
 refine⟨(Question.appendCap (n+m) cap e).cut (w.tape w.drawn (.appendCap (n+m) cap e)),by simp[Question.cut],?_⟩;have k:IntKind.i64.max=9223372036854775807:=g!
 have c: ¬((9223372036854775807:Int)<(n:Int)+(m:Int)/\q.bytes=0):=o!
 have o:(Question.appendCap (n+m) cap e).forced=false:=rfl;simp[Builtin.append_,sizeOf,typeInfo,zeroValue,run_underlying g,p,r,f,d,newRow,k];rw[if_neg o!,if_neg c,if_neg (by rw[o];simp),i];simp only[Result.andThen_ok];rw[hn];simp only[Result.andThen_ok,Result.ok.injEq];refine⟨rfl,?_⟩;rw[<-List.append_toArray,Array.append_assoc];rfl
end
section
variable {P:Program} {N:Nat} {o:Oper} {env:Env} {H:A1} {K:Aa->A1->Prop}
def Qq{d:Operand→Value}(e:o.op= .call {callee:=.builtin .append,args:= #[k,L],argTypes:= #[a,a]})
  (h:(Builtin.append_ #[a,a] o.type #[d k,d L]).run P w= .ok b A):(execOp d o).run P w= .ok (.value b) A:=by
 unfold execOp;rw[e];simp only[resolve,invoke,builtin,Sem.run_bind,Sem.run_pure,Result.andThen_ok,QE,Bl,HH];rw[h];rfl
def It.drew{X:Nat->Prop}{h:Gh}{H:A1}{w:World}(s:It X h H w):It X h H w.drew:=s.grow rfl rfl rfl (Ap _) λ_ _=>rfl
def HE.drew{h:Gh}{H:A1}{w:World}:HE h H w h H w.drew:=HE.grow rfl rfl rfl (Ap _) λ_ _=>rfl
def uX{as bs:List Aa}{os a:List Value}{n:Array Value}(ra:lG f as os)(g:lG f bs a)(k: ∀u∈os,u.oneCell'=true)(l: ∀u∈a,u.oneCell'=true):
  Holds f (as++bs) (os.toArray++a.toArray++n) (0,0):=by
 refine⟨λj=>(os++a).getD j undef,?_,λi _=>k!,λj v d=>?_⟩;simp[ra.1,g.1];have x:j<(os++a).length:=by rcases Ay j (as++bs).length with b|b;simp[ra.1,g.1]at*;omega;rw[Cm b]at d;cases d
 have c:(os++a)[j]? =some ((os++a)[j]):=Av x;have e:(os++a).getD j undef=(os++a)[j]:=by rw[Qu,c];rfl
 show _=some ((os++a).getD j undef)/\((os++a).getD j undef).oneCell'=true/\Bx f v ((os++a).getD j undef);rw[e];refine⟨?_,?_,?_⟩;rw[Xq (by simpa using x),List.append_toArray,jp];exact c;have m:(os++a)[j]∈os++a:=Ng x;rcases An.1 m with h|h;exact k _ h;exact l _ h;rcases Ay j as.length with b|b;rw[CT b]at d;rw[CT (by rw[ra.1];exact b)]at c;exact ra.2 j v _ d c;rw[Cj b]at d;rw[Cj (by rw[ra.1];exact b),ra.1]at c;exact g.2 _ v _ d c
theorem JJ.append_nil{D T:Operand}{t e:TypeId}{sz m:Nat}{d:List Aa}(I:o.op= .call {callee:=.builtin .append,args:= #[D,T],argTypes:= #[t,t]})(he:eI P t=some (none,e,sz))(v:0<sz)(J:Ro P e=true)
  (hs:BM env D= .nils) (M:Jr H sz (BM env T)=some (m,d)) (V:m<=16777216) (U:K (.sl H.length 0 sz 0 m) (H++[.live 0 d])):JJ P N o env H K:=by
 apply C1 (by rw[I];rfl);intro X h a w s Q;obtain⟨B,b,hi⟩:=QN he;obtain⟨i,z,f,G,hz,O⟩:=Tx J;have j:=kK hi f;have R:=Dj s.env D;rw[hs]at R;have y:a.eval D= .slice none 0 0:=by generalize a.eval D=c at R;cases R;rfl
 have S:=Dj s.env T;unfold Oper.wp;rcases VU m with W|W;subst W;obtain⟨Z,x,E,F,A,g,p,l,q⟩:=ON (P:=P) s.sim S v M;have u:d=[]:=EZ o!;subst u;have L:E=[]:=EZ g.1;subst L;have k:=lT (ty:=o.type) (base:=none) (n:=0) (cap:=0) (w':=w) B f l (by rw[j];exact q) o! rfl;rw[Qq I (by rw[y];exact k),Oper.upon_value];exact⟨_,_,_,_,rfl,U,.sl (by simp[cx]) q! ⟨_,_,rfl⟩ λ_=>.inl ⟨by simp[cx,Gh.at_],rfl,rfl,rfl⟩,s.sim.virt,HE.virt⟩;have Y:=s.sim.drew;obtain⟨Z,x,E,F,A,g,p,l,q⟩:=ON (P:=P) Y (S.later (HE.drew.later X)) v M;obtain⟨_,_,_,_,_,_,_,r,_⟩:=ON (P:=P) s.sim S v M;obtain⟨C,hC,k⟩:=pP (ty:=o.type) (base:=none) (n:=0) (cap:=0) (os:=[]) B f hz G r (by rfl) (by rw[j];exact q) o! o!;rw[Qq I (by rw[y];exact k),Oper.upon_value];have hh:Holds (cx X h H w.drew) d (#[]++E.toArray++Builtin.zeroCells z.cells (C-(0+m))) (0,0):=uX (as:=[]) (os:=[]) ⟨rfl,λ_ _ _ h=>by cases h⟩ g (λ_ h=>by cases h) p;refine⟨_,_,_,_,rfl,U,?_,Y.push _ e (0,0) d hh,HE.drew.trans (HE.push _ _ _)⟩;rw[D9];refine .sl (by simp[cx]) q! ⟨_,_,rfl⟩ λ_=>.inr ⟨w.heap.size,C,by simp[cx,Gh.at_],o!,?_,rfl⟩;have e1:E.length=m*sz:=by rw[g.1,A]
 simp only[cx,Gh.at_,if_true,Array.size_append,dY,Ye,O,j,e1];have:(C-(0+m))*sz+m*sz=C*sz:=by rw[<-EW];congr 1;omega
 grind
end
end Go.Ab
