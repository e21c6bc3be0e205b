/- A layer over the model in which values are trees: its laws and a typed interpreter, part 1. Texts of the folder wip, laid in few files with shorter names by a program (wip/tools/pack.py); nothing is assumed. -/
import Derived.Calls
import Derived.Below
import Derived.RangeFuncRecord
import Derived.OrdersIn
import Derived.Lib.FrozenHead
import Derived.Orders
import Derived.Laws.Cells
import Derived.Laws.Entries
import Derived.Laws.StructEq
import Derived.ChangeKeysEq
import Derived.Laws.BytesString
import Derived.Laws.Tables
import Derived.Great.FillDense
import Derived.Great.BuildSlice
noncomputable section
set_option linter.unusedVariables false
set_option linter.unusedSimpArgs false
set_option linter.unusedSectionVars false
set_option linter.defProp false
set_option linter.unnecessarySimpa false
set_option linter.deprecated false
namespace Go
def iQ:=@Array.extract_size
def PM:=@Array.getD_eq_getD_getElem?
def Yr:=@Array.getElem?_append_left
def mo:=@Array.getElem?_append_right
def OP:=@Array.getElem?_eq_getElem
def mq:=@Array.getElem?_eq_none
def r8:=@Array.getElem?_eq_none_iff
def iR:=@Array.getElem?_eq_some_iff
def Vq:=@Array.getElem?_map
def mr:=@Array.getElem?_modify
def Ri:=@Array.getElem?_push
def o9:=@Array.getElem?_setIfInBounds_ne
def Od:=@Array.getElem?_toList
def DQ:=@Array.length_toList
def pA:=@Array.mem_of_getElem?
def jq:=@Array.size_setIfInBounds
def pB:=@BitVec.eq_of_getLsbD_eq
def eW:=@BitVec.ofInt_natCast
def eX:=@BitVec.toNat_ofNat
def BN:=@Bool.and_eq_true
def Rj:=@Bool.and_self
def Oe:=@Bool.and_true
def J5:=@Bool.false_eq_true
def VX:=@Bool.not_eq_true'
def jr:=@Bool.not_false
def Ds:=@Bool.not_true
def eY:=@Bool.or_eq_true
def Rk:=@Decidable.byContradiction
def Ei:=@Int.eq_ofNat_of_zero_le
def eZ:=@Int.fdiv_eq_ediv_of_nonneg
def Ak:=@Int.le_refl
def js:=@Int.le_trans
def ec:=@Int.lt_or_le
def jt:=@Int.mul_ediv_add_emod
def er:=@Int.tmod_lt_of_pos
def eu:=@Int.tmod_nonneg
def Df:=@Int.toNat_natCast
def LV:=@Int.toNat_of_nonneg
def pC:=@List.Pairwise.imp_of_mem
def pD:=@List.Perm.eq_of_pairwise
def ju:=@List.all_cons
def Ft:=@List.all_eq_true
def jv:=@List.all_nil
def jw:=@List.any_eq_true
def A0:=@List.append_assoc
def LW:=@List.append_inj
def D8:=@List.append_nil
def fA:=@List.cons_append
def Ys:=@List.drop_append
def jx:=@List.drop_append_of_le_length
def Of:=@List.drop_drop
def VY:=@List.drop_eq_getElem_cons
def fB:=@List.drop_eq_nil_of_le
def Po:=@List.drop_left
def Yt:=@List.drop_of_length_le
def fC:=@List.drop_zero
def EU:=@List.eq_nil_of_length_eq_zero
def IY:=@List.ext_getElem?
def pE:=@List.extract_eq_take_drop
def pF:=@List.filterMap_append
def IZ:=@List.filter_append
def Tn:=@List.filter_cons
def pG:=@List.filter_cons_of_neg
def pH:=@List.filter_cons_of_pos
def fD:=@List.filter_nil
def fE:=@List.flatMap_append
def I4:=@List.flatMap_cons
def jy:=@List.flatMap_nil
def jz:=@List.flatten_cons
def fF:=@List.foldl_append
def fG:=@List.foldl_cons
def I5:=@List.getD_eq_getElem?_getD
def B6:=@List.getElem?_append_left
def Cb:=@List.getElem?_append_right
def pI:=@List.getElem?_cons_succ
def Yu:=@List.getElem?_cons_zero
def J6:=@List.getElem?_drop
def Aw:=@List.getElem?_eq_getElem
def Ck:=@List.getElem?_eq_none
def To:=@List.getElem?_eq_some_iff
def CC:=@List.getElem?_map
def EV:=@List.getElem?_of_mem
def Rl:=@List.getElem?_range
def Yv:=@List.getElem?_set
def Dt:=@List.getElem?_set_ne
def Hi:=@List.getElem?_set_self
def Yw:=@List.getElem?_take
def LY:=@List.getElem?_take_of_lt
def fH:=@List.getElem?_toArray
def pJ:=@List.getElem?_zip_eq_some
def Tp:=@List.getElem_mem
def Af:=@List.length_append
def CD:=@List.length_cons
def G6:=@List.length_drop
def LZ:=@List.length_filter_le
def Da:=@List.length_map
def CT:=@List.length_nil
def I6:=@List.length_replicate
def fJ:=@List.length_set
def Bh:=@List.length_take
def MB:=@List.map_append
def MC:=@List.map_congr_left
def Be:=@List.map_cons
def aG:=@List.map_id
def Nw:=@List.map_map
def IW:=@List.map_nil
def PF:=@List.map_toArray
def At:=@List.mem_append
def HQ:=@List.mem_append_left
def PG:=@List.mem_append_right
def A1:=@List.mem_cons
def CN:=@List.mem_cons_of_mem
def JS:=@List.mem_cons_self
def Bq:=@List.mem_filter
def PH:=@List.mem_filterMap
def HS:=@List.mem_flatMap
def Tj:=@List.mem_iff_getElem
def Fi:=@List.mem_iff_getElem?
def Br:=@List.mem_map
def Vj:=@List.mem_map_of_mem
def BL:=@List.mem_of_getElem?
def Vk:=@List.mem_of_mem_drop
def KG:=@List.mem_of_mem_take
def Tk:=@List.mem_or_eq_of_mem_set
def IX:=@List.mem_range
def BE:=@List.mem_singleton
def ml:=@List.mem_zipIdx_iff_getElem?
def Cy:=@List.nil_append
def PI:=@List.nodup_append
def Fz:=@List.nodup_cons
def Nx:=@List.nodup_iff_pairwise_ne
def Ny:=@List.nodup_nil
def KH:=@List.pairwise_iff_getElem
def Tl:=@List.pairwise_map
def gZ:=@List.perm_ext_iff_of_nodup
def ga:=@List.replicate_succ
def RQ:=@List.set_append_right
def Vl:=@List.set_set
def mm:=@List.singleton_append
def aH:=@List.size_toArray
def Tm:=@List.sum_cons
def Ed:=@List.take_add_one
def gb:=@List.take_append
def Ee:=@List.take_append_drop
def aI:=@List.take_append_of_le_length
def Vm:=@List.take_left
def MD:=@List.take_left'
def HT:=@List.take_length
def Bs:=@List.take_of_length_le
def KJ:=@List.take_take
def aJ:=@List.zip_append
def aK:=@Nat.add_assoc
def GY:=@Nat.add_mul
def gd:=@Nat.add_sub_cancel
def Vn:=@Nat.add_sub_cancel_left
def RR:=@Nat.add_zero
def JT:=@Nat.beq_refl
def C8:=@Nat.eq_of_beq_eq_true
def RS:=@Nat.eq_zero_or_pos
def KK:=@Nat.le_of_ble_eq_true
def Ag:=@Nat.le_refl
def EC:=@Nat.le_trans
def C9:=@Nat.lt_of_lt_of_le
def Ao:=@Nat.lt_or_ge
def PJ:=@Nat.lt_trichotomy
def PK:=@Nat.min_eq_left
def Vo:=@Nat.mod_eq_of_lt
def gf:=@Nat.mul_le_mul
def PL:=@Nat.mul_le_mul_right
def BR:=@Nat.ne_of_lt
def aL:=@Nat.pow_le_pow_right
def G3:=@Nat.sub_self
def ED:=@Nat.zero_add
def Bt:=@Nat.zero_le
def Dv:=@Option.bind_eq_some_iff
def AE:=@Option.bind_some
def gg:=@Option.getD_some
def aM:=@Option.isSome_iff_exists
def Vp:=@Option.map_eq_some_iff
def Bf:=@Option.map_some
def Cl:=@Option.some.inj
def Ai:=@Option.some.injEq
def gh:=@Option.toList_some
def ES:=@Prod.ext
def Dq:=@Prod.mk.injEq
def gi:=@Sum.elim_inl
def aN:=@Sum.elim_inr
end Go
namespace Go.Ab
inductive AV where
 |bool (b:Bool)
 |int (k:IntKind) (n:Int)
 |str (s:List UInt8)
 |nilp
 |ptr (id g off:Nat)
 |vptr (cs:List AV)
 |nils
 |vs (sz:Nat) (rows:List AV)
 |sl (id g sz off len:Nat)
 |fn (f:Fn) (first caps:List AV)
 |yf (id:Nat)
 |mp (id:Nat)
 |itp (id m:Nat)
 |nilf
 |agg (cs:List AV)
 |tup (vs:List AV)
 |any
 deriving Inhabited
def AV.cells:AV->List AV
 | .agg cs=>cs
 |v=>[v]
structure Cx where
 w:World
 n:Nat
 io:Nat->Option Nat
 gen:Nat->Nat
 cap:Nat->Nat
 O:Nat->Prop
inductive BZ(x:Cx):AV->Value->Prop where
 |bool (b:Bool):BZ x (.bool b) (.bool b)
 |int (k:IntKind) (n:Int):BZ x (.int k n) (.int k n)
 |str {s:List UInt8} (t:ByteArray) (h:t.data.toList=s):BZ x (.str s) (.string t)
 |nilp:BZ x .nilp (.pointer none)
 |ptr {id g off:Nat} {c:Value} (hid:id<x.n) (hg:g≤x.gen id) (h1:c.oneCell'=true)
   (hc:x.gen id=g-> ∃B,x.io id=some B/\c= .pointer (some ⟨B,off,none⟩)):BZ x (.ptr id g off) c
 |vptr {cs:List AV} {B off:Nat} (f:Nat→Value) (hO: ¬x.O B) (hB:B<x.w.heap.size)
   (hc: ∀(j:Nat) (v:AV),cs[j]? =some v->x.w.cell? ⟨B,off+j,none⟩=some (f j)/\(f j).oneCell'=true)
   (hv: ∀(j:Nat) (v:AV),cs[j]? =some v->BZ x v (f j)):BZ x (.vptr cs) (.pointer (some ⟨B,off,none⟩))
 |nils:BZ x .nils (.slice none 0 0)
 |vs {sz:Nat} {rows:List AV} {a:Option Addr} {cap:Nat} (f:Nat→Nat→Value) (hcap:rows.length≤cap) (hsz:0<sz)
   (hrow: ∀(j:Nat) (e:AV),rows[j]? =some e->e.cells.length=sz)
   (ha:rows≠ []-> ∃B off,a=some ⟨B,off,none⟩/\ ¬x.O B/\B<x.w.heap.size/\
    ∀(j:Nat) (e:AV) (i:Nat) (v:AV),rows[j]? =some e->e.cells[i]? =some v->x.w.cell? ⟨B,off+(j*sz+i),none⟩=some (f j i)/\(f j i).oneCell'=true)
   (hv: ∀(j:Nat) (e:AV) (i:Nat) (v:AV),rows[j]? =some e->e.cells[i]? =some v->BZ x v (f j i)):BZ x (.vs sz rows) (.slice a rows.length cap)
 |sl {id g sz off len:Nat} {c:Value} (hid:id<x.n) (hg:g≤x.gen id) (h1: ∃a cap,c= .slice a len cap)
   (hc:x.gen id=g->(x.io id=none/\len=0/\off=0/\c= .slice none 0 0)\/
    ∃B cap,x.io id=some B/\len<=cap/\off+cap*sz<=x.cap id/\c= .slice (some ⟨B,off,none⟩) len cap):BZ x (.sl id g sz off len) c
 |fn {f:Fn} {first caps:List AV} {first' caps':Array Value} (h1:first'.size=first.length) (h2:caps'.size=caps.length)
   (hv1: ∀(j:Nat) (v:AV) (c:Value),first[j]? =some v->first'[j]? =some c->BZ x v c) (hv2: ∀(j:Nat) (v:AV) (c:Value),caps[j]? =some v->caps'[j]? =some c->BZ x v c):
   BZ x (.fn f first caps) (.func f first' caps')
 |yf {id:Nat} {c:Value} (hid:id<x.n) (h1:c.oneCell'=true) (hc:x.gen id=0-> ∃B,x.io id=some B/\c= .func (.yield B) #[] #[]):BZ x (.yf id) c
 |mp {id:Nat} {c:Value} (hid:id<x.n) (h1:c.oneCell'=true) (hc:x.gen id=0-> ∃B,x.io id=some B/\c= .map (some B)):BZ x (.mp id) c
 |itp {id m:Nat} {c:Value} (hid:id<x.n) (hm:m<x.n) (h1:c.oneCell'=true) (hc:x.gen id=0-> ∃B,x.io id=some B/\c= .pointer (some ⟨B,0,none⟩)/\(x.gen m=0->x.io m=some (x.cap id))):BZ x (.itp id m) c
 |nilf:BZ x .nilf .nilFunc
 |agg {cs:List AV} {cs':Array Value} (h:cs'.size=cs.length) (h1: ∀(j:Nat) (c:Value),cs'[j]? =some c→c.oneCell'=true)
   (hv: ∀(j:Nat) (v:AV) (c:Value),cs[j]? =some v->cs'[j]? =some c->BZ x v c):BZ x (.agg cs) (.agg cs')
 |tup {vs:List AV} {vs':Array Value} (h:vs'.size=vs.length)
   (hv: ∀(j:Nat) (v:AV) (c:Value),vs[j]? =some v->vs'[j]? =some c->BZ x v c):BZ x (.tup vs) (.tuple vs')
 |any (c:Value):BZ x .any c
structure Cx.Later(x y:Cx):Prop where
 size:x.w.heap.size<=y.w.heap.size
 keep: ∀B,B<x.w.heap.size-> ¬x.O B-> ∀off,y.w.cell? ⟨B,off,none⟩=x.w.cell? ⟨B,off,none⟩
 own: ∀B,B<x.w.heap.size->y.O B->x.O B
 n:x.n<=y.n
 gen: ∀id,id<x.n->x.gen id<=y.gen id
 same: ∀id,id<x.n->y.gen id=x.gen id->y.io id=x.io id/\y.cap id=x.cap id
variable {N s:Nat}{a:TypeId}{w A:World}{P:Program}{b B:Value}{c:Nat→Prop}{d G:List AV}{e n D:AV}{f:Cx}{i:Array Value}{j:Act}{k:Option (List Deferred)}{m:Operand}{o:Oper}{X:Nat->Prop}{p:List Nat}{q:Code}{r:Bool}{u:Nat×Nat}{v:Nat->Nat}{y:IntKind}{z:FuncId}{C:BinOp}{E:Func}{F:Obj}
theorem gN(h:A.heap[N]? =w.heap[N]?)(a:Nat):A.cell? ⟨N,a,none⟩=w.cell? ⟨N,a,none⟩:=by grind[World.cell?]
theorem BZ.later{x y:Cx}(h:x.Later y)(r:BZ x e b):BZ y e b:=by
 induction r with
 |bool v=>exact .bool v
 |int k n=>exact .int k n
 |str t J=>exact .str t J
 |nilp=>exact .nilp
 |ptr a w d m=>refine .ptr (C9 a h.n) (EC w (h.gen _ a)) d λc=>?_;have d:=h.gen _ a;have l:=h.same _ a (by omega);grind
 |vptr f q g m K p=>refine .vptr f (λo=>q (h.own _ g o)) (C9 g h.size) (λj e H=>?_) p;rw[h.keep _ g q];grind
 |nils=>exact .nils
 |vs f s C u G K p=>refine .vs f s C u (λA=>?_) p;obtain⟨B,F,c,q,g,m⟩:=G A;refine⟨B,F,c,(λo=>q (h.own _ g o)),C9 g h.size,λj c i e H N=>?_⟩;rw[h.keep _ g q];grind
 |sl a w d m=>refine .sl (C9 a h.n) (EC w (h.gen _ a)) d λc=>?_;have d:=h.gen _ a;have l:=h.same _ a (by omega);grind
 |fn d l _ _ D E=>exact .fn d l D E
 |yf a d m=>refine .yf (C9 a h.n) d λc=>?_;have d:=h.gen _ a;have l:=h.same _ a (by omega);grind
 |mp a d m=>refine .mp (C9 a h.n) d λc=>?_;have d:=h.gen _ a;have l:=h.same _ a (by omega);grind
 |itp a z d m=>refine .itp (C9 a h.n) (C9 z h.n) d λc=>?_;have d:=h.gen _ a;have l:=h.same _ a (by omega);obtain⟨B,g,I,O⟩:=m (by omega);refine⟨B,l.1.trans g,I,λc=>?_⟩;have L:=h.gen _ z;have M:=h.same _ z (by omega);grind
 |nilf=>exact .nilf
 |agg h d _ p=>exact .agg h d p
 |tup h _ p=>exact .tup h p
 |any b=>exact .any b
abbrev Env:=List (Nat×AV)
structure gI where
 n:Nat
 env:Env
 params:Array Tmp
 assign:Code
 body:Code
 state:LoopState
 pending:Option Code
inductive Ec where
 |dead
 |live (g:Nat) (cells:List AV)
 |lp (L:gI)
 |bld (T e row:Nat) (l:Option (List UInt8))
 |brow (o:Nat)
 |mp (k:IntKind) (es:List (Int×AV))
 |it (n:Nat) (seen:List Nat)
 deriving Inhabited
def Ec.isB:Ec->Bool
 | .bld .. =>true
 | .brow _=>true
 | .mp _ _=>true
 | .it _ _=>true
 |_=>false
abbrev Ap:=List Ec
structure Gh where
 io:Nat->Option Nat
 gen:Nat->Nat
 cap:Nat->Nat
def owned(h:Gh)(H:Ap)(B:Nat):Prop:= ∃id e,H[id]? =some e/\e≠Ec.dead/\h.io id=some B
def cx(X:Nat->Prop)(h:Gh)(H:Ap)(w:World):Cx:=⟨w,H.length,h.io,h.gen,h.cap,λB=>X B\/owned h H B⟩
def vQ(x:Cx)(id g:Nat)(cs:List AV):Prop:=
 x.gen id=g/\((x.io id=none/\cs=[])\/ ∃(B:Nat) (arr:Array Value) (T:TypeId) (fz:Nat×Nat) (f:Nat->Value),x.io id=some B/\x.w.heap[B]? =some (.cells arr T fz)/\arr.size=x.cap id/\
  cs.length<=arr.size/\(∀i,i<arr.size->(decide (fz.1<=i)&&decide (i<fz.2))=false)/\
  ∀(j:Nat) (v:AV),cs[j]? =some v->arr[j]? =some (f j)/\(f j).oneCell'=true/\BZ x v (f j))
def qM(x:Cx)(id:Nat)(L:gI):Prop:=
 x.gen id=0/\ ∃(B:Nat) (r:Loop),x.io id=some B/\x.w.heap[B]? =some (.loop r)/\r.state=L.state/\r.pending=L.pending/\r.params=L.params/\r.assign=L.assign/\r.body=L.body/\r.tmps.size=L.n/\
  ∀t v,(t,v)∈L.env->t<L.n/\BZ x v (r.tmps.getD t undef)
def BAt(h:Gh)(H:Ap)(w:World)(id:Nat):Ec->Prop
 | .bld T e row l=> ∃(B:Nat) (p v:Value),h.io id=some B∧w.heap[B]? =some (.cells #[p,v] T (0,0))∧(p= .pointer none∨p= .pointer (some ⟨B,0,none⟩))∧h.gen id=0∧(l=none→p= .pointer none∧v= .slice none 0 0)∧
   (H[row]? =some (.brow id)->w.ownsRowF 0 e 1 v (l.getD []).length (Lib.byteCells (l.getD []))/\v.ownBlock=h.io row)
 | .brow _=> ∀B,h.io id=some B-> ∃arr T fz,w.heap[B]? =some (.cells arr T fz)
 | .mp k es=> ∃(B:Nat) (arr:Array MapEntry),h.io id=some B∧h.gen id=0∧w.heap[B]? =some (.map arr arr.size)∧arr.size=es.length∧
   ∀(j:Nat) (p:Int×AV),es[j]? =some p-> ∃e:MapEntry,arr[j]? =some e/\e.born=j/\e.key= .int k p.1/\ ∀x,BZ x p.2 e.val
 | .it n seen=> ∃B,h.io id=some B/\h.gen id=0/\w.heap[B]? =some (.mapIter (some (h.cap id)) n seen.toArray n)
 |_=>True
structure Ih(X:Nat->Prop)(h:Gh)(H:Ap)(w:World):Prop where
 out: ∀B,X B->B<w.heap.size/\ ¬owned h H B
 live: ∀(id g:Nat) (cs:List AV),H[id]? =some (Ec.live g cs)->vQ (cx X h H w) id g cs
 lp: ∀(id:Nat) (L:gI),H[id]? =some (Ec.lp L)->qM (cx X h H w) id L
 inj: ∀(id id':Nat) (e e':Ec) (B:Nat),H[id]? =some e->H[id']? =some e'->e≠ .dead->e'≠ .dead->h.io id=some B->h.io id'=some B->id=id'
 bld: ∀(id:Nat) (e:Ec),H[id]? =some e->e.isB=true->BAt h H w id e
variable {H J:Ap}{h I:Gh}{g:Env}{l:Ec}{K:AV->Ap->Prop}{t:AV→Ap→Prop}
def Ih.bldKeep(s:Ih c h H w)
  (key: ∀(id:Nat) (e:Ec),J[id]? =some e->e.isB=true->H[id]? =some e/\I.io id=h.io id/\I.gen id=h.gen id/\I.cap id=h.cap id/\ ∀B (o:Obj),h.io id=some B->w.heap[B]? =some o->(∀z,o≠ .deferred z)->A.heap[B]? =w.heap[B]?):
  ∀(id:Nat) (e:Ec),J[id]? =some e->e.isB=true->BAt I J A id e:=by
 intro id e N u;obtain⟨C,d,X,m,t⟩:=key id e N u;have b:=s.bld id e C u;cases e with
 |bld T R F l=>obtain⟨B,p,v,a,j,i,r,M,L⟩:=b;refine⟨B,p,v,d.trans a,(t B _ a j (λz=>by simp)).trans j,i,X.trans r,M,λhr=>?_⟩;obtain⟨D,E,_,_,Q⟩:=key F (.brow id) hr rfl;obtain⟨q1,q2⟩:=L D;refine⟨⟨q1.1,?_⟩,q2.trans E.symm⟩;rcases q1.2 with q|⟨g,cap,x,y,rfl,O,K,P⟩;exact .inl q;refine .inr ⟨g,cap,x,y,rfl,O,(Q g _ ?_ K (λz=>by simp)).trans K,P⟩;simpa[Value.ownBlock]using q2.symm
 |brow o=>intro B G;obtain⟨f,T,y,a⟩:=b B (d▸G);exact⟨f,T,y,(t B _ (d▸G) a (λz=>by simp)).trans a⟩
 |mp k S=>obtain⟨B,f,a,j,i,r⟩:=b;exact⟨B,f,d.trans a,X.trans j,(t B _ a i (λz=>by simp)).trans i,r⟩
 |it n seen=>obtain⟨B,a,j,i⟩:=b;exact⟨B,d.trans a,X.trans j,by rw[m];exact(t B _ a i (λz=>by simp)).trans i⟩
 |_=>trivial
def Mz(x:Cx)(env:Env)(a:Act):Prop:= ∀t v,(t,v)∈env->t<a.tmps.size/\BZ x v (a.tmps.getD t undef)
structure St(X:Nat->Prop)(h:Gh)(N:Nat)(env:Env)(H:Ap)(a:Act)(w:World):Prop where
 sim:Ih X h H w
 env:Mz (cx X h H w) env a
 size:a.tmps.size=N
structure G2(h:Gh)(H:Ap)(w:World)(h':Gh)(H':Ap)(w':World):Prop where
 os:w'.os=w.os
 tape:w'.tape=w.tape
 output:w'.output=w.output
 size:w.heap.size<=w'.heap.size
 keep: ∀B,B<w.heap.size-> ¬owned h H B->w'.heap[B]? =w.heap[B]?
 n:H.length<=H'.length
 gen: ∀id,id<H.length->h.gen id<=h'.gen id
 same: ∀id,id<H.length->h'.gen id=h.gen id->h'.io id=h.io id/\h'.cap id=h.cap id
 fresh: ∀B,owned h' H' B->owned h H B\/w.heap.size<=B
 loops: ∀(B:Nat) (r:Loop),w.heap[B]? =some (.loop r)-> ∃r':Loop,w'.heap[B]? =some (.loop r')
def G2.refl(h:Gh)(H:Ap)(w:World):G2 h H w h H w:=⟨rfl,rfl,rfl,Ag _,λ_ _ _=>rfl,Ag _,λ_ _=>Ag _,λ_ _ _=>⟨rfl,rfl⟩,λ_ h=>.inl h,λ_ r h=>⟨r,h⟩⟩
theorem G2.trans{c j k:Gh}{f g i:Ap}{l m o:World}(a:G2 c f l j g m)(b:G2 j g m k i o):G2 c f l k i o where
 os:=b.os.trans a.os
 tape:=b.tape.trans a.tape
 output:=b.output.trans a.output
 size:=EC a.size b.size
 keep B hB hn:=(b.keep B (C9 hB a.size) λd=>by rcases a.fresh B d with h|h;grind;omega).trans (a.keep B hB hn)
 n:=EC a.n b.n
 gen id hid:=EC (a.gen id hid) (b.gen id (C9 hid a.n))
 same id hid e:=by have q:=a.gen id hid;have s:=b.gen id (C9 hid a.n);have u:=a.same id hid (by omega);have v:=b.same id (C9 hid a.n) (by omega);grind
 fresh B d:=by rcases b.fresh B d with h|h;exact a.fresh B h;exact .inr (EC a.size h)
 loops B r h:=by obtain⟨p,c⟩:=a.loops B r h;exact b.loops B p c
def G2.later{h c:Gh}{H b:Ap}{w d:World}(e:G2 h H w c b d)(X:Nat->Prop):(cx X h H w).Later (cx X c b d)where
 size:=e.size
 keep B hB hO off:=gN (e.keep B hB λa=>hO (.inr a)) off
 own B hB a:=by rcases a with a|a;exact .inl a;rcases e.fresh B a with h|h;exact .inr h;simp only[cx]at hB;omega
 n:=e.n
 gen:=e.gen
 same:=e.same
def Mz.later{x y:Cx}(l:x.Later y)(h:Mz x g j):Mz y g j:=λt v m=>⟨(h t v m).1,(h t v m).2.later l⟩
def EQ(P:Program)(F:FuncId)(args:List AV)(H:Ap)(Q:AV->Ap->Prop):Prop:=
 ∀(X:Nat->Prop) (h:Gh) (w:World) (cargs:Array Value),Ih X h H w->cargs.size=args.length->
  (∀(j:Nat) (v:AV) (c:Value),args[j]? =some v->cargs[j]? =some c->BZ (cx X h H w) v c)->
  Calls P F cargs w λe w'=> ∃c v h' H',e= .returned c/\Q v H'/\Ih X h' H' w'/\BZ (cx X h' H' w') v c/\G2 h H w h' H' w'
def FR(r:Option Nat):Fence:={Fence.wide with round:=r}
def Xi(a:Act)(w:World)(a':Act)(w':World):Prop:=
 ∃ds,a'.defers=ds++a.defers/\ds.Nodup/\ ∀d∈ds,∃D,d={target:=.collected D,args:= #[]}/\w.heap.size<=D/\w'.heap[D]? =some (.deferred (some []))
def iP(r:Option Nat)(w:World):Prop:= ∀l,r=some l-> ∃x:Loop,w.heap[l]? =some (.loop x)
def Xi.same{b:Act}{w c:World}(h:b.defers=j.defers):Xi j w b c:=⟨[],by simp[h],.nil,λ_ h=>by cases h⟩
def Ih.deferred(s:Ih X h H w)(i:w.heap[N]? =some (.deferred k)): ¬owned h H N:=by
 rintro⟨id,e,j,t,b⟩;cases e with
 |dead=>exact t rfl
 |live g u=>rcases(s.live id g u j).2 with⟨hn,_⟩|⟨B,m,T,y,f,a,q,_⟩;rw[show(cx X h H w).io id=h.io id from rfl,b]at hn;cases hn;rw[show(cx X h H w).io id=h.io id from rfl,b]at a;injection a with e;subst e;rw[show(cx X h H w).w.heap=w.heap from rfl,i]at q;cases q
 |lp L=>obtain⟨_,B,r,a,q,_⟩:=s.lp id L j;rw[show(cx X h H w).io id=h.io id from rfl,b]at a;injection a with e;subst e;rw[show(cx X h H w).w.heap=w.heap from rfl,i]at q;cases q
 |bld T A z l=>obtain⟨B,p,v,d,c,_⟩:=s.bld id _ j rfl;rw[b]at d;injection d with e;subst e;rw[i]at c;cases c
 |brow o=>obtain⟨m,T,y,c⟩:=s.bld id _ j rfl N b;rw[i]at c;cases c
 |mp D C=>obtain⟨B,m,d,_,c,_⟩:=s.bld id _ j rfl;rw[b]at d;injection d with e;subst e;rw[i]at c;cases c
 |it n seen=>obtain⟨B,d,_,c⟩:=s.bld id _ j rfl;rw[b]at d;injection d with e;subst e;rw[i]at c;cases c
theorem mN(h:w.heap[N]? =some F):N<w.heap.size:=by grind
def G2.defs(x:G2 h H w I J A)(s:Ih X h H w)(a:w.heap[N]? =some (.deferred k)):A.heap[N]? =some (.deferred k):=(x.keep N (mN a) (s.deferred a)).trans a
theorem Xi.trans{X:Nat->Prop}{h j b:Gh}{H f n:Ap}{a a1 a2:Act}{w e m:World}(o:Xi a w a1 e)(s:Ih X j f e)(z:G2 h H w j f e)(x:G2 j f e b n m)(p:Xi a1 e a2 m):Xi a w a2 m:=by obtain⟨g,B,t,v⟩:=o;obtain⟨i,C,u,y⟩:=p;refine⟨i++g,by grind,PI.2 ⟨u,t,λd r A q E=>?_⟩,λd c=>?_⟩;grind;rcases At.1 c with c|c;obtain⟨D,k,b,l⟩:=y d c;exact⟨D,k,EC z.size b,l⟩;obtain⟨D,k,b,l⟩:=v d c;exact⟨D,k,b,x.defs s l⟩
def iP.later{r:Option Nat}{h c:Gh}{H b:Ap}{w a:World}(k:iP r w)(x:G2 h H w c b a):iP r a:=λl e=>by obtain⟨y,d⟩:=k l e;exact x.loops l y d
def L9(P:Program)(N:Nat)(c:Code)(env:Env)(H:Ap)(Q:Exit->Env->Ap->Prop):Prop:=
 ∀(r:Option Nat) (X:Nat->Prop) (h:Gh) (a:Act) (w:World),St X h N env H a w->iP r w->
  c.wpIn (FR r) 0 P (λe a' w'=> ∃h' env' H',Q e env' H'/\St X h' N env' H' a' w'/\G2 h H w h' H' w'/\Xi a w a' w') a w
def EQ.mono{P:Program}{F:FuncId}{H:Ap}{Q:AV->Ap->Prop}(h:EQ P F d H K)(i: ∀v b,K v b->Q v b):EQ P F d H Q:=λX g w a s j hr=>(h X g w a s j hr).mono λ_ _ ⟨c,v,f,b,e,q,r⟩=>⟨c,v,f,b,e,i _ _ q,r⟩
def L9.mono{P:Program}{N:Nat}{H:Ap}{Q f:Exit->Env->Ap->Prop}(h:L9 P N q g H Q)(j: ∀e b d,Q e b d->f e b d):L9 P N q g H f:=λr X l a w s k=>wpIn_mono (h r X l a w s k) λ_ _ _ ⟨i,b,d,c,r⟩=>⟨i,b,d,j _ _ _ c,r⟩
def qK(K:Env->Ap->Prop)(Q:Exit->Env->Ap->Prop):Exit->Env->Ap->Prop
 | .normal,env,H=>K env H
 |e,env,H=>Q e env H
def kA(id:Nat)(Q:Exit->Env->Ap->Prop):Exit->Env->Ap->Prop
 | .exit id',env,H=>if id'=id then Q .normal env H else Q (.exit id') env H
 |e,env,H=>Q e env H
section rules
variable {P:Program} {N:Nat} {env:Env} {H:Ap} {Q:Exit->Env->Ap->Prop}
def L9.skip(h:Q .normal env H):L9 P N .skip env H Q:=λ_ _ _ _ _ s _=>wpIn_skip ⟨_,_,_,h,s,G2.refl _ _ _,.same rfl⟩
def L9.ret(h:Q .ret env H):L9 P N .ret env H Q:=λ_ _ _ _ _ s _=>wpIn_ret ⟨_,_,_,h,s,G2.refl _ _ _,.same rfl⟩
def L9.exit(h:Q (.exit s) env H):L9 P N (.exit s) env H Q:=λ_ _ _ _ _ a _=>wpIn_exit ⟨_,_,_,h,a,G2.refl _ _ _,.same rfl⟩
def L9.seq{x y:Code}(h:L9 P N x env H (qK (λb d=>L9 P N y b d Q) Q)):L9 P N (.seq x y) env H Q:=by
 intro r X g a w s k;refine wpIn_seq (wpIn_mono (h r X g a w s k) ?_);rintro e n u ⟨j,b,d,q,f,c,i⟩;cases e with
 |normal=>apply wpIn_mono (q r X j n u f (k.later c));rintro e a2 v ⟨p,env2,m,q2,t,l,o⟩;exact⟨p,env2,m,q2,t,c.trans l,i.trans f.sim c l o⟩
 |_=>exact⟨j,b,d,q,f,c,i⟩
theorem L9.block{id:Nat}(h:L9 P N q env H (kA id Q)):L9 P N (.block id q) env H Q:=by intro r X g a w s k;refine wpIn_block (wpIn_mono (h r X g a w s k) ?_);rintro e f j ⟨i,b,d,c,r⟩;cases e<;>grind[kA,Exit.inBlock]
def Fs(N n0:Nat)(env:Env)(H:Ap)(env2:Env)(H2:Ap):Prop:=
 n0<=H2.length/\ ∀(X:Nat->Prop) (h:Gh) (a:Act) (w:World),St X h N env H a w->
  ∃h2,St X h2 N env2 H2 a w/\(∀id,id<n0->h2.gen id=h.gen id/\h2.io id=h.io id/\h2.cap id=h.cap id)/\ ∀B,owned h2 H2 B->owned h H B
def Fs.ext{n0:Nat}{d:Gh}{f:Ap}(hn:f.length=n0)(m:n0≤J.length)
  (j: ∀id,id<n0->d.gen id=h.gen id/\d.io id=h.io id/\d.cap id=h.cap id) (l: ∀B,owned d J B->owned h H B) (x:G2 I f A h H w):G2 I f A d J w where
 os:=x.os
 tape:=x.tape
 output:=x.output
 size:=x.size
 keep:=x.keep
 n:=by omega
 gen id hid:=by rw[(j id (by omega)).1];exact x.gen id hid
 same id hid e:=by obtain⟨a,b,c⟩:=j id (by omega);rw[a]at e;rw[b,c];exact x.same id hid e
 fresh B hB:=x.fresh B (l B hB)
 loops:=x.loops
theorem Fs.refl(N:Nat)(env:Env)(H:Ap):Fs N H.length env H env H:=⟨Ag _,λ_ h _ _ s=>⟨h,s,λ_ _=>⟨rfl,rfl,rfl⟩,λ_ h=>h⟩⟩
def L9.weak(f:Fs N H.length env H g J)(h:L9 P N q g J Q):L9 P N q env H Q:=by intro r X d a w s k;obtain⟨m,t,n,o⟩:=f.2 X d a w s;apply wpIn_mono (h r X m a w t k);rintro e v x ⟨l,b,i,c,p,u,j⟩;exact⟨l,b,i,c,p,(Fs.ext rfl f.1 n o (G2.refl d H w)).trans u,j⟩
end rules
def Env.get:Env->Nat->AV
 |[],_=>.any
 |(k,v)::r,t=>if k=t then v else Env.get r t
def Env.put(env:Env)(t:Nat)(v:AV):Env:=(t,v)::env.filter λp=>decide (p.1≠t)
def Env.putO(env:Env):Option Nat->AV->Env
 |some t,v=>env.put t v
 |none,_=>env
theorem NA{env:Env}{t:Nat}:Env.get env t= .any\/(t,Env.get env t)∈env:=by induction env<;>grind[Env.get]
def lS:Value->AV
 | .bool b=>.bool b
 | .int k n=>.int k n
 | .string s=>.str s.data.toList
 | .pointer none=>.nilp
 | .slice none 0 0=>.nils
 | .nilFunc=>.nilf
 |_=>.any
def wu:Value->AV
 | .agg cs=>if cs.toList.all (·.oneCell')then .agg (cs.toList.map lS)else .any
 |v=>lS v
theorem kK(x:Cx)(v:Value):BZ x (lS v) v:=by unfold lS;split;exact .bool _;exact .int _ _;exact .str _ rfl;exact .nilp;exact .nils;exact .nilf;exact .any _
theorem sP(x:Cx)(v:Value):BZ x (wu v) v:=by unfold wu;split;rename_i b;split;rename_i h;refine .agg (by simp) (λj c a=>?_) λj v c a d=>?_;grind;grind[kK];exact .any _;exact kK x _
def BC(env:Env):Operand->AV
 | .tmp t=>env.get t
 | .const v=>wu v
 | .global _=>.any
 | .func f=>.fn (.func f) [] []
def Cz(h:Mz f g j)(o:Operand):BZ f (BC g o) (j.eval o):=by
 cases o with
 |tmp t=>rcases NA (env:=g) (t:=t)with e|m;simp only[BC,e];exact .any _;exact(h _ _ m).2
 |const v=>exact sP f v
 |global a=>exact .any _
 |func x=>exact .fn rfl rfl (λ_ _ _ h=>by simp at h) (λ_ _ _ h=>by simp at h)
theorem Mz.put(h:Mz f g j){d:Nat}{v:AV}(i:d<j.tmps.size)(k:BZ f v b):Mz f (g.put d v) (j.put (some d) b):=by
 intro t u m;simp only[Act.put];rcases A1.1 m with e|m;simp_all;rw[Bq]at m;obtain⟨m,x⟩:=m;have x:t≠d:=by grind
 obtain⟨a,c⟩:=h t u m;have:(j.tmps.setIfInBounds d b).getD t undef=j.tmps.getD t undef:=by rw[PM,PM,o9 (λe=>x e.symm)]
 grind
def Mz.putO(h:Mz f g j){d:Option Nat}{v:AV}{c:Value}(b: ∀t,d=some t->t<j.tmps.size)(e:BZ f v c):Mz f (g.putO d v) (j.put d c):=by
 cases d with
 |none=>exact h
 |some d=>exact h.put (b d rfl) e
def WX(a:Act)(d:Option Nat)(c:Value):(a.put d c).tmps.size=a.tmps.size:=by cases d<;>simp[Act.put]
def Iv(P:Program)(N:Nat)(o:Oper)(env:Env)(H:Ap)(K:AV->Ap->Prop):Prop:=
 ∀(r:Option Nat) (X:Nat->Prop) (h:Gh) (a:Act) (w:World),St X h N env H a w-> ∀Q:Exit->Act->World->Prop,
  Oper.wpIn (FR r) 0 P o a w (λa' w'=> ∃c v h' H',a'=a.put o.dst c/\K v H'/\BZ (cx X h' H' w') v c/\Ih X h' H' w'/\G2 h H w h' H' w') Q
def Iv.mono{P:Program}{N:Nat}{H:Ap}{d:AV->Ap->Prop}(h:Iv P N o g H K)(i: ∀v b,K v b->d v b):Iv P N o g H d:=λr X j a w s Q=>Oper.wpIn_mono (λ_ _ ⟨c,v,f,b,e,k,r⟩=>⟨c,v,f,b,e,i _ _ k,r⟩) (h r X j a w s Q)
def Op.plain:Op->Bool
 | .defer _=>false
 |_=>true
def Co(n:Op.plain o.op=true)(h: ∀(X:Nat→Prop) (h:Gh) (a:Act) (w:World),St X h N g H a w→ ∀Q:Exit→Act→World→Prop,
  Oper.wp P o a w (λp b=> ∃c v i e,p=a.put o.dst c/\t v e/\BZ (cx X i e b) v c/\Ih X i e b/\G2 h H w i e b) Q):Iv P N o g H t:=by
 intro r X z a w s Q;have d:=h X z a w s Q;refine⟨λ_ _=>trivial,?_⟩;rw[Oper.semAt_eq _ _ _ (λc j=>by rw[j]at n;cases n)];unfold Oper.wp at d;generalize (execOp a.eval o).run P w=res at d;have j: ∀{f:FuncId} {args:Array Value} {b:World} {R:Ending->World->Prop},Calls P f args b R->CallsIn (FR r) (0-1) P f args b R:=by
  intro f args b R K;have m:CallsIn Fence.wide (0-1) P f args b R:=callsIn_wide.2 K;cases r with
  |none=>exact m
  |some l=>exact m
 cases res with
 |ok v b=>
  cases v with
  |enter f args=>exact⟨(λh=>by cases h),j d⟩
  |row row args=>refine⟨(λh=>by cases h),λc q _=>?_⟩;obtain⟨v,k,u,y⟩:=d c q;exact⟨v,k,u,stepsIn_wide.2 y⟩
  |round l f tmps assign body=>exact d.elim
  |_=>exact d
 |halt x b=>cases x<;>exact d
def US(ops:Array Oper)(env:Env)(j:Nat):AV:=
 match (ops[j]?).bind (·.dst)with
 |some d=>env.get d
 |none=>.any
def Vg(ops:Array Oper)(g:Option (Nat×Bool))(env:Env)(A B:Prop):Prop:=
 match g with
 |none=>A
 |some (j,want)=>
  match US ops env j with
  | .bool b=>(b=want->A)/\(b=(!want)->B)
  | .tup []=>B
  |_=>False
def KO(n:Nat)(ops:List Oper):Bool:=ops.all λo=>match o.dst with|some d=>decide (d<n)|none=>true
theorem si{a:Array Oper}(s:Mz f g j){A B:Prop}(h:Vg a o.guard g A B):
  (Region.wanted o (yielded a j.tmps)=true/\A)\/(Region.wanted o (yielded a j.tmps)=false/\B):=by
 unfold Vg at h;unfold Region.wanted;cases v:o.guard with
 |none=>grind
 |some p=>
  obtain⟨y,k⟩:=p;rw[v]at h;simp only at h⊢;cases x:US a g y with
  |bool b=>
   rw[x]at h;simp only at h;have r:yielded a j.tmps y=some b:=by
    unfold US at x;unfold yielded;cases n:(a[y]?).bind (·.dst)with
    |none=>grind
    |some d=>
     rw[n]at x;simp only at x;simp only[AE];rcases NA (env:=g) (t:=d)with e|m;grind;rw[x]at m;obtain⟨q,hr⟩:=s _ _ m;have:j.tmps[d]? =some (.bool b):=by
      have i:j.tmps.getD d undef= .bool b:=by generalize j.tmps.getD d undef=c at hr;cases hr;rfl
      rw[PM]at i;grind[Array.getElem?_eq_getElem]
     rw[this]
   rw[r];by_cases u:b=k;grind;refine .inr ⟨by simp[u],h.2 ?_⟩;cases b<;>cases k<;>simp_all
  |tup w=>
   cases w with
   |cons _ _=>grind
   |nil=>
    rw[x]at h;simp only at h;refine .inr ⟨?_,h⟩;have r:yielded a j.tmps y=none:=by
     unfold US at x;unfold yielded;cases n:(a[y]?).bind (·.dst)with
     |none=>rfl
     |some d=>
      rw[n]at x;simp only at x;simp only[AE];rcases NA (env:=g) (t:=d)with e|m;grind;rw[x]at m;obtain⟨q,hr⟩:=s _ _ m;have i: ∃l,j.tmps.getD d undef= .tuple l:=by generalize j.tmps.getD d undef=c at hr;cases hr;exact⟨_,rfl⟩
      obtain⟨l,i⟩:=i;have:j.tmps[d]? =some (.tuple l):=by simp_all
      rw[this]
    rw[r];rfl
  |_=>grind
section
variable {P:Program} {N:Nat} {env:Env} {H:Ap} {Q:Exit->Env->Ap->Prop}
def L9.cond{x y:Code}{b:Bool}(d:BC env m= .bool b)(h:b=true->L9 P N x env H Q)(f:b=false->L9 P N y env H Q):L9 P N (.cond m x y) env H Q:=by
 intro r X g a w s k;have hr:=Cz s.env m;rw[d]at hr;have e:a.eval m= .bool b:=by generalize a.eval m=v at hr;cases hr;rfl
 apply wpIn_cond e;cases b;exact f rfl r X g a w s k;exact h rfl r X g a w s k
end
mutual
def AV.idsAll(p:Nat->Bool):AV->Bool
 | .ptr id _ _=>p id
 | .sl id _ _ _ _=>p id
 | .yf id=>p id
 | .mp id=>p id
 | .itp id m=>p id&&p m
 | .vptr cs=>AV.idsAllL p cs
 | .vs _ rows=>AV.idsAllL p rows
 | .fn _ a b=>AV.idsAllL p a&&AV.idsAllL p b
 | .agg cs=>AV.idsAllL p cs
 | .tup cs=>AV.idsAllL p cs
 | .bool _| .int _ _| .str _| .nilp| .nils| .nilf| .any=>true
def AV.idsAllL(p:Nat->Bool):List AV->Bool
 |[]=>true
 |v::r=>AV.idsAll p v&&AV.idsAllL p r
end
mutual
def AV.ren(ρ:Nat->Nat):AV->AV
 | .ptr id g off=>.ptr (ρ id) g off
 | .sl id g sz off len=>.sl (ρ id) g sz off len
 | .yf id=>.yf (ρ id)
 | .mp id=>.mp (ρ id)
 | .itp id m=>.itp (ρ id) (ρ m)
 | .vptr cs=>.vptr (AV.renL ρ cs)
 | .vs sz rows=>.vs sz (AV.renL ρ rows)
 | .fn f a b=>.fn f (AV.renL ρ a) (AV.renL ρ b)
 | .agg cs=>.agg (AV.renL ρ cs)
 | .tup cs=>.tup (AV.renL ρ cs)
 | .bool b=>.bool b
 | .int k n=>.int k n
 | .str s=>.str s
 | .nilp=>.nilp
 | .nils=>.nils
 | .nilf=>.nilf
 | .any=>.any
def AV.renL(ρ:Nat->Nat):List AV->List AV
 |[]=>[]
 |v::r=>AV.ren ρ v::AV.renL ρ r
end
theorem Nj(a:Nat->Nat)(l:List AV):AV.renL a l=l.map (AV.ren a):=by induction l<;>grind[AV.renL]
theorem DO(p:Nat->Bool)(l:List AV):AV.idsAllL p l=true↔ ∀v∈l,v.idsAll p=true:=by induction l<;>grind[AV.idsAllL]
theorem L7{p:Nat->Bool}(h:AV.idsAllL p d=true)(a:d[N]? =some e):e.idsAll p=true:=by grind[DO]
theorem qD(a:Nat->Nat)(v:AV):(v.ren a).cells=v.cells.map (AV.ren a):=by cases v<;>simp[AV.ren,AV.cells,Nj]
def S4{p:Nat->Bool}(h:e.idsAll p=true): ∀u∈e.cells,u.idsAll p=true:=by
 cases e<;>simp only[AV.cells,BE]<;>first
  |(intro u a;subst a;exact h)
  |(simp only[AV.idsAll]at h;exact(DO _ _).1 h)
theorem BZ.ren{x y:Cx}{p:Nat→Bool}{ρ:Nat→Nat}(F: ∀id,p id=true→id<x.n→ρ id<y.n∧y.gen (ρ id)=x.gen id∧y.io (ρ id)=x.io id∧y.cap (ρ id)=x.cap id)
  (Y:y.w=x.w) (hO: ∀B,y.O B->x.O B) {v:AV}  (r:BZ x v b):v.idsAll p=true->BZ y (v.ren ρ) b:=by
 induction r with
 |bool c=>exact λ_=>.bool c
 |int k n=>exact λ_=>.int k n
 |str t L=>exact λ_=>.str t L
 |nilp=>exact λ_=>.nilp
 | @ptr id g H b A T E z=>intro q;obtain⟨a,c,d,e⟩:=F id q A;refine .ptr a (by rw[c];exact T) E λC=>?_;rw[c]at C;rw[d];exact z C
 | @vptr cs B H f K S z X M=>intro q;simp only[AV.idsAll]at q;simp only[AV.ren,Nj];refine .vptr f (λo=>K (hO B o)) (by rw[Y];exact S) (λj v l=>?_) λj v l=>?_;grind;grind[Option.some.injEq,L7]
 |nils=>exact λ_=>.nils
 | @vs sz D a cap f P W al ha X M=>
  intro q;simp only[AV.idsAll]at q;simp only[AV.ren,Nj];have I: ∀{j:Nat} {e:AV},(D.map (AV.ren ρ))[j]? =some e-> ∃u,D[j]? =some u/\e=u.ren ρ:=by grind[Option.some.injEq]
  have G: ∀{u:AV} {i:Nat} {v:AV},(u.ren ρ).cells[i]? =some v-> ∃t,u.cells[i]? =some t/\v=t.ren ρ:=by grind[qD,Option.some.injEq]
  have J:(D.map (AV.ren ρ)).length=D.length:=by simp
  rw[<-J];refine .vs f (by rw[J];exact P) W (λj e l=>?_) (λV=>?_) λj e i v l U=>?_;grind[qD,List.length_map];obtain⟨B,H,e,K,S,z⟩:=ha (by simpa using V);refine⟨B,H,e,λo=>K (hO B o),by rw[Y];exact S,λj e i v l U=>?_⟩;obtain⟨u,s,rfl⟩:=I l;obtain⟨t,L,rfl⟩:=G U;rw[Y];exact z j u i t s L;obtain⟨u,s,rfl⟩:=I l;obtain⟨t,L,rfl⟩:=G U;exact M j u i t s L (S4 (L7 q s) _ (BL L))
 | @sl id g sz H len b A T E z=>intro q;obtain⟨a,c,d,e⟩:=F id q A;refine .sl a (by rw[c];exact T) E λC=>?_;rw[c]at C;rw[d,e];exact z C
 | @fn f first N Q R E h2 ap ar Z ad=>
  intro q;simp only[AV.idsAll,BN]at q;simp only[AV.ren,Nj];refine .fn (by simpa using E) (by simpa using h2) (λj v b l z=>?_) λj v b l z=>?_;rw[CC]at l;cases s:first[j]? with
  |none=>rw[s]at l;cases l
  |some u=>rw[s]at l;simp only[Bf,Ai]at l;subst l;exact Z j u b s z (L7 q.1 s)
  rw[CC]at l;cases s:N[j]? with
  |none=>rw[s]at l;cases l
  |some u=>rw[s]at l;simp only[Bf,Ai]at l;subst l;exact ad j u b s z (L7 q.2 s)
 | @yf id b A E z=>intro q;obtain⟨a,c,d,e⟩:=F id q A;refine .yf a E λC=>?_;rw[c]at C;rw[d];exact z C
 | @mp id b A E z=>intro q;obtain⟨a,c,d,e⟩:=F id q A;refine .mp a E λC=>?_;rw[c]at C;rw[d];exact z C
 | @itp id m b A hm E z=>intro q;simp only[AV.idsAll,BN]at q;obtain⟨a,c,d,e⟩:=F id q.1 A;obtain⟨a2,b2,d2,e2⟩:=F m q.2 hm;refine .itp a a2 E λC=>?_;rw[c]at C;rw[d,b2,d2,e];exact z C
 |nilf=>exact λ_=>.nilf
 | @agg cs ao h E X M=>
  intro q;simp only[AV.idsAll]at q;simp only[AV.ren,Nj];refine .agg (by simpa using h) E λj v b l z=>?_;rw[CC]at l;cases s:cs[j]? with
  |none=>rw[s]at l;cases l
  |some u=>rw[s]at l;simp only[Bf,Ai]at l;subst l;exact M j u b s z (L7 q s)
 | @tup vs ax h X M=>
  intro q;simp only[AV.idsAll]at q;simp only[AV.ren,Nj];refine .tup (by simpa using h) λj v b l z=>?_;rw[CC]at l;cases s:vs[j]? with
  |none=>rw[s]at l;cases l
  |some u=>rw[s]at l;simp only[Bf,Ai]at l;subst l;exact M j u b s z (L7 q s)
 |any b=>exact λ_=>.any b
mutual
theorem vD{p:Nat->Bool}{d:Nat->Nat}(c: ∀id,p id=true->d id=id): ∀v:AV,v.idsAll p=true->v.ren d=v
 | .ptr id g off,h=>by simp only[AV.ren,c id h]
 | .sl id g sz off len,h=>by simp only[AV.ren,c id h]
 | .yf id,h=>by simp only[AV.ren,c id h]
 | .mp id,h=>by simp only[AV.ren,c id h]
 | .itp id m,h=>by simp only[AV.idsAll,BN]at h;simp only[AV.ren,c id h.1,c m h.2]
 | .vptr cs,h=>by simp only[AV.ren,VU c cs h]
 | .vs sz rows,h=>by simp only[AV.ren,VU c rows h]
 | .fn f a b,h=>by simp only[AV.idsAll,BN]at h;simp only[AV.ren,VU c a h.1,VU c b h.2]
 | .agg cs,h=>by simp only[AV.ren,VU c cs h]
 | .tup cs,h=>by simp only[AV.ren,VU c cs h]
 | .bool _,_=>rfl
 | .int _ _,_=>rfl
 | .str _,_=>rfl
 | .nilp,_=>rfl
 | .nils,_=>rfl
 | .nilf,_=>rfl
 | .any,_=>rfl
theorem VU{p:Nat->Bool}{b:Nat->Nat}(a: ∀id,p id=true->b id=id): ∀l:List AV,AV.idsAllL p l=true->AV.renL b l=l
 |[],_=>rfl
 |v::r,h=>by simp only[AV.idsAllL,BN]at h;simp only[AV.renL,vD a v h.1,VU a r h.2]
end
def tI(P:Program)(t:TypeId):Option (Bool×Nat):=
 match P.info? t,P.underlying t with
 |some i,some d=>some ((match d with| .struct _| .array _ _=>true|_=>false),i.size)
 |_,_=>none
def Vc(h:tI P a=some (r,N))(w:World):(isAgg a).run P w= .ok r w:=by unfold tI at h;split at h;rename_i i d c t;unfold isAgg;simp only[Sem.run_bind,run_underlying t,Result.andThen_ok];split<;>simp_all;cases h
def Kc{P:Program}(h:tI P a=some (r,N))(w:World):(sizeOf a).run P w= .ok N w:=by unfold tI at h;split at h;rename_i i d t c;simp at h;simp[sizeOf,typeInfo,t,h.2];cases h
def Oy(H:Ap):AV->Nat->Option (List AV)
 | .ptr id g off,n=>
  match H[id]? with
  |some (.live g' cs)=>if g=g'/\off+n<=cs.length then some ((cs.drop off).take n)else none
  |_=>none
 | .vptr cs,n=>if n<=cs.length then some (cs.take n)else none
 |_,_=>none
def gX(x:Cx)(vs:List AV)(cs:List Value):Prop:=cs.length=vs.length/\ ∀(j:Nat) (v:AV) (c:Value),vs[j]? =some v->cs[j]? =some c->BZ x v c
theorem Nv(B a j:Nat):(⟨B,a,none⟩:Addr).add j=⟨B,a+j,none⟩:=by grind[Addr.add]
theorem Og{w:World}(h:w.heap[N]? =some (.cells i a u))(b:Nat):w.cell? ⟨N,b,none⟩=i[b]? :=by grind[World.cell?]
theorem oJ(s:Ih c h H w)(r:BZ (cx c h H w) e b)(hr:Oy H e N=some G):
  ∃(B a:Nat) (k:List Value),b= .pointer (some ⟨B,a,none⟩)/\k.length=N/\(∀j u,k[j]? =some u->w.cell? ((⟨B,a,none⟩:Addr).add j)=some u/\u.oneCell'=true)/\gX (cx c h H w) G k:=by
 cases r with
 | @ptr id g a b O Z V x=>
  simp only[Oy]at hr;split at hr;rename_i U k L;split at hr;rename_i m;obtain⟨rfl,F⟩:=m;simp only[Ai]at hr;subst hr;obtain⟨t,q⟩:=s.live id g k L;obtain⟨B,o,rfl⟩:=x t;rcases q with⟨hn,_⟩|⟨D,I,T,S,f,l,K,E,A,M,i⟩;rw[hn]at o;cases o;have:D=B:=by rw[show(cx c h H w).io id=some B from o]at l;injection l with v;exact v.symm
  subst this;refine⟨D,a,(List.range N).map (λj=>f (a+j)),rfl,by simp,?_,?_,?_⟩;intro j u p;have X:j<N:=by grind[Nat.lt_or_ge,List.getElem?_eq_none]
  have Q:u=f (a+j):=by grind[List.getElem?_range]
  subst Q;have y:k[a+j]? =some (k[a+j]'(by omega)):=Aw (by omega);obtain⟨J,P,_⟩:=i _ _ y;rw[Nv,Og (w:=w) K];exact⟨J,P⟩;grind[List.length_map,List.length_range,List.length_take,List.length_drop];grind[Nat.lt_or_ge,List.getElem?_eq_none,List.getElem?_range,Option.some.injEq];cases hr;cases hr
 | @vptr k B a f Y W x R=>
  simp only[Oy]at hr;split at hr;rename_i A;simp only[Ai]at hr;subst hr;refine⟨B,a,(List.range N).map f,rfl,by simp,?_,?_,?_⟩;intro j u p;have X:j<N:=by grind[Nat.lt_or_ge,List.getElem?_eq_none]
  rw[CC,Rl X]at p;simp only[Bf,Ai]at p;subst p;rw[Nv];exact x j _ (Aw (by omega));grind[List.length_map,List.length_range,List.length_take];intro j u d p z;have X:j<N:=by rcases Ao j N with C|n;exact C;simp_all[Ck]
  rw[Yw,if_pos X]at p;rw[CC,Rl X]at z;simp only[Bf,Ai]at z;subst z;exact R j u p;cases hr
 |_=>simp only[Oy]at hr;cases hr
def cQ(P:Program)(t:TypeId)(H:Ap)(v:AV):Option AV:=
 match tI P t with
 |some (true,n)=>(Oy H v n).map AV.agg
 |some (false,_)=>(Oy H v 1).bind List.head?
 |none=>none
theorem tC(s:Ih c h H w)(r:BZ (cx c h H w) e b)(X:cQ P a H e=some n):
  ∃B t l,b= .pointer (some ⟨B,t,none⟩)/\(loadVar a ⟨B,t,none⟩).run P w= .ok l w/\BZ (cx c h H w) n l:=by
 unfold cQ at X;split at X;rename_i u g;cases hr:Oy H e u with
 |none=>grind
 |some o=>rw[hr]at X;simp at X;subst X;obtain⟨B,t,f,rfl,d,k,v⟩:=oJ s r hr;refine⟨B,t,.agg f.toArray,rfl,?_,?_⟩;unfold loadVar;simp only[Sem.run_bind,Vc g,Result.andThen_ok,if_true,Kc g];subst d;rw[run_loadCells_list w ⟨B,t,none⟩ f λj e i=>(k j e i).1];rfl;refine .agg (by simpa using v.1) (λj b i=>?_) λj e b i p=>?_;grind;exact v.2 j e b i (by grind)
 rename_i u g;cases hr:Oy H e 1 with
 |none=>grind
 |some o=>
  rw[hr]at X;simp at X;obtain⟨B,t,f,rfl,d,k,v⟩:=oJ s r hr;match f,d with
  |[c0],_=>
   match o,v.1 with
   |[u0],_=>simp at X;subst X;refine⟨B,t,c0,rfl,?_,v.2 0 _ _ rfl rfl⟩;unfold loadVar;have m:=(k 0 c0 rfl).1;simp only[Addr.add,if_true]at m;simp[Vc g,m]
 cases X
def iI(P:Program)(env:Env)(H:Ap):ResultVar->Option AV
 | .tmp t=>some (env.get t)
 | .cell a t=>cQ P t H (env.get a)
def RN(P:Program)(env:Env)(H:Ap):List ResultVar->Option (List AV)
 |[]=>some []
 |r::rs=>
  match iI P env H r,RN P env H rs with
  |some v,some vs=>some (v::vs)
  |_,_=>none
def Z8(P:Program)(fn:Func)(env:Env)(H:Ap):Option AV:=
 match RN P env H fn.results.toList with
 |some [v]=>some v
 |some vs=>some (.tup vs)
 |none=>none
def dj(h:Mz f g j)(t:Nat):BZ f (g.get t) (j.tmps.getD t undef):=Cz h (.tmp t)
def oL(tmps:Array Value):ResultVar->Sem Value
 | .tmp t=>pure (tmps.getD t undef)
 | .cell a t=>do loadVar t (<-asAddr (tmps.getD a undef))
def oM(b:Func)(tmps:Array Value):results b tmps=(do
  let a<-b.results.mapM (oL tmps);pure (if h:a.size=1 then a[0]else .tuple a)):=rfl
theorem lr{P:Program}{N:Nat}{X:Nat→Prop}{h:Gh}{env:Env}{H:Ap}{a:Act}{w:World}(s:St X h N env H a w): ∀(g:List ResultVar) (i:List AV),RN P env H g=some i→
  ∃f,Sem.run P (g.mapM (oL a.tmps)) w= .ok f w/\gX (cx X h H w) i f
 |[],i,hv=>by simp only[RN,Ai]at hv;subst hv;exact⟨[],rfl,rfl,λ_ _ _ h=>by cases h⟩
 |r::g,i,hv=>by
  simp only[RN]at hv;split at hv;rename_i v l k n;simp at hv;subst hv;obtain⟨f,o,b⟩:=lr s g l n;have e: ∃c,Sem.run P (oL a.tmps r) w= .ok c w/\BZ (cx X h H w) v c:=by
   cases r with
   |tmp t=>simp only[iI,Ai]at k;subst k;exact⟨_,rfl,dj s.env t⟩
   |cell x t=>obtain⟨B,y,m,p,q,hr⟩:=tC s.sim (dj s.env x) k;refine⟨m,?_,hr⟩;simp only[oL,p];simp[asAddr,q]
  obtain⟨c,z,hr⟩:=e;refine⟨c::f,?_,by simpa using b.1,?_⟩;simp_all;intro j u d C A;cases j with
  |zero=>grind
  |succ j=>exact b.2 j u d (by grind) (by grind)
  cases hv
theorem xW(s:St c h N g H j w)(d:Z8 P E g H=some e):
  ∃X,(results E j.tmps).run P w= .ok X w/\BZ (cx c h H w) e X:=by
 unfold Z8 at d;cases a:RN P g H E.results.toList with
 |none=>grind
 |some l=>
  rw[a]at d;obtain⟨f,m,b⟩:=lr s _ l a;have n:Sem.run P (E.results.mapM (oL j.tmps)) w= .ok f.toArray w:=by grind[Array.mapM_eq_mapM_toList,Sem.run_map,Result.andThen_ok]
  rw[oM];simp only[Sem.run_bind,n];simp only[Result.andThen_ok,Sem.run_pure,Result.ok.injEq,and_true,exists_eq_left'];match l,b with
  |[],b=>simp at d;subst d;have:f=[]:=EU (by simpa using b.1);subst this;exact .tup rfl λv e X i _=>by cases i
  |[v0],b=>
   simp at d;subst d;match f,b.1 with
   |[c0],_=>exact b.2 0 _ _ rfl rfl
  |v0::v1::r,b=>
   simp at d;subst d;have k:f.toArray.size≠1:=by rw[aH,b.1];simp
   rw[dif_neg k];exact .tup (by simpa using b.1) λv e X i o=>b.2 v e X i (by grind)
def Mn(n0:Nat)(v:AV)(H:Ap)(v2:AV)(H2:Ap):Prop:=
 n0<=H2.length/\ ∀(X:Nat->Prop) (h:Gh) (w:World) (c:Value),Ih X h H w->BZ (cx X h H w) v c->
  ∃h2,Ih X h2 H2 w/\BZ (cx X h2 H2 w) v2 c/\(∀id,id<n0->h2.gen id=h.gen id/\h2.io id=h.io id/\h2.cap id=h.cap id)/\ ∀B,owned h2 H2 B->owned h H B
def Mn.refl(v:AV)(H:Ap)(hn:N<=H.length):Mn N v H v H:=⟨hn,λ_ h _ _ s r=>⟨h,s,r,λ_ _=>⟨rfl,rfl,rfl⟩,λ_ h=>h⟩⟩
def AD9(P:Program)(fn:Func)(n0:Nat)(Q:AV->Ap->Prop):Exit->Env->Ap->Prop
 | .normal,env,H| .ret,env,H=> ∃v v2 H2,Z8 P fn env H=some v/\Mn n0 v H v2 H2/\Q v2 H2
 |_,_,_=>False
def env0:Nat->List AV->Env
 |_,[]=>[]
 |i,v::r=>(i,v)::env0 (i+1) r
theorem nJ{t:Nat}{v:AV}: ∀{i:Nat} {l:List AV},(t,v)∈env0 i l->i<=t/\l[t-i]? =some v
 |i,u::r,h=>by simp only[env0,A1]at h;rcases h with⟨rfl,rfl⟩|h;simp;obtain⟨a,b⟩:=nJ h;grind
theorem gA{y:Option (List Deferred)}(b:w.heap[N]? =some (.deferred k))(B a:Nat):(w.putObj N (.deferred y)).cell? ⟨B,a,none⟩=w.cell? ⟨B,a,none⟩:=by grind[World.cell?,World.putObj_heap_same,World.putObj_heap_other]
def Ih.shut(s:Ih c h H w){x y:Option (List Deferred)}(J:w.heap[N]? =some (.deferred x)):
  (cx c h H w).Later (cx c h H (w.putObj N (.deferred y)))/\Ih c h H (w.putObj N (.deferred y)):=by
 have C:(cx c h H w).Later (cx c h H (w.putObj N (.deferred y))):=⟨by simp[cx],λB _ _ G=>gA J B G,λ_ _ h=>h,Ag _,λ_ _=>Ag _,λ_ _ _=>⟨rfl,rfl⟩⟩
 have d: ∀{B:Nat} {o:Obj},w.heap[B]? =some o->(∀z,o≠ .deferred z)->(w.putObj N (.deferred y)).heap[B]? =some o:=by intro B o a F;by_cases i:B=N;subst i;rw[J]at a;injection a with e;exact(F x e.symm).elim;rw[World.putObj_heap_other i,a]
 refine⟨C,λB a=>⟨by simpa using(s.out B a).1,(s.out B a).2⟩,λid g K l=>?_,λid L l=>?_,s.inj,s.bldKeep λid e l _=>⟨l,rfl,rfl,rfl,λB o _ a F=>(d a F).trans a.symm⟩⟩;obtain⟨A,n⟩:=s.live id g K l;refine⟨A,?_⟩;rcases n with⟨hn,rfl⟩|⟨B,p,T,M,f,X,q,k,E,u,b⟩;exact .inl ⟨hn,rfl⟩;refine .inr ⟨B,p,T,M,f,X,d q (λz=>by simp),k,E,u,λj v U=>?_⟩;obtain⟨V,W,Y⟩:=b j v U;exact⟨V,W,Y.later C⟩;obtain⟨A,B,r,X,q,D,O,P,Q,R,S,I⟩:=s.lp id L l;exact⟨A,B,r,X,d q (λz=>by simp),D,O,P,Q,R,S,λt v m=>⟨(I t v m).1,(I t v m).2.later C⟩⟩
theorem G2.shut(x:G2 h H w I J A){y z:Option (List Deferred)}(d:w.heap.size<=N)(e:A.heap[N]? =some (.deferred z)):G2 h H w I J (A.putObj N (.deferred y))where
 os:=x.os
 tape:=x.tape
 output:=x.output
 size:=by simpa using x.size
 keep B hB hn:=by rw[World.putObj_heap_other (by omega)];exact x.keep B hB hn
 n:=x.n
 gen:=x.gen
 same:=x.same
 fresh:=x.fresh
 loops B r hB:=by obtain⟨f,I⟩:=x.loops B r hB;grind[World.putObj_heap_other]
def br{P:Program}{A:Func}{N:Nat}{X:Nat→Prop}{g h:Gh}{H b p:Ap}{z:World}{v t:AV}{f:Env}{a:Act}{Q:AV→Ap→Prop}(o:Z8 P A f b=some v)(j:Mn H.length v b t p)(B:Q t p):
  ∀(i:List Deferred) (w:World),i.Nodup->(∀d∈i,∃D,d={target:=.collected D,args:= #[]}/\z.heap.size<=D/\w.heap[D]? =some (.deferred (some [])))->
   St X h N f b a w->G2 g H z h b w->
   LeavesInM Fence.wide 0 P A a.tmps (λe u=> ∃c v h b,e= .returned c/\Q v b/\Ih X h b u/\BZ (cx X h b u) v c/\G2 g H z h b u) i .returning w
 |[],w,_,_,s,x=>by obtain⟨c,m,l⟩:=xW s o;obtain⟨J,n,r,I,K⟩:=j.2 X h w c s.sim l;exact⟨c,m,c,t,J,p,rfl,B,n,r,Fs.ext rfl j.1 I K x⟩
 |d::i,w,hnd,hds,s,x=>by obtain⟨D,rfl,G,q⟩:=hds d (by simp);simp only[Fz]at hnd;refine⟨by simp,.inl ⟨D,_,rfl,run_takeDeferred q,?_⟩⟩;have C:=s.sim.shut (y:=none) q;refine br o j B i _ hnd.2 (λF k=>?_) ⟨C.2,s.env.later C.1,s.size⟩ (x.shut G q);obtain⟨E,rfl,o,j⟩:=hds F (CN _ k);refine⟨E,rfl,o,?_⟩;rw[World.putObj_heap_other,j];rintro rfl;exact hnd.1 k
theorem Jd(b:P.funcs[z]? =some E)(C:E.body=some q)(hn:d.length≤E.ntmps)
  (I:L9 P E.ntmps q (env0 0 d) H (AD9 P E H.length t)):EQ P z d H t:=by
 intro X g w a s M hr;have D:Mz (cx X g H w) (env0 0 d) {tmps:=a++Array.replicate (E.ntmps-a.size) undef,defers:=[]}:=by
  intro F v m;obtain⟨_,N⟩:=nJ m;have G:F<d.length:=by grind
  have L:a[F]? =some (a[F]'(by omega)):=OP (by omega);have:(a++Array.replicate (E.ntmps-a.size) undef).getD F undef=a[F]'(by omega):=by simp_all[Yr]
  grind
 refine(callsIn_wide (n:=0)).1 (callsIn_of_wp_marks b C trivial (wpIn_mono (I none X g {tmps:=a++Array.replicate (E.ntmps-a.size) undef,defers:=[]} w ⟨s,D,by simp;omega⟩ (λl e=>by cases e)) ?_));rintro e Q i ⟨u,j,O,c,J,K,A,B,y,x⟩;have k: ∀v h f,Z8 P E j O=some v->Mn H.length v O h f->t h f->LeavesInM Fence.wide 0 P E Q.tmps (λe i=> ∃q v u O,e= .returned q/\t v O/\Ih X u O i/\BZ (cx X u O i) v q/\G2 g H w u O i) Q.defers .returning i:=by intro v h f o p r;rw[B,D8];exact br o p r A i y x J K
 cases e with
 |normal=>obtain⟨v,h,f,o,p,r⟩:=c;exact k v h f o p r
 |ret=>obtain⟨v,h,f,o,p,r⟩:=c;exact k v h f o p r
 |_=>exact c.elim
def Enters(P:Program)(F:FuncId):Bool:=
 match P.funcs[F]? with
 |some fn=>fn.body.isSome&& !(fn.name== "runtime.NumGoroutine")
 |none=>false
def VV(h:Enters P z=true)(args:Array Value)(w:World):(callFunc z args).run P w= .ok (.enter z args) w:=by unfold Enters at h;split at h;rename_i a c;unfold callFunc;cases b:a.body<;>simp_all;cases h
def Ec.ren(ρ:Nat->Nat):Ec->Ec
 | .dead=>.dead
 | .live g cs=>.live g (AV.renL ρ cs)
 | .lp L=>.lp {L with env:=L.env.map λp=>(p.1,p.2.ren ρ)}
 | .bld T e row l=>.bld T e (ρ row) l
 | .brow o=>.brow (ρ o)
 | .mp k es=>.mp k es
 | .it n s=>.it n s
def Ec.idsAll(p:Nat->Bool):Ec->Bool
 | .dead=>true
 | .live _ cs=>AV.idsAllL p cs
 | .lp L=>L.env.all λq=>q.2.idsAll p
 | .bld _ _ row _=>p row
 | .brow o=>p o
 | .mp _ _=>true
 | .it _ _=>true
def XI(H:Ap)(bs:List Nat):Ap:=bs.map λb=>(H.getD b .dead).ren (bs.idxOf ·)
def M4(H:Ap)(bs:List Nat)(j:Nat):Nat:=if j<bs.length then bs.getD j 0 else H.length+(j-bs.length)
def Yn(ρ:Nat->Nat):Ap->List Nat->Ap->Ap
 |H,b::bs,e::es=>Yn ρ (H.set b (e.ren ρ)) bs es
 |H,_,_=>H
def Rb(H:Ap)(bs:List Nat)(Hc:Ap):Ap:=Yn (M4 H bs) H bs Hc++(Hc.drop bs.length).map (Ec.ren (M4 H bs))
def RD(c:Nat->Nat): ∀(bs:List Nat) (H a:Ap),(Yn c H bs a).length=H.length
 |[],H,a=>by cases a<;>rfl
 |b::bs,H,[]=>rfl
 |b::bs,H,e::es=>by simp only[Yn];rw[RD c bs];simp
def cC(c:Nat->Nat){id:Nat}: ∀(bs:List Nat) (H a:Ap),id∉bs->(Yn c H bs a)[id]? =H[id]?
 |[],H,a,_=>by cases a<;>rfl
 |b::bs,H,[],_=>rfl
 |b::bs,H,e::es,h=>by simp only[A1,not_or]at h;simp only[Yn];rw[cC c bs _ _ h.2,Dt (λe=>h.1 e.symm)]
def qH(a:Nat->Nat): ∀(bs:List Nat) (H c:Ap) (j b:Nat),bs.Nodup->bs[j]? =some b->b<H.length->bs.length<=c.length->(Yn a H bs c)[b]? =(c[j]?).map (Ec.ren a)
 |[],_,_,_,_,_,hj,_,_=>by simp at hj
 |b0::bs,H,[],_,_,_,_,_,hl=>by simp at hl
 |b0::bs,H,e::es,j,b,hnd,hj,hb,hl=>by
  simp only[Fz]at hnd;simp only[Yn];cases j with
  |zero=>simp at hj;subst hj;rw[cC a bs _ _ hnd.1];simp[hb]
  |succ j=>simp at hj;rw[qH a bs _ es j b hnd.2 hj (by simpa using hb) (by simpa using hl)];simp
theorem eF(h:N∈p):p.idxOf N<p.length:=List.idxOf_lt_length_of_mem h
theorem WU(h:N∈p):p[p.idxOf N]? =some N:=by grind
theorem Z3(a:p.Nodup)(h:p[N]? =some s):p.idxOf s=N:=by grind
section
variable {X:Nat->Prop} {h:Gh} {H:Ap} {w:World} {bs:List Nat}
mutual
theorem lZ: ∀v:AV,v.idsAll (λ_=>true)=true
 | .itp _ _=>rfl
 | .ptr _ _ _=>rfl
 | .sl _ _ _ _ _=>rfl
 | .yf _=>rfl
 | .mp _=>rfl
 | .vptr c=>OL c
 | .vs _ d=>OL d
 | .fn _ a b=>by simp only[AV.idsAll,OL a,OL b,Rj]
 | .agg c=>OL c
 | .tup c=>OL c
 | .bool _| .int _ _| .str _| .nilp| .nils| .nilf| .any=>rfl
theorem OL: ∀l:List AV,AV.idsAllL (λ_=>true) l=true
 |[]=>rfl
 |v::r=>by simp only[AV.idsAllL,lZ v,OL r,Rj]
end
def Xs(X:Nat->Prop)(h:Gh)(H:Ap)(bs:List Nat)(B:Nat):Prop:=X B\/ ∃id e,id∉bs/\H[id]? =some e/\e≠Ec.dead/\h.io id=some B
def T5(h:Gh)(bs:List Nat):Gh:=⟨λj=>(bs[j]?).bind h.io,λj=>((bs[j]?).map h.gen).getD 0,λj=>((bs[j]?).map h.cap).getD 0⟩
def tW:l.ren v= .dead↔l= .dead:=by cases l<;>simp[Ec.ren]
theorem cF(d:(XI H bs)[N]? =some l)(c:l≠ .dead): ∃b a,bs[N]? =some b/\H[b]? =some a/\a≠ .dead/\l=a.ren (bs.idxOf ·):=by grind[XI,Ec.ren]
theorem zr(e:(XI H bs)[N]? =some (Ec.live s d)): ∃b a,bs[N]? =some b/\H[b]? =some (Ec.live s a)/\d=AV.renL (bs.idxOf ·) a:=by obtain⟨b,j,h,f,_,i⟩:=cF e (by simp);cases j<;>grind[Ec.ren]
theorem Z7(d:owned (T5 h bs) (XI H bs) N): ∃b e,b∈bs/\H[b]? =some e/\e≠Ec.dead/\h.io b=some N:=by obtain⟨j,e,f,c,a⟩:=d;grind[cF,T5]
theorem rU(x:Nat)(c:decide (x∈bs)=true)(_:x<(cx X h H w).n):
  bs.idxOf x<(cx (Xs X h H bs) (T5 h bs) (XI H bs) w).n/\(cx (Xs X h H bs) (T5 h bs) (XI H bs) w).gen (bs.idxOf x)=(cx X h H w).gen x/\(cx (Xs X h H bs) (T5 h bs) (XI H bs) w).io (bs.idxOf x)=(cx X h H w).io x/\(cx (Xs X h H bs) (T5 h bs) (XI H bs) w).cap (bs.idxOf x)=(cx X h H w).cap x:=by
 have a:x∈bs:=by grind
 have b:=WU a;refine⟨by simpa[cx,XI]using eF a,?_,?_,?_⟩<;>simp[cx,T5,b]
def zt(B:Nat)(a:(cx (Xs X h H bs) (T5 h bs) (XI H bs) w).O B):(cx X h H w).O B:=by rcases a with(a|⟨id,e,_,d,c,f⟩)|a;exact .inl a;exact .inr ⟨id,e,d,c,f⟩;obtain⟨b,e,_,d,c,f⟩:=Z7 a;exact .inr ⟨b,e,d,c,f⟩
theorem M5{w:World}(h:w.heap[N]? =some F):N<w.heap.size:=by grind
theorem Ih.io_at(e:Ih X h H w)(c:H[N]? =some l)(x:l≠ .dead)(b:h.io N=some s):s<w.heap.size:=by
 cases l with
 |dead=>grind
 |live g t=>obtain⟨_,hn|⟨i,d,T,u,f,a,m,_⟩⟩:=e.live N g t c;rw[show(cx X h H w).io N=h.io N from rfl,b]at hn;grind;rw[show(cx X h H w).io N=h.io N from rfl,b]at a;injection a with l;subst l;exact M5 m
 |lp L=>obtain⟨_,i,r,a,m,_⟩:=e.lp N L c;rw[show(cx X h H w).io N=h.io N from rfl,b]at a;injection a with l;subst l;exact M5 m
 |bld T z y B=>obtain⟨i,p,v,q,j,_⟩:=e.bld N _ c rfl;grind[M5]
 |brow o=>obtain⟨d,T,u,j⟩:=e.bld N _ c rfl s b;grind
 |mp k A=>obtain⟨i,d,q,_,j,_⟩:=e.bld N _ c rfl;grind[M5]
 |it n seen=>obtain⟨i,q,_,j⟩:=e.bld N _ c rfl;grind[M5]
def ZY:(l.ren v).isB=l.isB:=by cases l<;>rfl
def BAt.ren{h h':Gh}{H H':Ap}{w w':World}{id id':Nat}{ρ:Nat→Nat}(b:BAt h H w id l)(f:h'.io id'=h.io id)(d:h'.gen id'=h.gen id)(r:h'.cap id'=h.cap id)(s: ∀B (o:Obj),h.io id=some B→w.heap[B]? =some o→w'.heap[B]? =w.heap[B]?)
  (hr: ∀T u a e,l= .bld T u a e->H'[ρ a]? =some (.brow id')->H[a]? =some (.brow id)/\h'.io (ρ a)=h.io a/\ ∀B (o:Obj),h.io a=some B->w.heap[B]? =some o->w'.heap[B]? =w.heap[B]?):BAt h' H' w' id' (l.ren ρ):=by
 cases l with
 |bld T u a e=>obtain⟨B,p,v,c,m,j,y,G,F⟩:=b;refine⟨B,p,v,f.trans c,(s B _ c m).trans m,j,d.trans y,G,λA=>?_⟩;obtain⟨z,C,K⟩:=hr T u a e rfl A;obtain⟨q1,q2⟩:=F z;refine⟨⟨q1.1,?_⟩,q2.trans C.symm⟩;rcases q1.2 with q|⟨g,cap,t,x,rfl,I,E,J⟩;exact .inl q;refine .inr ⟨g,cap,t,x,rfl,I,(K g _ ?_ E).trans E,J⟩;simpa[Value.ownBlock]using q2.symm
 |brow o=>intro B D;obtain⟨i,T,x,c⟩:=b B (f▸D);exact⟨i,T,x,(s B _ (f▸D) c).trans c⟩
 |mp k L=>obtain⟨B,i,c,m,j,y⟩:=b;exact⟨B,i,f.trans c,d.trans m,(s B _ c j).trans j,y⟩
 |it n seen=>obtain⟨B,c,m,j⟩:=b;exact⟨B,f.trans c,d.trans m,by rw[r];exact(s B _ c j).trans j⟩
 |_=>trivial
theorem Ih.sub(s:Ih X h H w)(U:bs.Nodup)(hb: ∀b∈bs,((H.getD b .dead).idsAll λid=>decide (id∈bs))=true):Ih (Xs X h H bs) (T5 h bs) (XI H bs) w where
 out B A:=by have V: ¬(∃b e,b∈bs/\H[b]? =some e/\e≠Ec.dead/\h.io b=some B)-> ¬owned (T5 h bs) (XI H bs) B:=λhn ho=>hn (Z7 ho);rcases A with A|⟨id,e,a0,c,C,n⟩;exact⟨(s.out B A).1,V λ⟨b,e,_,c,C,n⟩=>(s.out B A).2 ⟨b,e,c,C,n⟩⟩;exact⟨s.io_at c C n,V λ⟨b,e',hm,D,K,M⟩=>a0 (s.inj id b e e' B c D C K n M▸hm)⟩
 live j g cs hj:=by
  obtain⟨b,J,a,N,rfl⟩:=zr hj;obtain⟨G,S⟩:=s.live b g J N;refine⟨by simpa[cx,T5,a]using G,?_⟩;rcases S with⟨hn,rfl⟩|⟨B,W,T,fz,f,F,k,R,a1,ax,x⟩;exact .inl ⟨by simpa[cx,T5,a]using hn,rfl⟩;refine .inr ⟨B,W,T,fz,f,by simpa[cx,T5,a]using F,k,by simpa[cx,T5,a]using R,by rw[Nj,Da];exact a1,ax,?_⟩;intro i v I;rw[Nj,CC]at I;cases hu:J[i]? with
  |none=>rw[hu]at I;cases I
  |some u=>rw[hu]at I;simp only[Bf,Ai]at I;subst I;obtain⟨c,n,D⟩:=x i u hu;refine⟨c,n,BZ.ren (p:=λid=>decide (id∈bs)) (λid=>rU id) rfl zt D ?_⟩;have:=hb b (BL a);grind[L7,Ec.idsAll]
 lp j L hj:=by
  obtain⟨b,Z,a,N,C,y⟩:=cF hj (by simp);cases Z with
  |dead=>exact(C rfl).elim
  |live g cs=>simp[Ec.ren]at y
  |bld=>simp[Ec.ren]at y
  |brow=>simp[Ec.ren]at y
  |mp=>simp[Ec.ren]at y
  |it=>simp[Ec.ren]at y
  |lp L0=>simp only[Ec.ren,Ec.lp.injEq]at y;subst y;obtain⟨G,B,r,F,k,c,n,D,M,h5,h6,h7⟩:=s.lp b L0 N;refine⟨by simpa[cx,T5,a]using G,B,r,by simpa[cx,T5,a]using F,k,c,n,D,M,h5,h6,λt v m=>?_⟩;obtain⟨q,hq,e⟩:=Br.1 m;simp only[Dq]at e;obtain⟨rfl,rfl⟩:=e;refine⟨(h7 q.1 q.2 hq).1,BZ.ren (p:=λid=>decide (id∈bs)) (λid=>rU id) rfl zt (h7 q.1 q.2 hq).2 ?_⟩;have:=hb b (BL a);grind[Ec.idsAll,List.all_eq_true]
 inj i i' e e' B c n hn1 hn2 D M:=by obtain⟨b,c0,P,al,ap,_⟩:=cF c hn1;obtain⟨b',Y,Q,ao,ar,_⟩:=cF n hn2;have e:=s.inj b b' c0 Y B al ao ap ar (by simpa[T5,P]using D) (by simpa[T5,Q]using M);subst e;rw[<-Z3 U P,<-Z3 U Q]
 bld j e hj A:=by
  obtain⟨b,Z,a,N,C,rfl⟩:=cF hj (by rintro rfl;cases A);rw[ZY]at A;refine(s.bld b Z N A).ren (by simp[T5,a]) (by simp[T5,a]) (by simp[T5,a]) (λ_ _ _ _=>rfl) λT e1 z l y hr=>?_;subst y;obtain⟨b',ad,d,O,K,E⟩:=cF hr (by simp);have hm:z∈bs:=by grind[List.mem_of_getElem?,Ec.idsAll]
  have G:bs[bs.idxOf z]? =some z:=by grind[List.getElem?_eq_getElem,eF]
  rw[G]at d;injection d with d;subst d;refine⟨?_,by simp[T5,G],λ_ _ _ _=>rfl⟩;cases ad with
  |brow o=>
   simp only[Ec.ren,Ec.brow.injEq]at E;have a2:o∈bs:=by have:=hb z hm;rw[I5,O]at this;simpa[Ec.idsAll]using this
   have c:=WU a2;rw[<-E,a]at c;injection c with c;rw[c];exact O
  |_=>simp[Ec.ren]at E
def Ld(h:Gh)(H:Ap)(bs:List Nat)(hc:Gh):Gh:=
 let pick {α:Type} (f fc:Nat->α) (id:Nat):α:=if id∈bs then fc (bs.idxOf id)else if id<H.length then f id else fc (bs.length+(id-H.length))
 ⟨pick h.io hc.io,pick h.gen hc.gen,pick h.cap hc.cap⟩
def gR:(Rb H bs J).length=H.length+(J.length-bs.length):=by simp[Rb,RD]
def Rc(h:bs.Nodup)(k:bs.length≤J.length)(a:(Rb H bs J)[N]? =some l):
  (N∉bs/\N<H.length/\H[N]? =some l)\/ ∃j f,N=M4 H bs j/\J[j]? =some f/\l=f.ren (M4 H bs):=by
 unfold Rb at a;rcases Ao N H.length with b|b;rw[B6 (by rw[RD];exact b)]at a;by_cases g:N∈bs;have i:=WU g;rw[qH _ bs H J _ N h i b k]at a;cases d:J[bs.idxOf N]? with
 |none=>rw[d]at a;cases a
 |some f=>rw[d]at a;simp only[Bf,Ai]at a;refine .inr ⟨bs.idxOf N,f,?_,d,a.symm⟩;unfold M4;rw[if_pos (eF g),I5,i];rfl
 rw[cC _ bs H J g]at a;exact .inl ⟨g,b,a⟩;rw[Cb (by rw[RD];exact b),RD,CC,J6]at a;cases d:J[bs.length+(N-H.length)]? with
 |none=>rw[d]at a;cases a
 |some f=>rw[d]at a;simp only[Bf,Ai]at a;refine .inr ⟨_,f,?_,d,a.symm⟩;unfold M4;rw[if_neg (by omega)];omega
theorem Vr{hc:Gh}(f:bs.Nodup)(a: ∀b∈bs,b<H.length)(j:Nat)(g:j<J.length):
  M4 H bs j<(Rb H bs J).length/\(Ld h H bs hc).gen (M4 H bs j)=hc.gen j/\(Ld h H bs hc).io (M4 H bs j)=hc.io j/\(Ld h H bs hc).cap (M4 H bs j)=hc.cap j:=by
 rw[gR];unfold M4;split;grind[Ld];have c:H.length+(j-bs.length)∉bs:=λc=>by have:=a _ c;omega
 have e:bs.length+(H.length+(j-bs.length)-H.length)=j:=by omega
 simp only[Ld,c,if_false,show¬(H.length+(j-bs.length)<H.length)from by omega,e,and_true];omega
theorem iG(c:bs.Nodup)(k: ∀b∈bs,b<H.length)(r:bs.length≤J.length)(s:owned (Ld h H bs I) (Rb H bs J) N):
  (∃id e,id∉bs/\H[id]? =some e/\e≠Ec.dead/\h.io id=some N)\/owned I J N:=by
 obtain⟨id,e,o,l,a⟩:=s;rcases Rc c r o with⟨u,p,t⟩|⟨j,m,rfl,q,d⟩;grind[Ld];have i:j<J.length:=by grind
 rw[(Vr (h:=h) (hc:=I) c k j i).2.2.1]at a;exact .inr ⟨j,m,q,λn=>l (d.trans (tW.2 n)),a⟩
theorem G2.back(l:bs.Nodup)(k: ∀b∈bs,b<H.length)(x:G2 (T5 h bs) (XI H bs) w I J A):G2 h H w (Ld h H bs I) (Rb H bs J) A:=by
 have r:bs.length<=J.length:=by have:=x.n;simpa[XI]using this
 refine⟨x.os,x.tape,x.output,x.size,λB p hn=>x.keep B p λa=>?_,?_,?_,?_,?_,x.loops⟩;obtain⟨b,e,_,g,f,i⟩:=Z7 a;exact hn ⟨b,e,g,f,i⟩;rw[gR];omega;intro id c;by_cases d:id∈bs;have q:=WU d;have:=x.gen (bs.idxOf id) (by simpa[XI]using eF d);grind[Ld,T5];simp[Ld,d,c];intro id c;by_cases d:id∈bs;have q:=WU d;have:=x.same (bs.idxOf id) (by simpa[XI]using eF d);grind[Ld,T5];simp[Ld,d,c];intro B a;rcases iG l k r a with⟨id,e,_,g,f,i⟩|a;exact .inl ⟨id,e,g,f,i⟩;rcases x.fresh B a with a|a;obtain⟨b,e,_,g,f,i⟩:=Z7 a;exact .inl ⟨b,e,g,f,i⟩;grind
def BZ.back(g:bs.Nodup)(f: ∀d∈bs,d<H.length)(l:bs.length≤J.length)
  (r:BZ (cx (Xs X h H bs) I J w) e b):BZ (cx X (Ld h H bs I) (Rb H bs J) w) (e.ren (M4 H bs)) b:=by
 refine BZ.ren (x:=cx (Xs X h H bs) I J w) (y:=cx X (Ld h H bs I) (Rb H bs J) w) (ρ:=M4 H bs) (p:=λ_=>true) (λj _ k=>Vr (h:=h) (hc:=I) g f j k) rfl (λB a=>?_) r (lZ e);rcases a with a|a;exact .inl (.inl a);rcases iG g f l a with a|a;exact .inl (.inr a);exact .inr a
theorem mu(a:bs.Nodup)(f: ∀b∈bs,b<H.length)(e:M4 H bs N=M4 H bs s):N=s:=by unfold M4 at e;split at e<;>split at e;rename_i c d;rw[I5,Aw c,I5,Aw d]at e;simp at e;rw[<-Z3 a (Aw c),<-Z3 a (Aw d),e];grind[List.getElem_mem];grind[List.getElem_mem];omega
theorem Ih.back(s:Ih X h H w)(d:bs.Nodup)(y: ∀b∈bs,b<H.length)(x:G2 (T5 h bs) (XI H bs) w I J A)
  (sc:Ih (Xs X h H bs) I J A):Ih X (Ld h H bs I) (Rb H bs J) A:=by
 have W:bs.length<=J.length:=by have:=x.n;simpa[XI]using this
 have xb:=G2.back (h:=h) d y x;have K: ∀{id:Nat} {e:Ec} {B:Nat} {o:Obj},id∉bs->H[id]? =some e->e≠ .dead->h.io id=some B->w.heap[B]? =some o->A.heap[B]? =some o:=by intro id e B o D O a0 c k;refine(x.keep B (M5 k) λho=>?_).trans k;obtain⟨b,e',a6,Q,h0,h4⟩:=Z7 ho;exact D (s.inj id b e e' B O Q a0 h0 c h4▸a6)
 have lt: ∀{j:Nat} {E:Ec},J[j]? =some E->j<J.length:=by intro j E N;rcases Ao j J.length with V|V;exact V;grind[List.getElem?_eq_none]
 refine⟨λB Y=>⟨C9 (s.out B Y).1 x.size,λho=>?_⟩,λid g cs he=>?_,λid L he=>?_,λid a7 e e' B P V ar ax Q h4=>?_,λid e he Y=>?_⟩;rcases iG d y W ho with⟨id,e,_,P,h0,V⟩|ho;exact(s.out B Y).2 ⟨id,e,P,h0,V⟩;exact(sc.out B (.inl Y)).2 ho;rcases Rc d W he with⟨D,p,O⟩|⟨j,E,rfl,N,a⟩;obtain⟨hg,S⟩:=s.live id g cs O;refine⟨by simpa[cx,Ld,D,p]using hg,?_⟩;rcases S with⟨hn,rfl⟩|⟨B,ad,T,fz,f,c,k,R,ap,ao,C⟩;exact .inl ⟨by simpa[cx,Ld,D,p]using hn,rfl⟩;refine .inr ⟨B,ad,T,fz,f,by simpa[cx,Ld,D,p]using c,K D O (by simp) c k,by simpa[cx,Ld,D,p]using R,ap,ao,λi v Z=>?_⟩;obtain⟨P,V,Q⟩:=C i v Z;exact⟨P,V,Q.later (xb.later X)⟩;cases E with
 |dead=>simp[Ec.ren]at a
 |lp L=>simp[Ec.ren]at a
 |bld=>simp[Ec.ren]at a
 |brow=>simp[Ec.ren]at a
 |mp=>simp[Ec.ren]at a
 |it=>simp[Ec.ren]at a
 |live g0 al=>
  simp only[Ec.ren,Ec.live.injEq]at a;obtain⟨rfl,rfl⟩:=a;obtain⟨_,r1,r2,r3⟩:=Vr (h:=h) (hc:=I) d y j (lt N);obtain⟨hg,S⟩:=sc.live j g al N;refine⟨r1.trans hg,?_⟩;rcases S with⟨hn,rfl⟩|⟨B,ad,T,fz,f,c,k,R,ap,ao,C⟩;exact .inl ⟨r2.trans hn,rfl⟩;refine .inr ⟨B,ad,T,fz,f,r2.trans c,k,R.trans r3.symm,by rw[Nj,Da];exact ap,ao,λi v Z=>?_⟩;rw[Nj,CC]at Z;cases hu:al[i]? with
  |none=>rw[hu]at Z;cases Z
  |some u=>rw[hu]at Z;simp only[Bf,Ai]at Z;subst Z;obtain⟨P,V,Q⟩:=C i u hu;exact⟨P,V,BZ.back d y W Q⟩
 rcases Rc d W he with⟨D,p,O⟩|⟨j,E,rfl,N,a⟩;obtain⟨hg,B,r,c,k,P,V,Q,h4,h5,h6,h7⟩:=s.lp id L O;exact⟨by simpa[cx,Ld,D,p]using hg,B,r,by simpa[cx,Ld,D,p]using c,K D O (by simp) c k,P,V,Q,h4,h5,h6,λt v m=>⟨(h7 t v m).1,(h7 t v m).2.later (xb.later X)⟩⟩;cases E with
 |dead=>simp[Ec.ren]at a
 |live g0 al=>simp[Ec.ren]at a
 |bld=>simp[Ec.ren]at a
 |brow=>simp[Ec.ren]at a
 |mp=>simp[Ec.ren]at a
 |it=>simp[Ec.ren]at a
 |lp L0=>simp only[Ec.ren,Ec.lp.injEq]at a;subst a;obtain⟨_,r1,r2,r3⟩:=Vr (h:=h) (hc:=I) d y j (lt N);obtain⟨hg,B,r,c,k,P,V,Q,h4,h5,h6,h7⟩:=sc.lp j L0 N;refine⟨r1.trans hg,B,r,r2.trans c,k,P,V,Q,h4,h5,h6,λt v m=>?_⟩;obtain⟨q,hq,e⟩:=Br.1 m;simp only[Dq]at e;obtain⟨rfl,rfl⟩:=e;exact⟨(h7 q.1 q.2 hq).1,BZ.back d y W (h7 q.1 q.2 hq).2⟩
 have key: ∀{id:Nat} {e:Ec},(Rb H bs J)[id]? =some e→e≠ .dead→(Ld h H bs I).io id=some B→
   (id∉bs/\H[id]? =some e/\h.io id=some B)\/ ∃j E,id=M4 H bs j/\J[j]? =some E/\E≠ .dead/\I.io j=some B:=by
  intro id e he a0 c;rcases Rc d W he with⟨D,p,O⟩|⟨j,E,rfl,N,a⟩;exact .inl ⟨D,O,by simpa[Ld,D,p]using c⟩;exact .inr ⟨j,E,rfl,N,λh0=>a0 (a.trans (tW.2 h0)),by rw[<-(Vr (h:=h) (hc:=I) d y j (lt N)).2.2.1];exact c⟩
 rcases key P ar Q with⟨m1,a1,b1⟩|⟨j1,g1,e1,a1,d1,b1⟩<;>rcases key V ax h4 with⟨m2,a2,b2⟩|⟨j2,g2,e2,a2,d2,b2⟩;exact s.inj _ _ _ _ B a1 a2 ar ax b1 b2;exact((sc.out B (.inr ⟨_,_,m1,a1,ar,b1⟩)).2 ⟨j2,g2,a2,d2,b2⟩).elim;exact((sc.out B (.inr ⟨_,_,m2,a2,ax,b2⟩)).2 ⟨j1,g1,a1,d1,b1⟩).elim;rw[e1,e2,sc.inj _ _ _ _ B a1 a2 d1 d2 b1 b2];rcases Rc d W he with⟨D,p,O⟩|⟨j,E,rfl,N,rfl⟩;have b:=s.bld id e O Y;have a:e.ren (λx=>x)=e:=by cases e<;>simp_all[Ec.ren,Ec.isB]
 have:=b.ren (h':=Ld h H bs I) (H':=Rb H bs J) (w':=A) (id':=id) (ρ:=λx=>x) (by simp[Ld,D,p]) (by simp[Ld,D,p]) (by simp[Ld,D,p]) (λB o c hb=>(K D O (by rintro rfl;cases Y) c hb).trans hb.symm) λT e1 a3 l a4 hr=>?_;rwa [a]at this;rcases Rc d W hr with⟨F,n,M⟩|⟨j,E,rfl,N,z⟩;exact⟨M,by simp[Ld,F,n],λB o c hb=>(K F M (by simp) c hb).trans hb.symm⟩;exfalso;cases E with
 |brow o=>simp only[Ec.ren,Ec.brow.injEq]at z;unfold M4 at z;split at z;rename_i ho;exact D (by rw[z,I5,Aw ho];simp);omega
 |_=>simp[Ec.ren]at z
 rw[ZY]at Y;obtain⟨_,r1,r2,r3⟩:=Vr (h:=h) (hc:=I) d y j (lt N);refine(sc.bld j E N Y).ren r2 r1 r3 (λ_ _ _ _=>rfl) λT e1 a3 l a4 hr=>?_;rcases Rc d W hr with⟨F,n,M⟩|⟨j2,e2,a5,M,G⟩;exfalso;unfold M4 at F n;split at F;rename_i U;rw[I5,Aw U]at F;exact F (by simp);rename_i U;rw[if_neg U]at n;omega;have:=mu d y a5;subst this;have a8:=(Vr (h:=h) (hc:=I) d y a3 (lt M)).2.2.1;refine⟨?_,a8,λ_ _ _ _=>rfl⟩;cases e2 with
 |brow o=>simp only[Ec.ren,Ec.brow.injEq]at G;rw[M,mu d y G]
 |_=>simp[Ec.ren]at G
end
def im(env:Env)(c:Call)(first caps:List AV):List AV:=first++c.args.toList.map (BC env)++caps
def fI(P:Program)(s f:Nat):Option (Nat×TypeId×Nat):=
 match P.underlying s with
 |some (.struct fs)=>
  match fs[f]? with
  |some fd=>
   match tI P fd.type with
   |some (_,n)=>some (fd.offset,fd.type,n)
   |none=>none
  |none=>none
 |_=>none
def eI(P:Program)(t:TypeId):Option (Option Nat×TypeId×Nat):=
 match P.underlying t with
 |some (.array len e)=>(tI P e).map λi=>(some len,e,i.2)
 |some (.slice e)=>(tI P e).map λi=>(none,e,i.2)
 |_=>none
inductive Kd where
 |bool|int (k:IntKind)|str|bytes|other
 deriving DecidableEq
def kd(P:Program)(t:TypeId):Kd:=
 match P.underlying t with
 |some .bool=>.bool
 |some (.int k)=>.int k
 |some .string=>.str
 |some (.slice e)=>match P.underlying e with|some (.int .u8)=>.bytes|_=>.other
 |_=>.other
def Re(H:Ap)(id g:Nat):Bool:=
 match H[id]? with
 |some (.live g' _)=>g'==g
 |_=>false
def Ih.cur{w:World}(g:Ih X h H w)(a:Re H N s=true):h.gen N=s:=by unfold Re at a;split at a;rename_i c b d;have:=(g.live N c b d).1;simp at a;exact this.trans a;cases a
def shift(H:Ap)(k:Nat):AV->Option AV
 | .ptr id g off=>if Re H id g then some (.ptr id g (off+k))else none
 | .vptr cs=>if k<=cs.length then some (.vptr (cs.drop k))else none
 |_=>none
theorem qJ(s:Ih c h H w)(r:BZ (cx c h H w) e b)(X:shift H N e=some n):
  ∃B a,b= .pointer (some ⟨B,a,none⟩)/\BZ (cx c h H w) n (.pointer (some ((⟨B,a,none⟩:Addr).add N))):=by
 cases r with
 | @ptr id g a b k o t l=>simp only[shift]at X;split at X;rename_i d;simp at X;subst X;obtain⟨B,i,rfl⟩:=l (s.cur d);refine⟨B,a,rfl,.ptr k o rfl λ_=>⟨B,i,by rw[Nv]⟩⟩;cases X
 | @vptr q B a f v m l x=>simp only[shift]at X;split at X;simp at X;subst X;refine⟨B,a,rfl,?_⟩;rw[Nv];refine .vptr (λj=>f (N+j)) v m (λj e p=>?_) λj e p=>?_;grind;grind;cases X
 |_=>grind[shift]
def Tu(P:Program)(H:Ap)(s f:Nat)(v:AV):Option AV:=
 match fI P s f with
 |some (off,_,n)=>if n=0 then none else shift H off v
 |none=>none
def oo(sim:Ih c h H w)(r:BZ (cx c h H w) e b)(d:Tu P H s N e=some n):
  ∃i,(Instr.fieldAt s b N).run P w= .ok i w/\BZ (cx c h H w) n i:=by
 unfold Tu at d;split at d;rename_i k t v a;split at d;cases d;rename_i hn;obtain⟨B,o,rfl,hr⟩:=qJ sim r d;unfold fI at a;split at a;rename_i p g;split at a;rename_i l f;split at a;rename_i X m j;obtain⟨rfl,rfl,rfl⟩:=a;refine⟨_,?_,hr⟩;simp[Instr.fieldAt,run_underlying g,f,Instr.sureAddr,fieldPlace,Kc j,hn];cases a;cases a;cases a;cases d
def Tz(P:Program)(H:Ap)(t:TypeId)(v:AV)(i:AV):Option AV:=
 match eI P t,i with
 |some (some len,_,sz),.int _ i=>if 0<=i/\i<len then shift H (i.toNat*sz) v else none
 |some (none,_,sz),.int _ i=>
  match v with
  | .vs sz' rows=>if 0<=i/\sz=sz' then(rows[i.toNat]?).map λe=>.vptr e.cells else none
  | .sl id g sz' off len=>if 0<=i/\i<len/\sz=sz'/\Re H id g=true then some (.ptr id g (off+i.toNat*sz))else none
  |_=>none
 |_,_=>none
theorem oy(sim:Ih c h H w)(r:BZ (cx c h H w) e b)(T:BZ (cx c h H w) n B)
  (l:Tz P H a e n=some D): ∃O,(Instr.indexAt a b B).run P w= .ok O w/\BZ (cx c h H w) D O:=by
 unfold Tz at l;split at l;rename_i len t sz k Q X;cases T;split at l;rename_i A;obtain⟨u,o,rfl,hr⟩:=qJ sim r l;unfold eI at X;split at X;rename_i F y d;cases m:tI P y with
 |none=>rw[m]at X;cases X
 |some p=>rw[m]at X;simp only[Bf,Ai,Dq]at X;obtain⟨rfl,rfl,rfl⟩:=X;refine⟨_,?_,hr⟩;simp[Instr.indexAt,asIntOf,run_underlying d,Instr.sureAddr,A,Kc m]
 rename_i y d;cases m:tI P y<;>grind;cases X;cases l;rename_i t sz k Q X;cases T;have d: ∃n,P.underlying a=some (.slice t)/\tI P t=some n/\n.2=sz:=by
  unfold eI at X;split at X;rename_i F y d;cases m:tI P y with
  |none=>rw[m]at X;cases X
  |some p=>rw[m]at X;simp at X
  rename_i y d;cases m:tI P y with
  |none=>rw[m]at X;cases X
  |some p=>rw[m]at X;simp only[Bf,Ai,Dq]at X;obtain⟨_,rfl,rfl⟩:=X;exact⟨p,d,m,rfl⟩
  cases X
 obtain⟨p,d,m,rfl⟩:=d;cases r with
 | @vs N q v cap f C Y S W Z=>
  simp only at l;split at l;rename_i A;obtain⟨G,rfl⟩:=A;cases x:q[Q.toNat]? with
  |none=>rw[x]at l;cases l
  |some R=>
   rw[x]at l;simp only[Bf,Ai]at l;subst l;have s:Q.toNat<q.length:=by rcases Ao Q.toNat q.length with I|I;exact I;rw[Ck I]at x;cases x
   obtain⟨u,z,rfl,V,U,J⟩:=W (by intro t;rw[t]at s;simp at s);refine⟨.pointer (some ⟨u,z+Q.toNat*p.2,none⟩),?_,.vptr (λj=>f Q.toNat j) V U (λj e M=>?_) λj e M=>Z _ R _ e x M⟩;have E:Q<q.length:=by omega
   simp[Instr.indexAt,asIntOf,run_underlying d,G,E,Kc m,Nv];have:=J _ R j e x M;rw[aK];exact this
  cases l
 | @sl id g N z len b K x h1 J=>simp only at l;split at l;rename_i A;obtain⟨G,s,rfl,i⟩:=A;simp only[Ai]at l;subst l;rcases J (sim.cur i)with⟨_,hl,_,_⟩|⟨u,cap,L,C,_,rfl⟩;omega;refine⟨.pointer (some ⟨u,z+Q.toNat*p.2,none⟩),?_,.ptr K x rfl λ_=>⟨u,L,rfl⟩⟩;simp[Instr.indexAt,asIntOf,run_underlying d,G,s,Kc m,Nv];cases l
 |_=>cases l
 cases l
def oE(P:Program)(t:TypeId)(cs:List AV)(off:Nat):Option AV:=
 match tI P t with
 |some (true,n)=>if off+n<=cs.length then some (.agg ((cs.drop off).take n))else none
 |some (false,_)=>cs[off]?
 |none=>none
theorem tO{P:Program}{w:World}(l:i.size=d.length)(o: ∀(j:Nat) (c:Value),i[j]? =some c→c.oneCell'=true)
  (m: ∀(j:Nat) (v:AV) (c:Value),d[j]? =some v->i[j]? =some c->BZ f v c) (b:oE P a d N=some e): ∃c,(part a i N).run P w= .ok c w/\BZ f e c:=by
 unfold oE at b;split at b;rename_i n t;split at b;rename_i x;simp at b;subst b;refine⟨.agg (i.extract N (N+n)),by simp[part,Vc t,Kc t],.agg (by simp;omega) (λj c h=>?_) λj v c h g=>?_⟩;grind[Array.getElem?_extract];grind;cases b;rename_i n t;have k:N<d.length:=by grind
 have g:i[N]? =some (i[N]'(by omega)):=OP (by omega);exact⟨_,by simp[part,Vc t,g],m N e _ b g⟩;cases b
def nL(P:Program)(s f:Nat)(v:AV):Option AV:=
 match fI P s f,v with
 |some (off,t,_),.agg cs=>oE P t cs off
 |_,_=>none
def w7(r:BZ f e b)(d:nL P s N e=some n): ∃x,(Instr.field s b N).run P w= .ok x w/\BZ f n x:=by
 unfold nL at d;split at d;rename_i o t u i a;cases r with
 | @agg i j g k m=>obtain⟨x,l,hr⟩:=tO (P:=P) (w:=w) g k m d;unfold fI at a;split at a;rename_i q h;split at a;rename_i p v;split at a;simp at a;obtain⟨rfl,rfl,rfl⟩:=a;exact⟨x,by simp[Instr.field,run_underlying h,v,asAgg,l],hr⟩;cases a;cases a;cases a
 cases d
def eG(P:Program)(t:TypeId)(v i:AV):Option AV:=
 match v,i with
 | .agg cs,.int _ i=>
  match eI P t with
  |some (some len,e,sz)=>if 0<=i/\i<len then oE P e cs (i.toNat*sz)else none
  |_=>none
 | .str s,.int _ i=>if kd P t= .str/\0<=i then(s[i.toNat]?).map λb=>.int .u8 b.toNat else none
 |_,_=>none
theorem nj{P:Program}(h:kd P a= .str):P.underlying a=some .string:=by unfold kd at h;grind
theorem ACm(h:kd P a= .int y):P.underlying a=some (.int y):=by unfold kd at h;grind
theorem xC(r:BZ f e b)(q:BZ f n B)(v:eG P a e n=some D): ∃u,(Instr.index a b B).run P w= .ok u w/\BZ f D u:=by
 unfold eG at v;split at v;rename_i C k c;cases q;split at v;rename_i len t sz d;split at v;rename_i g;cases r with
 | @agg C i m F J=>
  obtain⟨u,G,hr⟩:=tO (P:=P) (w:=w) m F J v;unfold eI at d;split at d;rename_i A E o;cases z:tI P E with
  |none=>grind
  |some p=>rw[z]at d;simp only[Bf,Ai,Dq]at d;obtain⟨rfl,rfl,rfl⟩:=d;exact⟨u,by simp[Instr.index,asIntOf,run_underlying o,g,Kc z,G],hr⟩
  simp_all;cases d
 cases v;cases v;rename_i s k c;cases q;cases r with
 | @str s h I=>
  split at v;rename_i g;subst I;cases y:h.data.toList[c.toNat]? with
  |none=>grind
  |some x=>
   rw[y]at v;simp only[Bf,Ai]at v;subst v;have j:h[c.toNat]? =some x:=by
    obtain⟨H,d⟩:=To.1 y;have l:c.toNat<h.size:=by simpa using H
    rw[getElem?_pos h c.toNat l];exact congrArg some d
   exact⟨.int .u8 x.toNat,by simp[Instr.index,asIntOf,run_underlying (nj g.1),g.2,j],.int _ _⟩
  cases v
 cases v
def xh(P:Program)(g:TypeId->Option (List Kd)):List Field->Nat->Option (List Kd)
 |[],_=>some []
 |f::r,off=>
  if f.offset=off/\(f.name== "_")=false then
   match g f.type with
   |some ks=>if ks.length=P.cellsOf f.type then(xh P g r (off+ks.length)).map (ks++ ·)else none
   |none=>none
  else none
def qY(P:Program):Nat->TypeId->Option (List Kd)
 |0,_=>none
 |d+1,t=>
  match P.underlying t with
  |some .bool=>some [.bool]
  |some (.int k)=>some [.int k]
  |some .string=>some [.str]
  |some (.array n e)=>
   match qY P d e with
   |some ks=>if ks.length=P.cellsOf e/\(P.info? e).isSome then some (List.replicate n ks).flatten else none
   |none=>none
  |some (.struct fs)=>if P.stoodInHeld t then none else xh P (qY P d) fs.toList 0
  |_=>none
def uc:Kd->AV->Bool
 | .bool,.bool _=>true
 | .int k,.int k' _=>decide (k=k')
 | .str,.str _=>true
 |_,_=>false
def typed:List Kd->List AV->Bool
 |[],[]=>true
 |k::ks,v::vs=>uc k v&&typed ks vs
 |_,_=>false
def sEq:AV->AV->Bool
 | .bool a,.bool b=>a==b
 | .int _ a,.int _ b=>a==b
 | .str a,.str b=>a==b
 |_,_=>false
def om:List AV->List AV->Bool
 |[],[]=>true
 |a::as,b::bs=>sEq a b&&om as bs
 |_,_=>false
variable {x:List Kd}
def VW{b:List Kd}: ∀{a:List AV},typed (x++b) a=true->typed x (a.take x.length)=true/\typed b (a.drop x.length)=true:=by
 induction x with
 |nil=>intro a h;exact⟨by simp[typed],by simpa using h⟩
 |cons k f e=>
  intro a h;cases a with
  |nil=>simp[typed]at h
  |cons v a=>simp only[fA,typed,BN]at h;obtain⟨c,d⟩:=e h.2;exact⟨by simp[typed,h.1,c],by simpa using d⟩
def GS: ∀{a:List Kd} {b:List AV},typed a b=true->b.length=a.length
 |[],[],_=>rfl
 |_::_,_::_,h=>by simp only[typed,BN]at h;simp[GS h.2]
 |[],_::_,h=>by simp[typed]at h
 |_::_,[],h=>by simp[typed]at h
def kN: ∀(n:Nat) (c bs:List AV),c.length=bs.length->om c bs=(om (c.take n) (bs.take n)&&om (c.drop n) (bs.drop n))
 |0,c,bs,_=>by simp[om]
 |n+1,[],[],_=>by simp[om]
 |n+1,a::c,b::bs,h=>by simp only[CD,Nat.add_right_cancel_iff]at h;simp only[om,List.take_succ_cons,List.drop_succ_cons,kN n c bs h,Bool.and_assoc]
 |n+1,[],_::_,h=>by simp at h
 |n+1,_::_,[],h=>by simp at h
def Over(P:Program)(x:Cx)(t:TypeId)(as:List AV)(a:Value):Prop:=
 ∃(b:Bool) (n:Nat) (cs:List Value),tI P t=some (b,n)/\as.length=n/\gX x as cs/\(if b then a= .agg cs.toArray else cs=[a])
def EqF(P:Program)(d:Nat)(t:TypeId)(ks:List Kd):Prop:=
 ∀(w:World) (x:Cx) (a b:Value) (as bs:List AV),Over P x t as a->Over P x t bs b->typed ks as=true->typed ks bs=true->(Op.equalIn d t a b).run P w= .ok (om as bs) w
def fb{P:Program}{x:List Value}{off n:Nat}{w:World}(hr:gX f d x)(h:tI P a=some (r,n))(m:r=false→n=1)(o:off+n≤d.length):
  ∃t,(part a x.toArray off).run P w= .ok t w/\Over P f a ((d.drop off).take n) t:=by
 have e:gX f ((d.drop off).take n) ((x.drop off).take n):=by refine⟨by simp[hr.1],λj v c g i=>?_⟩;rw[Yw]at g i;split at g;rename_i k;rw[if_pos k]at i;rw[J6]at g i;exact hr.2 _ v c g i;cases g
 cases r with
 |true=>refine⟨.agg (x.toArray.extract off (off+n)),by simp[part,Vc h,Kc h],true,n,(x.drop off).take n,h,by simp;omega,e,?_⟩;simp only[if_true,Value.agg.injEq];apply Array.toList_inj.1;simp only[Array.toList_extract,pE,Vn]
 |false=>
  obtain rfl:=m rfl;have l:off<x.length:=by rw[hr.1];omega
  refine⟨x[off],by simp[part,Vc h,l],false,1,(x.drop off).take 1,h,by simp;omega,e,?_⟩;rw[if_neg (by simp),VY l];rfl
def iM{d:Nat}(h:qY P d a=some x): ∃b,tI P a=some (b,P.cellsOf a)/\(b=false->x.length=1):=by
 cases d with
 |zero=>simp[qY]at h
 |succ d=>
  unfold qY at h;unfold tI Program.cellsOf;cases f:P.info? a with
  |none=>
   have t:P.underlying a=none:=by simp[Program.underlying,f]
   rw[t]at h;cases h
  |some i=>
   cases t:P.underlying a with
   |none=>rw[t]at h;cases h
   |some c=>rw[t]at h;refine⟨_,rfl,?_⟩;cases c<;>simp_all<;>(subst h;rfl)
def tY{P:Program}{d:Nat}{g:TypeId→Option (List Kd)}(C: ∀t i,g t=some i→EqF P d t i∧ ∃b,tI P t=some (b,P.cellsOf t)∧(b=false→i.length=1)){x:Cx}{w:World}{l bs:List AV}{H I:List Value}
  (A:gX x l H) (B:gX x bs I) (j:l.length=bs.length): ∀(m:List Field) (h:Nat) (i:List Kd),xh P g m h=some i->h<=l.length->typed i (l.drop h)=true->typed i (bs.drop h)=true->(Op.eqFields d H.toArray I.toArray m).run P w= .ok (om (l.drop h) (bs.drop h)) w
 |[],h,i,hk,_,ta,tb=>by simp only[xh,Ai]at hk;subst hk;have J:=GS ta;have K:=GS tb;rw[EU J,EU K];simp[Op.eqFields,om]
 |f::m,h,i,hk,ho,ta,tb=>by
  simp only[xh]at hk;split at hk;rename_i L;obtain⟨rfl,k⟩:=L;split at hk;rename_i k1 u;split at hk;rename_i o;cases hr:xh P g m (f.offset+k1.length)with
  |none=>rw[hr]at hk;cases hk
  |some N=>
   rw[hr]at hk;simp only[Bf,Ai]at hk;subst hk;obtain⟨q,y⟩:=VW ta;obtain⟨r,z⟩:=VW tb;obtain⟨s,b,D,n⟩:=C _ _ u;have E:=GS q;have O:=GS r;have v:f.name≠ "_" :=by simpa using k
   obtain⟨a,Q,F⟩:=fb (P:=P) (w:=w) (off:=f.offset) A D (λe=>o▸n e) (by rw[<-o];simp at E;omega);obtain⟨c,R,G⟩:=fb (P:=P) (w:=w) (off:=f.offset) B D (λe=>o▸n e) (by rw[<-o];simp at O;omega);rw[<-o]at F G;have p:=s w x a c _ _ F G q r;have M:=tY C (w:=w) A B j m (f.offset+k1.length) N hr (by simp at E;omega) (by simpa[Of]using y) (by simpa[Of]using z);rw[kN k1.length _ _ (by simp[j])];simp only[Op.eqFields,if_pos v,Sem.run_bind,Q,R,p,Result.andThen_ok];cases om ((l.drop f.offset).take k1.length) ((bs.drop f.offset).take k1.length);simp;simp only[Ds,J5,if_false,Bool.true_and,M,Of]
  cases hk;cases hk;cases hk
def qE{P:Program}{d:Nat}{e:TypeId}{f:List Kd}(o:EqF P d e f){b:Bool}(s:tI P e=some (b,f.length))(j:b=false→f.length=1){x:Cx}{w:World}{h bs:List AV}{z A:List Value}
  (u:gX x h z) (v:gX x bs A) (g:h.length=bs.length): ∀(n i:Nat),i*f.length<=h.length->typed (List.replicate n f).flatten (h.drop (i*f.length))=true->typed (List.replicate n f).flatten (bs.drop (i*f.length))=true->(Op.eqItems d e f.length z.toArray A.toArray (List.range' i n)).run P w= .ok (om (h.drop (i*f.length)) (bs.drop (i*f.length))) w
 |0,i,_,ta,tb=>by have B:=GS ta;have C:=GS tb;rw[EU (l:=h.drop _) (by simpa using B),EU (l:=bs.drop _) (by simpa using C)];simp[Op.eqItems,om]
 |n+1,i,ho,ta,tb=>by
  rw[ga,jz]at ta tb;obtain⟨q,k⟩:=VW ta;obtain⟨r,m⟩:=VW tb;have y:=GS q;have E:=GS r;obtain⟨a,H,F⟩:=fb (P:=P) (w:=w) (off:=i*f.length) u s j (by simp at y;omega);obtain⟨c,I,G⟩:=fb (P:=P) (w:=w) (off:=i*f.length) v s j (by simp at E;omega);have p:=o w x a c _ _ F G q r;rw[Of]at k m;have t:i*f.length+f.length=(i+1)*f.length:=by rw[GY];omega
  rw[t]at k m;have D:=qE o s j (w:=w) u v g n (i+1) (by simp at y;omega) k m;rw[kN f.length _ _ (by simp[g]),Of,Of,t];rw[List.range'_succ];simp only[Op.eqItems,Sem.run_bind,H,I,p,Result.andThen_ok];cases om ((h.drop (i*f.length)).take f.length) ((bs.drop (i*f.length)).take f.length);simp;simp[D]
def qZ{P:Program}(d:Nat): ∀(m:Nat) (t:TypeId) (y:List Kd),qY P m t=some y->EqF P (d+m) t y
 |0,_,_,h=>by simp[qY]at h
 |m+1,t,y,h=>by
  obtain⟨bt,T,_⟩:=iM h;intro w x a b F bs X Y o p;obtain⟨O,n1,xs,c,U,ra,j⟩:=X;obtain⟨Z,n2,ys,r,V,E,l⟩:=Y;rw[c]at r;simp only[Ai,Dq]at r;obtain⟨rfl,rfl⟩:=r;have I:=GS o;have J:=GS p;have g: ∀q,P.underlying t=some q->O=(match q with| .struct _| .array _ _=>true|_=>false):=by intro q S;unfold tI at c;rw[S]at c;split at c;rename_i G;injection G with e;subst e;simp only[Ai,Dq]at c;exact c.1.symm;cases c
  unfold qY at h;split at h;rename_i f;simp only[Ai]at h;subst h;have:=g _ f;simp only at this;subst this;simp only[J5,if_false]at j l;subst j l;match F,I,bs,J with
  |[u],_,[v],_=>have C:=ra.2 0 u a rfl rfl;have D:=E.2 0 v b rfl rfl;simp only[typed,Oe]at o p;cases u<;>simp[uc]at o;cases v<;>simp[uc]at p;cases C;cases D;rw[show d+(m+1)=(d+m)+1 from rfl,run_equalIn_bool' w (d+m) t _ _ f];simp[om,sEq]
  rename_i k f;simp only[Ai]at h;subst h;have:=g _ f;simp only at this;subst this;simp only[J5,if_false]at j l;subst j l;match F,I,bs,J with
  |[u],_,[v],_=>have C:=ra.2 0 u a rfl rfl;have D:=E.2 0 v b rfl rfl;simp only[typed,Oe]at o p;cases u<;>simp[uc]at o;cases v<;>simp[uc]at p;cases C;cases D;subst o p;rw[show d+(m+1)=(d+m)+1 from rfl,run_equalIn_int w (d+m) t _ _ _ _ f];simp[om,sEq]
  rename_i f;simp only[Ai]at h;subst h;have:=g _ f;simp only at this;subst this;simp only[J5,if_false]at j l;subst j l;match F,I,bs,J with
  |[u],_,[v],_=>
   have C:=ra.2 0 u a rfl rfl;have D:=E.2 0 v b rfl rfl;simp only[typed,Oe]at o p;cases u<;>simp[uc]at o;cases v<;>simp[uc]at p;cases C with
   |str s1 Q=>
    cases D with
    |str s2 R=>subst Q R;rw[show d+(m+1)=(d+m)+1 from rfl,run_equalIn_string w (d+m) t _ _ f];simp[om,sEq,ByteArray.toList_eq]
  rename_i n e f;split at h;rename_i k1 A;split at h;rename_i H;simp only[Ai]at h;subst h;have:=g _ f;simp only at this;subst this;simp only[if_true]at j l;subst j l;obtain⟨N,s⟩:=aM.1 H.2;obtain⟨b,L,B⟩:=iM A;rw[<-H.1]at L;have i:=qE (qZ d m e k1 A) L B (w:=w) ra E (by omega) n 0 (by simp) (by simpa using o) (by simpa using p);rw[show d+(m+1)=(d+m)+1 from rfl,run_equalIn_array w (d+m) _ _ f s,<-H.1,List.range_eq_range'];simpa using i;cases h;cases h;rename_i K f;split at h;cases h;rename_i W;have:=g _ f;simp only at this;subst this;simp only[if_true]at j l;subst j l;have z:P.fieldsOf t=K:=by simp[Program.fieldsOf,f]
  have i:=tY (d:=d+m) (λt y M=>⟨qZ d m t y M,iM M⟩) (w:=w) ra E (by omega) K.toList 0 y h (by simp) (by simpa using o) (by simpa using p);rw[show d+(m+1)=(d+m)+1 from rfl,run_equalIn_struct w (d+m) t _ _ (by rw[z];exact f) (by simpa using W),z];simpa using i;cases h
def j8(op:BinOp)(k:IntKind)(a b:Int):Option AV:=
 match op with
 | .add=>some (.int k (k.wrap (a+b)))
 | .sub=>some (.int k (k.wrap (a-b)))
 | .mul=>some (.int k (k.wrap (a*b)))
 | .quo=>if b=0 then none else some (.int k (k.wrap (a.tdiv b)))
 | .rem=>if b=0 then none else some (.int k (a.tmod b))
 | .and=>some (.int k (k.wrap (BitVec.ofInt k.bits a&&&BitVec.ofInt k.bits b).toNat))
 | .or=>some (.int k (k.wrap (BitVec.ofInt k.bits a|||BitVec.ofInt k.bits b).toNat))
 | .xor=>some (.int k (k.wrap (BitVec.ofInt k.bits a^^^BitVec.ofInt k.bits b).toNat))
 | .andNot=>some (.int k (k.wrap (BitVec.ofInt k.bits a&&& ~~~BitVec.ofInt k.bits b).toNat))
 | .eql=>some (.bool (a==b))
 | .neq=>some (.bool (a !=b))
 | .lss=>some (.bool (decide (a<b)))
 | .leq=>some (.bool (decide (a<=b)))
 | .gtr=>some (.bool (decide (a>b)))
 | .geq=>some (.bool (decide (a>=b)))
 | .shl| .shr=>none
def uJ{d b:Int}(w:World)(h:j8 C y d b=some e): ∃c,(binOp C a (.int y d) (.int y b)).run P w= .ok c w/\BZ f e c:=by
 cases C<;>simp only[j8]at h<;>(try split at h)<;>first
  |cases h;done
  |(simp at h;subst h;first
    |exact⟨_,by simp[binOp,Op.intArith,Op.intDiv,Op.intBits, *],.int _ _⟩
    |exact⟨_,by simp[binOp,Op.intCmp],.bool _⟩)
def eO(op:BinOp)(k:IntKind)(a b:Int):Option AV:=
 if b<0 then none else
 match op with
 | .shl=>some (.int k (k.wrap (a*2^min b.toNat k.bits)))
 | .shr=>some (.int k (a.fdiv (2^min b.toNat k.bits)))
 |_=>none
def yR(P:Program)(t:TypeId):Option (List Kd):=
 if P.eqGuardType P.depth t then none else
 match qY P 12 t with
 |some ks=>if tI P t=some (true,ks.length)then some ks else none
 |none=>none
def qQ(op:BinOp)(a b:List UInt8):Option AV:=
 match op with
 | .add=>if a.length+b.length<=9223372036854775807 then some (.str (a++b))else none
 | .eql=>some (.bool (a==b))
 | .neq=>some (.bool (a !=b))
 | .lss=>some (.bool (Op.bytesLess a b))
 | .leq=>some (.bool (Op.bytesLess a b||a==b))
 | .gtr=>some (.bool (!(Op.bytesLess a b||a==b)))
 | .geq=>some (.bool (!Op.bytesLess a b))
 |_=>none
def sE(P:Program)(op:BinOp)(t:TypeId)(x y:AV):Option AV:=
 match x,y with
 | .int k a,.int k' b=>
  match op with
  | .shl| .shr=>eO op k a b
  |_=>if k=k' then j8 op k a b else none
 | .bool a,.bool b=>
  match op with
  | .eql=>if kd P t= .bool then some (.bool (a==b))else none
  | .neq=>if kd P t= .bool then some (.bool (!(a==b)))else none
  |_=>none
 | .str a,.str b=>qQ op a b
 | .agg as,.agg bs=>
  match yR P t with
  |some ks=>
   if typed ks as=true/\typed ks bs=true then
    match op with
    | .eql=>some (.bool (om as bs))
    | .neq=>some (.bool (!om as bs))
    |_=>none
   else none
  |none=>none
 |_,_=>none
theorem wC(h:kd P a= .bool):P.underlying a=some .bool:=by unfold kd at h;grind
def toList_data(t:ByteArray):t.toList=t.data.toList:=ByteArray.toList_eq t
def AAS{y:Operand}(w:World)(ra:BZ f e b)(A:BZ f n B)(h:sE P C a e n=some D):
  ∃c,(do eqGuard C a m y b B;binOp C a b B:Sem Value).run P w= .ok c w/\BZ f D c:=by
 unfold sE at h;split at h;rename_i k X T U;cases ra;cases A;have x:(eqGuard C a m y (.int k X) (.int T U)).run P w= .ok () w:=by unfold eqGuard;cases C<;>simp
 simp only[Sem.run_bind,x,Result.andThen_ok];split at h;unfold eO at h;split at h;cases h;rename_i t;simp only[Ai]at h;subst h;exact⟨_,by simp[binOp,Op.shift,t],.int _ _⟩;unfold eO at h;split at h;cases h;rename_i t;simp only[Ai]at h;subst h;exact⟨_,by simp[binOp,Op.shift,t],.int _ _⟩;simp_all[uJ];rename_i p q;cases ra;cases A;have x:(eqGuard C a m y (.bool p) (.bool q)).run P w= .ok () w:=by unfold eqGuard;cases C<;>simp
 simp only[Sem.run_bind,x,Result.andThen_ok];split at h;split at h;rename_i I;simp only[Ai]at h;subst h;exact⟨_,run_eql_bool w a p q (wC I),.bool _⟩;cases h;split at h;rename_i I;simp only[Ai]at h;subst h;refine⟨_,?_,.bool _⟩;simp only[binOp];simp[run_equal_bool w a p q (wC I)];cases h;cases h
 ·rename_i s1 s2;cases ra with
  |str s L=>
   cases A with
   |str z O=>
    have x:(eqGuard C a m y (.string s) (.string z)).run P w= .ok () w:=by unfold eqGuard;cases C<;>simp
    simp only[Sem.run_bind,x,Result.andThen_ok];subst L O;unfold qQ at h;split at h;split at h;rename_i S;simp only[Ai]at h;subst h;have o: ¬(((s.size+z.size:Nat):Int)>IntKind.i64.max):=by
     have Z:s.data.toList.length=s.size:=by simp
     have e2:z.data.toList.length=z.size:=by simp
     have K:IntKind.i64.max=9223372036854775807:=by decide
     rw[K];omega
    exact⟨.string (s++z),by simp only[binOp];simp only[Op.stringOp,if_neg o];rfl,.str _ (by simp)⟩;cases h;all_goals first
     |cases h;done
     |(simp only[Ai]at h
       subst h;exact⟨_,by simp only[binOp];simp[Op.stringOp,toList_data,bne],.bool _⟩)
 rename_i g bs;cases ra with
 | @agg g b V M Y=>
  cases A with
  | @agg bs B W N vb=>
   split at h;rename_i ks d;unfold yR at d;split at d;cases d;rename_i G;split at d;rename_i J E;split at d;rename_i r;simp only[Ai]at d;subst d;split at h;rename_i i;have F:=qZ (P:=P) 9988 12 a J E;have Q:=GS i.1;have R:=GS i.2;have l:(Op.equalIn 10000 a (.agg b) (.agg B)).run P w= .ok (om g bs) w:=
    F w f (.agg b) (.agg B) g bs ⟨true,_,b.toList,r,by omega,⟨by simpa using V,λj v c H u=>Y j v c H (by simpa using u)⟩,by simp⟩
     ⟨true,_,B.toList,r,by omega,⟨by simpa using W,λj v c H u=>vb j v c H (by simpa using u)⟩,by simp⟩ i.1 i.2
   have x:(eqGuard C a m y (.agg b) (.agg B)).run P w= .ok () w:=run_eqGuard_agg w C a m y b B (by simpa using G);simp only[Sem.run_bind,x,Result.andThen_ok];split at h;simp only[Ai]at h;subst h;exact⟨_,by rw[run_eql_struct,l];rfl,.bool _⟩;simp only[Ai]at h;subst h;exact⟨_,by rw[run_neq_struct,l];rfl,.bool _⟩;cases h;cases h;cases d;cases d;cases h
 cases h
def unV(op:UnOp)(v:AV):Option AV:=
 match op,v with
 | .neg,.int k n=>some (.int k (k.wrap (0-n)))
 | .xor,.int k n=>some (.int k (k.wrap (BitVec.ofInt k.bits (if k.signed then-1 else k.max)^^^BitVec.ofInt k.bits n).toNat))
 | .not,.bool b=>some (.bool !b)
 |_,_=>none
def ADM{v:UnOp}(w:World)(r:BZ f e b)(h:unV v e=some n): ∃a,(Op.unary v b).run P w= .ok a w/\BZ f n a:=by unfold unV at h;split at h;cases r;simp at h;subst h;exact⟨_,by simp[Op.unary,Op.intArith],.int _ _⟩;cases r;simp at h;subst h;exact⟨_,by simp only[Op.unary];rfl,.int _ _⟩;cases r;simp at h;subst h;exact⟨_,by simp[Op.unary],.bool _⟩;cases h
def rowsOf(H:Ap):AV->Option (List AV)
 | .vs sz rows=>if sz=1 then some (rows.flatMap AV.cells)else none
 | .sl id g sz off len=>
  match H[id]? with
  |some (.live g' cs)=>if g=g'/\sz=1/\off+len<=cs.length then some ((cs.drop off).take len)else none
  |_=>none
 | .nils=>some []
 |_=>none
def u8s:List AV->Option (List UInt8)
 |[]=>some []
 | .int .u8 n::r=>(u8s r).map (UInt8.ofNat n.toNat:: ·)
 |_=>none
def Uy(P:Program)(H:Ap)(src dst:TypeId)(v:AV):Option AV:=
 match kd P dst,v with
 | .int k,.int _ n=>if(P.underlying src).isSome then some (.int k (k.wrap n))else none
 | .str,.str s=>if(P.underlying src).isSome then some (.str s)else none
 | .str,v=>
  if kd P src= .bytes then
   match rowsOf H v with
   |some cs=>(u8s cs).map AV.str
   |none=>none
  else none
 |_,_=>none
theorem kz{sz:Nat}: ∀{rows:List AV},(∀(j:Nat) (e:AV),rows[j]? =some e->e.cells.length=sz)->(rows.flatMap AV.cells).length=rows.length*sz
 |[],_=>by simp
 |e::r,h=>by have b:=h 0 e rfl;have d:=kz (rows:=r) λj a c=>h (j+1) a (by grind);grind
theorem flat_get{sz:Nat}(c:0<sz): ∀{rows:List AV},(∀(j:Nat) (e:AV),rows[j]? =some e→e.cells.length=sz)→ ∀(i:Nat) (v:AV),(rows.flatMap AV.cells)[i]? =some v→
  ∃e,rows[i/sz]? =some e/\e.cells[i%sz]? =some v
 |e::r,h,i,v,hi=>by
  have d:=h 0 e rfl;simp at hi;rcases Ao i sz with f|a;grind[Nat.div_eq_of_lt,Nat.mod_eq_of_lt];rw[Cb (by omega),d]at hi;obtain⟨b,l,m⟩:=flat_get c (rows:=r) (λj b n=>h (j+1) b (by grind)) (i-sz) v hi;have g:i/sz=(i-sz)/sz+1:=by rw[<-Nat.add_div_right _ c,Nat.sub_add_cancel a]
  have k:i%sz=(i-sz)%sz:=by rw[<-Nat.add_mod_right (i-sz),Nat.sub_add_cancel a]
  grind
def vG{P:Program}(s:Ih c h H w)(r:BZ (cx c h H w) e b)(hr:rowsOf H e=some d):
  ∃a n cap V,b= .slice a n cap/\n=d.length/\gX (cx c h H w) d V/\((a=none/\n=0)\/ ∃C,a=some C/\(loadCells C n).run P w= .ok V.toArray w):=by
 cases r with
 |nils=>simp only[rowsOf,Ai]at hr;subst hr;exact⟨none,0,0,[],rfl,rfl,⟨rfl,λ_ _ _ h=>by cases h⟩,.inl ⟨rfl,rfl⟩⟩
 | @vs sz X a cap f D ar m Z hv=>
  simp only[rowsOf]at hr;split at hr;rename_i R;subst R;simp only[Ai]at hr;subst hr;have l:=kz m;rw[Nat.mul_one]at l;cases X with
  |nil=>
   cases a with
   |none=>exact⟨none,0,cap,[],rfl,rfl,⟨rfl,λ_ _ _ h=>by cases h⟩,.inl ⟨rfl,rfl⟩⟩
   |some C=>exact⟨some C,0,cap,[],rfl,rfl,⟨rfl,λ_ _ _ h=>by cases h⟩,.inr ⟨C,rfl,by simp[loadCells,loadCellsFrom]⟩⟩
  |cons Y I=>
   obtain⟨B,i,rfl,hO,hB,L⟩:=Z (by simp);generalize Y::I=X at*;refine⟨_,X.length,cap,(List.range X.length).map λj=>f j 0,rfl,l.symm,⟨by simp[l],λj e K A o=>?_⟩,.inr ⟨_,rfl,?_⟩⟩;obtain⟨v,p,E⟩:=flat_get (by omega) m j e A;rw[Nat.div_one]at p;rw[Nat.mod_one]at E;have t:j<X.length:=by rcases Ao j X.length with y|y;exact y;rw[Ck y]at p;cases p
   rw[CC,Rl t]at o;simp only[Bf,Ai]at o;subst o;exact hv j v 0 e p E;have:=run_loadCells (P:=P) w ⟨B,i,none⟩ X.length (λj=>f j 0) λj A=>by have J:X[j]? =some (X[j]):=Aw A;have hl:=m j _ J;have M:(X[j]).cells[0]? =some ((X[j]).cells[0]'(by omega)):=Aw (by omega);rw[Nv];have:=(L j _ 0 _ J M).1;simpa[cx]using this
   exact this
  cases hr
 | @sl id g sz i len b ao hg R L=>
  simp only[rowsOf]at hr;split at hr;rename_i g' x J;split at hr;rename_i z;obtain⟨rfl,rfl,ap⟩:=z;simp only[Ai]at hr;subst hr;obtain⟨G,F⟩:=s.live id g x J;rcases L G with⟨q,rfl,rfl,rfl⟩|⟨B,cap,q,D,N,rfl⟩;exact⟨none,0,0,[],rfl,by simp,⟨by simp,λ_ _ _ _ h=>by cases h⟩,.inl ⟨rfl,rfl⟩⟩;rcases F with⟨hn,_⟩|⟨Q,W,T,fz,f,u,hb,S,U,al,k⟩;rw[hn]at q;cases q;have:Q=B:=by rw[q]at u;injection u with v;exact v.symm
  subst this;refine⟨_,len,cap,(List.range len).map λj=>f (i+j),rfl,by simp;omega,⟨by simp;omega,λj e K A o=>?_⟩,.inr ⟨_,rfl,?_⟩⟩;have t:j<len:=by rcases Ao j len with y|y;exact y;rw[Ck (by simpa using y)]at o;cases o
  rw[Yw,if_pos t,J6]at A;rw[CC,Rl t]at o;simp only[Bf,Ai]at o;subst o;exact(k _ e A).2.2;exact run_loadCells (P:=P) w ⟨Q,i,none⟩ len (λj=>f (i+j)) λj A=>by have O:x[i+j]? =some (x[i+j]'(by omega)):=Aw (by omega);rw[Nv,Og (w:=w) hb];exact(k _ _ O).1
  cases hr;cases hr
 |_=>simp only[rowsOf]at hr;cases hr
theorem tj{x:Cx}: ∀{d:List AV} {b:List Value} {bs:List UInt8},gX x d b->u8s d=some bs-> ∃e:List Int,b=e.map (Value.int .u8)/\bs=e.map λn=>UInt8.ofNat n.toNat
 |[],b,bs,hr,hb=>by simp only[u8s]at hb;rw[EU hr.1];simp_all
 |v::d,b,bs,hr,hb=>by
  match b,hr with
  |u::b,hr=>
   have h:=hr.2 0 v u rfl rfl;have l:gX x d b:=⟨by have:=hr.1;simpa using this,λj a c p o=>hr.2 (j+1) a c (by grind) (by grind)⟩
   unfold u8s at hb;split at hb<;>rename_i f<;>(try cases f)<;>try (cases hb;done)
   cases k:u8s d with
   |none=>grind
   |some g=>obtain⟨e,i,m⟩:=tj l k;cases h;exact⟨_::e,by rw[i];rfl,by grind⟩
def uX(a:List Int): ∀s:ByteArray,(a.foldl (λr n=>r.push (UInt8.ofNat n.toNat)) s).data.toList=s.data.toList++a.map λn=>UInt8.ofNat n.toNat:=by induction a<;>simp_all
theorem yz{P:Program}(h:kd P a= .bytes): ∃e,P.underlying a=some (.slice e)/\P.underlying e=some (.int .u8):=by unfold kd at h;grind
theorem yY{l:TypeId}(s:Ih c h H w)(r:BZ (cx c h H w) e b)(X:Uy P H a l e=some n):
  ∃y,(convert a l b).run P w= .ok y w/\BZ (cx c h H w) n y:=by
 unfold Uy at X;split at X;rename_i k I u j;split at X;rename_i i;obtain⟨C,i⟩:=aM.1 i;simp only[Ai]at X;subst X;cases r;exact⟨_,by simp[convert,run_underlying i,run_underlying (ACm j),Conv.intToInt],.int _ _⟩;cases X;rename_i J j;split at X;rename_i i;obtain⟨C,i⟩:=aM.1 i;simp only[Ai]at X;subst X;cases r with
 |str t F=>exact⟨_,by simp[convert,run_underlying i,run_underlying (nj j)],.str _ F⟩
 cases X;rename_i L j _;split at X;rename_i D;split at X;rename_i B p;cases q:u8s B with
 |none=>rw[q]at X;cases X
 |some bs=>
  rw[q]at X;simp only[Bf,Ai]at X;subst X;obtain⟨o,m,z⟩:=yz D;obtain⟨v,u,cap,K,rfl,hn,d,f⟩:=vG (P:=P) s r p;obtain⟨x,rfl,rfl⟩:=tj d q;rcases f with⟨rfl,E⟩|⟨A,rfl,g⟩;have:x=[]:=by have G:=d.1;grind[List.length_map,List.eq_nil_of_length_eq_zero]
  subst this;exact⟨.string .empty,by simp[convert,run_underlying m,run_underlying (nj j),run_underlying z,Conv.bytesToString],.str _ rfl⟩;refine⟨_,?_,.str _ (uX x ByteArray.empty)⟩;simp only[convert,Sem.run_bind,run_underlying m,run_underlying (nj j),run_underlying z,Result.andThen_ok];exact run_bytesToString w A u cap x (by simpa using g)
 cases X;cases X;cases X
def np(P:Program)(H:Ap)(t:TypeId)(v:AV):Option AV:=
 match P.underlying t,v with
 |some .string,.str s=>some (.int .i64 s.length)
 |some (.array n _),_=>some (.int .i64 n)
 |some (.slice _),.vs _ rows=>some (.int .i64 rows.length)
 |some (.slice _),.sl _ _ _ _ len=>some (.int .i64 len)
 |some (.slice _),.nils=>some (.int .i64 0)
 |_,_=>none
def AA5{P:Program}{w:World}{t ty:TypeId}(s:Ih c h H w)(r:BZ (cx c h H w) e b)(X:np P H t e=some n):
  ∃f,(Builtin.len_ #[t] ty #[b]).run P w= .ok f w/\BZ (cx c h H w) n f:=by
 unfold np at X;split at X;rename_i p d;simp only[Ai]at X;subst X;cases r with
 |str j m=>
  refine⟨.int .i64 j.size,by simp[Builtin.len_,run_underlying d,goInt],?_⟩;have:p.length=j.size:=by rw[<-m];simp
  rw[this];exact .int _ _
 rename_i u v d;simp only[Ai]at X;subst X;exact⟨.int .i64 u,by simp[Builtin.len_,run_underlying d,goInt],.int _ _⟩;rename_i sz i d;simp only[Ai]at X;subst X;cases r;exact⟨_,by simp[Builtin.len_,run_underlying d,goInt],.int _ _⟩;rename_i id g sz o len d;simp only[Ai]at X;subst X;cases r with
 |sl l x k q=>obtain⟨a,cap,rfl⟩:=k;exact⟨_,by simp[Builtin.len_,run_underlying d,goInt],.int _ _⟩
 rename_i d;simp only[Ai]at X;subst X;cases r;exact⟨_,by simp[Builtin.len_,run_underlying d,goInt],.int _ _⟩;cases X
def mmV(mx:Bool):List AV->Option AV
 |[.int k a,.int _ b]=>some (.int k (if mx then(if b>a then b else a)else(if b<a then b else a)))
 |_=>none
def zG{P:Program}{w:World}{mx:Bool}{ts:Array TypeId}{ty:TypeId}(g:BZ f n b)(h:BZ f e B)(a:mmV mx [n,e]=some D):
  ∃x,((if mx then Builtin.max_ ts ty #[b,B]else Builtin.min_ ts ty #[b,B]):Sem Value).run P w= .ok x w/\BZ f D x:=by
 cases n<;>try (simp[mmV]at a;done)
 cases e<;>try (simp[mmV]at a;done)
 cases g;cases h;simp only[mmV,Ai]at a;subst a;cases mx;exact⟨_,by simp[Builtin.min_,Builtin.min2],.int _ _⟩;exact⟨_,by simp[Builtin.max_,Builtin.max2],.int _ _⟩
def mm3:AV->AV->AV->Option AV
 | .int k a,.int _ b,.int _ c=>some (.int k (if c<(if b<a then b else a)then c else(if b<a then b else a)))
 |_,_,_=>none
def ABA{P:Program}{w:World}{ts:Array TypeId}{ty:TypeId}{u:AV}{g:Value}(i:BZ f e b)(j:BZ f n B)(k:BZ f D g)(a:mm3 e n D=some u):
  ∃x,(Builtin.min_ ts ty #[b,B,g]).run P w= .ok x w/\BZ f u x:=by
 unfold mm3 at a;split at a;cases i;cases j;cases k;simp at a;subst a;exact⟨_,by simp[Builtin.min_,Builtin.min2],.int _ _⟩;cases a
def ny:AV->Option Nat
 | .int _ i=>if 0<=i then some i.toNat else none
 |_=>none
def U4(d:Nat):Option AV->Option Nat
 |none=>some d
 |some v=>ny v
def eP(P:Program)(H:Ap)(t:TypeId)(v:AV)(lo hi mx:Option AV):Option AV:=
 match v with
 | .str s=>
  match U4 0 lo,U4 s.length hi,mx with
  |some l,some h,none=>if kd P t= .str/\l<=h/\h<=s.length then some (.str ((s.drop l).take (h-l)))else none
  |_,_,_=>none
 | .vs sz rows=>
  match U4 0 lo,U4 rows.length hi,U4 rows.length mx,eI P t with
  |some l,some h,some m,some (none,_,sz')=>if sz=sz'/\l<=h/\h<=m/\m<=rows.length/\(mx.isSome=true->hi.isSome=true)then some (.vs sz ((rows.drop l).take (h-l)))else none
  |_,_,_,_=>none
 | .sl id g sz off len=>
  match U4 0 lo,U4 len hi,U4 len mx,eI P t with
  |some l,some h,some m,some (none,_,sz')=>
   if sz=sz'/\0<sz/\l<=h/\h<=m/\m<=len/\Re H id g=true/\(mx.isSome=true->hi.isSome=true)then
    if l=0 then some (.sl id g sz off h)else if l=h then some (.vs sz [])else some (.sl id g sz (off+l*sz) (h-l))
   else none
  |_,_,_,_=>none
 | .nils=>
  match U4 0 lo,U4 0 hi,U4 0 mx,eI P t with
  |some 0,some 0,some 0,some (none,_,_)=>if mx.isSome=true->hi.isSome=true then some .nils else none
  |_,_,_,_=>none
 |_=>none
theorem xK(r:BZ f e b)(h:ny e=some N): ∃k i,b= .int k i/\0<=i/\i.toNat=N:=by
 cases e<;>try (simp[ny]at h;done)
 cases r;grind[ny]
def run_sliceBound{P:Program}{w:World}{code:BoundsCode}(r:BZ f e b)(h:ny e=some N)(x:N<=s):(Instr.sliceBound b s code).run P w= .ok N w:=by
 obtain⟨k,i,rfl,a,rfl⟩:=xK r h;have:i<=s:=by omega
 simp[Instr.sliceBound,asIntOf,a,this]
def Wa{P:Program}{w:World}{isSlice:Bool}{len cap l h m:Nat}{k j mx:Option AV}{e b cmx:Option Value}(i: ∀v,k=some v→ ∃c,e=some c∧BZ f v c)(g:k=none→e=none)
  (o: ∀v,j=some v-> ∃c,b=some c/\BZ f v c) (t:j=none->b=none) (z: ∀v,mx=some v-> ∃c,cmx=some c/\BZ f v c) (u:mx=none->cmx=none)
  (a:U4 0 k=some l) (q:U4 len j=some h) (D:U4 len mx=some m) (s:l<=h) (E:h<=m) (J:m<=len) (K:len<=cap) (F:mx.isSome=true->j.isSome=true):
  (Instr.sliceBounds isSlice len cap e b cmx).run P w= .ok (l,h,if mx.isSome then m else cap) w:=by
 unfold Instr.sliceBounds;cases mx with
 |none=>
  obtain rfl:=u rfl;cases j with
  |none=>
   obtain rfl:=t rfl;simp only[U4,Ai]at q;subst q;cases k with
   |none=>obtain rfl:=g rfl;simp only[U4,Ai]at a;simp[a]
   |some v=>obtain⟨d,rfl,r⟩:=i v rfl;have n:=λc=>run_sliceBound (P:=P) (w:=w) (code:=c) r a s;simp[n]
  |some A=>
   obtain⟨B,rfl,y⟩:=o A rfl;have p:=λc=>run_sliceBound (P:=P) (w:=w) (code:=c) y q (show h<=cap by omega);cases k with
   |none=>obtain rfl:=g rfl;simp only[U4,Ai]at a;simp[a,p]
   |some v=>obtain⟨d,rfl,r⟩:=i v rfl;have n:=λc=>run_sliceBound (P:=P) (w:=w) (code:=c) r a s;simp[p,n]
 |some H=>
  obtain⟨I,rfl,G⟩:=z H rfl;have x:=F rfl;cases j with
  |none=>simp at x
  |some A=>
   obtain⟨B,rfl,y⟩:=o A rfl;have C:=λc=>run_sliceBound (P:=P) (w:=w) (code:=c) G D (show m<=cap by omega);have p:=λc=>run_sliceBound (P:=P) (w:=w) (code:=c) y q E;simp only[Sem.run_bind,C,p,Result.andThen_ok,Option.isSome_some,if_true];cases k with
   |none=>obtain rfl:=g rfl;simp only[U4,Ai]at a;simp[a]
   |some v=>obtain⟨d,rfl,r⟩:=i v rfl;have n:=λc=>run_sliceBound (P:=P) (w:=w) (code:=c) r a s;simp[n]
theorem PO{P:Program}{e:TypeId}(t:eI P a=some (none,e,N)):P.underlying a=some (.slice e)/\ ∃b,tI P e=some (b,N):=by unfold eI at t;split at t;simp_all;rename_i c d;cases f:tI P c<;>grind;cases t
theorem xd{lo V q:Option AV}{N L A:Option Value}(s:Ih c h H w)(r:BZ (cx c h H w) e b)
  (K: ∀e,lo=some e-> ∃b,N=some b/\BZ (cx c h H w) e b) (G:lo=none->N=none)
  (J: ∀e,V=some e-> ∃b,L=some b/\BZ (cx c h H w) e b) (F:V=none->L=none) (R: ∀e,q=some e-> ∃b,A=some b/\BZ (cx c h H w) e b) (I:q=none->A=none)
  (d:eP P H a e lo V q=some n): ∃c',(Instr.sliceAt a b N L A).run P w= .ok c' w/\BZ (cx c h H w) n c':=by
 unfold eP at d;split at d;rename_i s';split at d;rename_i l p S O;split at d;rename_i o;obtain⟨hk,h1,U⟩:=o;simp only[Ai]at d;subst d;obtain rfl:=I rfl;cases r with
 |str t' ht=>
  have x:s'.length=t'.size:=by rw[<-ht];simp
  rw[x]at O U;have o:=Wa (P:=P) (w:=w) (isSlice:=false) (len:=t'.size) (cap:=t'.size) (mx:=none) (cmx:=none) K G J F (λ_ h=>by cases h) (λ_=>rfl) S O rfl h1 U (Ag _) (Ag _) (λh=>by cases h);refine⟨.string (t'.extract l p),?_,.str _ ?_⟩;simp only[Instr.sliceAt,Instr.slice,Sem.run_bind,run_underlying (nj hk),Result.andThen_ok,Option.isSome_none,J5,if_false,o,Sem.run_pure];simp_all[pE]
 cases d;cases d;rename_i sz k;split at d;rename_i l p m t a1 S O Z he;split at d;rename_i o;obtain⟨rfl,h1,U,h3,h4⟩:=o;simp only[Ai]at d;subst d;obtain⟨z,X,y⟩:=PO he;cases r with
 | @vs sz k v cap f C Y ao ha d=>
  have o:=Wa (P:=P) (w:=w) (isSlice:=true) (len:=k.length) (cap:=cap) K G J F R I S O Z h1 U h3 C h4;have E: ∀{j:Nat} {t:AV},((k.drop l).take (p-l))[j]? =some t->k[l+j]? =some t:=by grind
  have x:((k.drop l).take (p-l)).length=p-l:=by simp;omega
  refine⟨.slice (if(if q.isSome then m else cap)=l then v else v.map (·.add (l*sz))) (p-l) ((if q.isSome then m else cap)-l),?_,?_⟩;simp only[Instr.sliceAt,Instr.slice,Sem.run_bind,run_underlying z,Result.andThen_ok,o,Kc y,Sem.run_pure];have hM:p<=(if q.isSome then m else cap):=by split<;>omega
  generalize (if q.isSome then m else cap)=M at hM;have T:BZ (cx c h H w) (.vs sz ((k.drop l).take (p-l))) (.slice (if M=l then v else v.map (·.add (l*sz))) ((k.drop l).take (p-l)).length (M-l)):=?_;rw[x]at T;exact T;refine .vs (λj i=>f (l+j) i) (by rw[x];omega) Y (λj t hj=>ao _ t (E hj)) (λa4=>?_) λj t i e hj V=>d _ t i e (E hj) V;have a3:l<p:=by rcases Ao l p with h5|h5;exact h5;simp_all[EU]
  obtain⟨B,u,rfl,hO,hB,hc⟩:=ha (by intro t;rw[t]at h3;simp at h3;omega);refine⟨B,u+l*sz,?_,hO,hB,λj t i e hj V=>?_⟩;grind[Nv];have:=hc _ t i e (E hj) V;rw[GY]at this;rw[show u+l*sz+(j*sz+i)=u+(l*sz+j*sz+i)from by omega];exact this
 cases d;cases d;rename_i id g sz u len;split at d;rename_i l p m t a1 S O Z he;split at d;rename_i o;obtain⟨rfl,Y,h1,U,h3,ad,h4⟩:=o;obtain⟨z,X,y⟩:=PO he;cases r with
 | @sl id g sz u len b W hg a2 hc=>
  rcases hc (s.cur ad)with⟨Q,rfl,rfl,rfl⟩|⟨B,cap,Q,C,D,rfl⟩;have o:=Wa (P:=P) (w:=w) (isSlice:=true) (len:=0) (cap:=0) K G J F R I S O Z h1 U h3 (Ag _) h4;have ax:l=0:=by omega
  have ar:p=0:=by omega
  have a0:m=0:=by omega
  subst ax ar a0;simp only[if_true,Ai]at d;subst d;refine⟨.slice none 0 0,?_,.sl W hg ⟨_,_,rfl⟩ λ_=>.inl ⟨Q,rfl,rfl,rfl⟩⟩;simp only[Instr.sliceAt,Instr.slice,Sem.run_bind,run_underlying z,Result.andThen_ok,o,Kc y,Sem.run_pure];cases q<;>simp;have o:=Wa (P:=P) (w:=w) (isSlice:=true) (len:=len) (cap:=cap) K G J F R I S O Z h1 U h3 C h4
  have ap:(Instr.sliceAt a (.slice (some ⟨B,u,none⟩) len cap) N L A).run P w=
    .ok (.slice (if(if q.isSome then m else cap)=l then some ⟨B,u,none⟩else(some ⟨B,u,none⟩:Option Addr).map (·.add (l*sz))) (p-l) ((if q.isSome then m else cap)-l)) w:=by
   simp only[Instr.sliceAt,Instr.slice,Sem.run_bind,run_underlying z,Result.andThen_ok,o,Kc y,Sem.run_pure]
  refine⟨_,ap,?_⟩;have hM:p<=(if q.isSome then m else cap)/\(if q.isSome then m else cap)<=cap:=by split<;>omega
  generalize (if q.isSome then m else cap)=M at hM;split at d;rename_i hl;subst hl;simp only[Ai]at d;subst d;refine .sl W hg ⟨_,_,rfl⟩ λ_=>.inr ⟨B,M,Q,hM.1,?_,?_⟩;exact EC (Nat.add_le_add_left (PL _ hM.2) _) D;simp[Nv];rename_i hl;split at d;rename_i al;subst al;simp only[Ai]at d;subst d;rw[G3];exact BZ.vs (rows:=[]) (λ_ _=>undef) (Bt _) Y (λ_ _ h=>by simp at h) (λh=>(h rfl).elim) λ_ _ _ _ h=>by simp at h
  rename_i al;simp only[Ai]at d;subst d;refine .sl W hg ⟨_,_,rfl⟩ λ_=>.inr ⟨B,M-l,Q,by omega,?_,?_⟩;rw[aK,<-GY];have:l+(M-l)=M:=by omega
  rw[this];exact EC (Nat.add_le_add_left (PL _ hM.2) _) D;rw[if_neg (by omega)];simp[Nv]
 cases d;cases d;split at d;rename_i t sz S O Z he;split at d;rename_i h4;simp only[Ai]at d;subst d;obtain⟨z,X,y⟩:=PO he;cases r;have o:=Wa (P:=P) (w:=w) (isSlice:=true) (len:=0) (cap:=0) K G J F R I S O Z (Ag _) (Ag _) (Ag _) (Ag _) h4;refine⟨.slice none 0 0,?_,.nils⟩;simp only[Instr.sliceAt,Instr.slice,Sem.run_bind,run_underlying z,Result.andThen_ok,o,Kc y,Sem.run_pure];cases q<;>simp;cases d;cases d;cases d
def AV.solid:AV->Bool
 | .any=>false
 | .tup _=>false
 |_=>true
def ZX(h:b.oneCell'=true):b.cells= #[b]:=by cases b<;>first|rfl|(simp[Value.oneCell']at h;done)
theorem UZ(r:BZ f e b)(h:e.solid=true):BZ f (.agg e.cells) (.agg b.cells):=by
 have one: ∀{u:AV} {d:Value},BZ f u d->d.oneCell'=true->d.cells= #[d]->u.cells=[u]->BZ f (.agg u.cells) (.agg d.cells):=by intro u d A g q z;rw[q,z];refine .agg rfl (λj b s=>?_) λj e b s l=>?_;grind;grind
 cases r with
 |agg o g p=>exact .agg o g p
 |any b=>simp[AV.solid]at h
 |tup o p=>simp[AV.solid]at h
 |ptr i m g l=>exact one (.ptr i m g l) g (ZX g) rfl
 |sl i m g l=>obtain⟨a,cap,rfl⟩:=g;exact one (.sl i m ⟨a,cap,rfl⟩ l) rfl (ZX rfl) rfl
 |bool c=>exact one (.bool c) rfl rfl rfl
 |int k n=>exact one (.int k n) rfl rfl rfl
 |str t y=>exact one (.str t y) rfl rfl rfl
 |nilp=>exact one .nilp rfl rfl rfl
 |vptr x a c b d=>exact one (.vptr x a c b d) rfl rfl rfl
 |nils=>exact one .nils rfl rfl rfl
 |vs x a c b d v=>exact one (.vs x a c b d v) rfl rfl rfl
 |fn a c b d=>exact one (.fn a c b d) rfl rfl rfl
 |yf i g l=>exact one (.yf i g l) g (ZX g) rfl
 |mp i g l=>exact one (.mp i g l) g (ZX g) rfl
 |itp i w g l=>exact one (.itp i w g l) g (ZX g) rfl
 |nilf=>exact one .nilf rfl rfl rfl
def UY(cs:List AV)(off:Nat)(vs:List AV):List AV:=cs.take off++vs++cs.drop (off+vs.length)
theorem eN(h:N+G.length<=d.length):(UY d N G).length=d.length:=by grind[UY]
theorem oO(h:N+G.length<=d.length)(j:Nat):(UY d N G)[j]? =if N<=j/\j<N+G.length then G[j-N]? else d[j]? :=by grind[UY,List.getElem?_append_left]
inductive Xj where
 |arr (sz:Nat)
 |str (l:List (Nat×Nat))
def Xj.at_:Xj->Nat->Option (Nat×Nat)
 | .arr sz,i=>some (i*sz,sz)
 | .str l,i=>l[i]?
def Wc(P:Program)(t:TypeId):Option (List AV):=
 match (P.info? t).bind (·.zero)with
 |some z=>if z.cells.toList.all (·.oneCell')then some (z.cells.toList.map lS)else none
 |none=>none
def oH(P:Program)(t:TypeId):Option Xj:=
 match P.underlying t with
 |some (.struct fs)=>(fs.toList.mapM λf=>(P.info? f.type).map λi=>(f.offset,i.size)).map Xj.str
 |some (.array _ e)=>(P.info? e).map λi=>Xj.arr i.size
 |_=>none
def lU(p:Xj):List AV->List (Nat×AV)->Option (List AV)
 |cs,[]=>some cs
 |cs,(i,v)::r=>
  match p.at_ i with
  |some (off,size)=>if v.solid=true/\v.cells.length=size/\off+size<=cs.length then lU p (UY cs off v.cells) r else none
  |none=>none
def mv(P:Program)(t:TypeId)(parts:List (Nat×AV)):Option AV:=
 match Wc P t,oH P t with
 |some z,some p=>(lU p z parts).map AV.agg
 |_,_=>none
theorem aD(x:Cx)(h:Wc P a=some d): ∃i v,P.info? a=some i/\i.zero=some v/\BZ x (.agg d) (.agg v.cells):=by
 unfold Wc at h;cases z:P.info? a with
 |none=>grind
 |some i=>
  cases b:i.zero with
  |none=>grind
  |some v=>rw[z]at h;simp only[AE,b]at h;split at h;rename_i t;simp at h;subst h;refine⟨i,v,rfl,b,.agg (by simp) (λj c e=>?_) λj u c e f=>?_⟩;grind;grind[kK];cases h
theorem foldl_set(a:Nat): ∀(l:List Value) (k:Nat) (b:Array Value),a+k+l.length≤b.size→
  ((l.zipIdx k).foldl (λb (p:Value×Nat)=>b.setIfInBounds (a+p.2) p.1) b).size=b.size/\∀j,((l.zipIdx k).foldl (λb (p:Value×Nat)=>b.setIfInBounds (a+p.2) p.1) b)[j]? =if a+k<=j/\j<a+k+l.length then l[j-(a+k)]? else b[j]?
 |[],k,b,_=>by simp;intro j c d;omega
 |v::l,k,b,h=>by simp at h⊢;obtain⟨c,d⟩:=foldl_set a l (k+1) (b.setIfInBounds (a+k) v) (by simp;omega);grind
theorem zn{x:Array Value}{off:Nat}(r:BZ f (.agg d) (.agg i))(p:BZ f (.agg G) (.agg x))(h:off+G.length≤d.length)(a:Array Value)
  (e:a.size=i.size) (g: ∀j,a[j]? =if off<=j/\j<off+x.size then x[j-off]? else i[j]?):BZ f (.agg (UY d off G)) (.agg a):=by
 cases r with
 |agg m q t=>
  cases p with
  |agg n k o=>refine .agg (by rw[e,m,eN h]) (λj c l=>?_) λj v c l s=>?_;grind;grind[oO]
theorem pS{x:Cx}(p:Xj): ∀(b:List (Nat×AV)) (a:List (Nat×Value)) (f:List AV) (d:Array Value) (n:List AV),a.map (·.1)=b.map (·.1)→
  (∀(j:Nat) (q:Nat×AV) (o:Nat×Value),b[j]? =some q->a[j]? =some o->BZ x q.2 o.2)->BZ x (.agg f) (.agg d)->lU p f b=some n->
  ∃l,Instr.fill p.at_ d a=some l/\BZ x (.agg n) (.agg l)
 |[],a,f,d,n,m,_,r,h=>by
  have:a=[]:=by simp_all
  subst this;simp only[lU,Ai]at h;subst h;exact⟨d,rfl,r⟩
 |(i,v)::b,(i',c)::a,f,d,n,m,hr,r,h=>by
  simp at m;obtain⟨rfl,m⟩:=m;simp only[lU]at h;split at h;rename_i e size E;split at h;rename_i u;obtain⟨g,rfl,s⟩:=u;have t:=UZ (hr 0 (i',v) (i',c) rfl rfl) g;have z:c.cells.size=v.cells.length:=by cases t with|agg h _ _=>exact h
  have w:d.size=f.length:=by cases r with|agg h _ _=>exact h
  have k:=foldl_set e c.cells.toList 0 d (by grind);have B:c.cells.zipIdx.foldl (λf (p:Value×Nat)=>f.setIfInBounds (e+p.2) p.1) d=(c.cells.toList.zipIdx 0).foldl (λf (p:Value×Nat)=>f.setIfInBounds (e+p.2) p.1) d:=by rw[<-Array.foldl_toList,Array.toList_zipIdx]
  have A:=zn (off:=e) r t s ((c.cells.toList.zipIdx 0).foldl (λf (p:Value×Nat)=>f.setIfInBounds (e+p.2) p.1) d) k.1 (λj=>by grind);obtain⟨l,C,D⟩:=pS p b a _ _ n m (λj q o F y=>hr (j+1) q o (by grind) (by grind)) A h;grind[Instr.fill];cases h;cases h
theorem wZ{b:List (Nat×AV)}{t:Array (Nat×Value)}(E:t.toList.map (·.1)=b.map (·.1))
  (hr: ∀(j:Nat) (q:Nat×AV) (A:Nat×Value),b[j]? =some q->t.toList[j]? =some A->BZ f q.2 A.2) (h:mv P a b=some e): ∃c,(Instr.build a t).run P w= .ok c w/\BZ f e c:=by
 unfold mv at h;split at h;rename_i z p F d;cases y:lU p z b with
 |none=>grind
 |some H=>
  rw[y]at h;simp at h;subst h;obtain⟨i,v,D,k,G⟩:=aD f F;obtain⟨m,s,C⟩:=pS p b t.toList z v.cells H E hr G y;refine⟨.agg m,run_build w a t m ?_,C⟩;unfold Program.built;rw[D];unfold oH at d;split at d;rename_i B r;rw[r];cases o:B.toList.mapM (λu=>(P.info? u.type).map λi=>(u.offset,i.size))with
  |none=>grind
  |some l=>simp only[k,o];rw[<-s];congr 1;grind[Xj.at_]
  rename_i n x r;rw[r];cases g:P.info? x with
  |none=>grind
  |some I=>rw[g]at d;simp at d;subst d;simp only[k,g];exact s
  cases d
 cases h
def CM(P:Program)(env:Env)(H:Ap):Op->Option AV
 | .move x| .assign x=>some (BC env x)
 | .pick c a b=>
  match BC env c with
  | .bool t=>some (if t then BC env a else BC env b)
  |_=>none
 | .load t a=>cQ P t H (BC env a)
 | .nilCheck x=>
  match BC env x with
  | .ptr id g off=>if Re H id g then some (.ptr id g off)else none
  | .vptr cs=>some (.vptr cs)
  | .fn (.func f) a b=>some (.fn (.func f) a b)
  |_=>none
 | .binOp op t x y _=>sE P op t (BC env x) (BC env y)
 | .unOp op _ x=>unV op (BC env x)
 | .convert s d x=>Uy P H s d (BC env x)
 | .fieldAddr s x f=>Tu P H s f (BC env x)
 | .field s x f=>nL P s f (BC env x)
 | .indexAddr t x i=>Tz P H t (BC env x) (BC env i)
 | .index t x i=>eG P t (BC env x) (BC env i)
 | .slice t x lo hi mx=>eP P H t (BC env x) (lo.map (BC env)) (hi.map (BC env)) (mx.map (BC env))
 | .extract x i=>
  match BC env x with
  | .tup vs=>vs[i]?
  |_=>none
 | .makeFunc f a b=>some (.fn f (a.toList.map (BC env)) (b.toList.map (BC env)))
 | .build t parts=>mv P t (parts.toList.map λp=>(p.1,BC env p.2))
 | .call {callee:=.builtin .len,args:=⟨[x]⟩,argTypes:=⟨[t]⟩}=>np P H t (BC env x)
 | .call {callee:=.builtin .max,args:=⟨[x,y]⟩,.. }=>mmV true [BC env x,BC env y]
 | .call {callee:=.builtin .min,args:=⟨[x,y]⟩,.. }=>mmV false [BC env x,BC env y]
 | .call {callee:=.builtin .min,args:=⟨[x,y,z]⟩,.. }=>mm3 (BC env x) (BC env y) (BC env z)
 |_=>none
def xS{P:Program}{N:Nat}{X:Nat→Prop}{h:Gh}{env:Env}{H:Ap}{a:Act}{w:World}{o:Oper}{v:AV}(s:St X h N env H a w)(b:CM P env H o.op=some v):
  ∃c,(execOp a.eval o).run P w= .ok (.value c) w/\BZ (cx X h H w) v c:=by
 have k:=λx=>Cz s.env x;have d: ∀{m:Sem Value},(∃c,m.run P w= .ok c w/\BZ (cx X h H w) v c)-> ∃c,(do pure (Next.value (<-m)):Sem Next).run P w= .ok (.value c) w/\BZ (cx X h H w) v c:=by rintro m ⟨c,u,hr⟩;exact⟨c,by simp[u],hr⟩
 unfold execOp;cases e:o.op with
 |move x=>rw[e]at b;simp only[CM,Ai]at b;subst b;exact⟨_,rfl,k x⟩
 |assign x=>rw[e]at b;simp only[CM,Ai]at b;subst b;exact⟨_,rfl,k x⟩
 |pick c x y=>rw[e]at b;simp only[CM]at b;split at b;rename_i t ht;have u:=k c;rw[ht]at u;simp only[Ai]at b;subst b;generalize W:a.eval c=cv at u;cases u;simp only[W,asBool];cases t;exact⟨_,by simp,k y⟩;exact⟨_,by simp,k x⟩;cases b
 |load t x=>rw[e]at b;simp only[CM]at b;obtain⟨B,ad,D,E,hl,hr⟩:=tC s.sim (k x) b;exact d ⟨D,by rw[E];simp[Instr.loadAt,Instr.sureAddr,hl],hr⟩
 |nilCheck x=>
  rw[e]at b;simp only[CM]at b;have z:=k x;split at b;rename_i id g ad E;rw[E]at z;split at b;rename_i M;simp only[Ai]at b;subst b;generalize A:a.eval x=c at z;cases z with
  |ptr Y S n u=>obtain⟨B,al,rfl⟩:=u (s.sim.cur M);exact⟨_,by simp only[A];rfl,.ptr Y S n u⟩
  cases b;rename_i cs E;rw[E]at z;simp only[Ai]at b;subst b;generalize A:a.eval x=c at z;cases z with
  |vptr f n r U V=>exact⟨_,by simp only[A];rfl,.vptr f n r U V⟩
  rename_i f p q E;rw[E]at z;simp only[Ai]at b;subst b;generalize A:a.eval x=c at z;cases z with
  |fn n r U V=>exact⟨_,by simp only[A];rfl,.fn n r U V⟩
  cases b
 |binOp op t x y yt=>rw[e]at b;simp only[CM]at b;exact d (AAS w (k x) (k y) b)
 |unOp op t x=>rw[e]at b;simp only[CM]at b;exact d (ADM w (k x) b)
 |convert p q x=>rw[e]at b;simp only[CM]at b;exact d (yY s.sim (k x) b)
 |fieldAddr p x f=>rw[e]at b;simp only[CM]at b;exact d (oo s.sim (k x) b)
 |field p x f=>rw[e]at b;simp only[CM]at b;exact d (w7 (k x) b)
 |indexAddr t x i=>rw[e]at b;simp only[CM]at b;exact d (oy s.sim (k x) (k i) b)
 |index t x i=>rw[e]at b;simp only[CM]at b;exact d (xC (k x) (k i) b)
 |slice t x lo hi T=>
  rw[e]at b;simp only[CM]at b;have G: ∀(y:Option Operand) (v:AV),y.map (BC env)=some v-> ∃c,y.map a.eval=some c/\BZ (cx X h H w) v c:=by
   intro y v Q;cases y with
   |none=>cases Q
   |some y=>simp only[Bf,Ai]at Q;subst Q;exact⟨_,rfl,k y⟩
  have C: ∀(y:Option Operand),y.map (BC env)=none->y.map a.eval=none:=by
   intro y Q;cases y with
   |none=>rfl
   |some y=>cases Q
  exact d (xd s.sim (k x) (G lo) (C lo) (G hi) (C hi) (G T) (C T) b)
 |extract x i=>
  rw[e]at b;simp only[CM]at b;have z:=k x;split at b;rename_i vs E;rw[E]at z;generalize u:a.eval x=c at z;cases z with
  | @tup vs R hs Z=>
   have ao:i<vs.length:=by rcases Ao i vs.length with r|r;exact r;rw[Ck r]at b;cases b
   have S:R[i]? =some (R[i]'(by omega)):=OP (by omega);refine d ⟨_,?_,Z i v _ b S⟩;simp only[Instr.extract,u,S];rfl
  cases b
 |makeFunc f p q=>
  rw[e]at b;simp only[CM,Ai]at b;subst b;have L: ∀(p:Array Operand) (j:Nat) (v:AV) (c:Value),(p.toList.map (BC env))[j]? =some v->(p.map a.eval)[j]? =some c->BZ (cx X h H w) v c:=by
   intro p j v c J u;rw[CC,Od]at J;rw[Vq]at u;cases O:p[j]? with
   |none=>rw[O]at J;cases J
   |some y=>rw[O]at J u;simp only[Bf,Ai]at J u;subst J u;exact k y
  exact d ⟨_,rfl,.fn (by simp) (by simp) (L p) (L q)⟩
 |build t I=>
  rw[e]at b;simp only[CM]at b;refine d (wZ ?_ ?_ b);simp;intro j q q' K F;rw[CC,Od]at K;rw[Od,Vq]at F;cases O:I[j]? with
  |none=>rw[O]at K;cases K
  |some y=>rw[O]at K F;simp only[Bf,Ai]at K F;subst K F;exact k y.2
 |call c=>
  rw[e]at b;simp only[CM]at b;split at b<;>rename_i l<;>first
   |(cases b;done)
   |(cases l;done)
   |skip
  injection l with l;subst l;simp only[resolve,invoke,builtin,Sem.run_bind,Sem.run_pure,Result.andThen_ok,PF,Be,IW];obtain⟨D,n,r⟩:=AA5 (ty:=o.type) s.sim (k _) b;exact⟨D,by rw[n];rfl,r⟩;injection l with l;subst l;simp only[resolve,invoke,builtin,Sem.run_bind,Sem.run_pure,Result.andThen_ok,PF,Be,IW];obtain⟨D,n,r⟩:=zG (P:=P) (w:=w) (mx:=true) (ts:=_) (ty:=o.type) (k _) (k _) b;exact⟨D,by simp only[if_true]at n;rw[n];rfl,r⟩;injection l with l;subst l;simp only[resolve,invoke,builtin,Sem.run_bind,Sem.run_pure,Result.andThen_ok,PF,Be,IW];obtain⟨D,n,r⟩:=zG (P:=P) (w:=w) (mx:=false) (ts:=_) (ty:=o.type) (k _) (k _) b;exact⟨D,by simp only[J5,if_false]at n;rw[n];rfl,r⟩;injection l with l;subst l;simp only[resolve,invoke,builtin,Sem.run_bind,Sem.run_pure,Result.andThen_ok,PF,Be,IW];obtain⟨D,n,r⟩:=ABA (P:=P) (w:=w) (ts:=_) (ty:=o.type) (k _) (k _) (k _) b;exact⟨D,by rw[n];rfl,r⟩
 |_=>rw[e]at b;simp[CM]at b
def Db{P:Program}{N:Nat}{H:Ap}{v:AV}(b:CM P g H o.op=some v)(e:K v H):Iv P N o g H K:=by apply Co (by cases f:o.op<;>first|rfl|(rw[f]at b;simp[CM]at b));intro X h a w s Q;obtain⟨c,d,hr⟩:=xS s b;unfold Oper.wp;rw[d,Oper.upon_value];exact⟨c,v,h,H,rfl,e,hr,s.sim,G2.refl _ _ _⟩
section
variable {X:Nat->Prop} {h:Gh} {H:Ap} {w:World}
def Gh.at_(h:Gh)(id:Nat)(io:Option Nat)(gen cap:Nat):Gh:=
 ⟨λi=>if i=id then io else h.io i,λi=>if i=id then gen else h.gen i,λi=>if i=id then cap else h.cap i⟩
def dO(x:Cx)(cs:List AV)(arr:Array Value)(fz:Nat×Nat):Prop:=
 ∃f:Nat->Value,cs.length<=arr.size/\(∀i,i<arr.size->(decide (fz.1<=i)&&decide (i<fz.2))=false)/\
  ∀(j:Nat) (v:AV),cs[j]? =some v->arr[j]? =some (f j)/\(f j).oneCell'=true/\BZ x v (f j)
def O2(r:BZ f (.agg d) (.agg i)):dO f d i (0,0):=by
 cases r with
 |agg l h k=>
  refine⟨λj=>i.getD j undef,by omega,λa _=>by simp,λj v c=>?_⟩;have b:j<i.size:=by rcases Ao j d.length with g|g;omega;rw[Ck g]at c;cases c
  have x:i[j]? =some (i[j]):=OP b;have e:i.getD j undef=i[j]:=by simp[b]
  show i[j]? =some (i.getD j undef)/\(i.getD j undef).oneCell'=true/\BZ f v (i.getD j undef);rw[e];exact⟨x,h j _ x,k j v _ c x⟩
def Ih.of_ext'(s:Ih X h H w)(hx:G2 h H w I J A)
  (key: ∀(id:Nat) (e:Ec),J[id]? =some e->e≠ .dead->(H[id]? =some e/\I.gen id=h.gen id/\I.io id=h.io id/\I.cap id=h.cap id/\ ∀B,h.io id=some B->A.heap[B]? =w.heap[B]?)\/((∃g S,e= .live g S/\vQ (cx X I J A) id g S)\/(∃L,e= .lp L/\qM (cx X I J A) id L)\/(e.isB=true/\BAt I J A id e)))
  (R: ∀(id T e i:Nat) (l:Option (List UInt8)),J[id]? =some (.bld T e i l)->H[id]? =some (.bld T e i l)->J[i]? =some (.brow id)->BAt I J A id (.bld T e i l))
  (inj: ∀(id q:Nat) (e e':Ec) (B:Nat),J[id]? =some e->J[q]? =some e'->e≠ .dead->e'≠ .dead->I.io id=some B->I.io q=some B->id=q):Ih X I J A:=by
 have hl:=hx.later X;refine⟨λB x=>⟨C9 (s.out B x).1 hx.size,λV=>?_⟩,λid g S K=>?_,λid L K=>?_,inj,λid e K x=>?_⟩;rcases hx.fresh B V with V|V;exact(s.out B x).2 V;have:=(s.out B x).1;omega;rcases key id _ K (by simp)with⟨c,E,z,U,C⟩|⟨g',N,e,hn⟩|⟨L,e,_⟩|⟨e,_⟩;obtain⟨hg,Q⟩:=s.live id g S c;refine⟨E.trans hg,?_⟩;rcases Q with⟨hn,rfl⟩|⟨B,M,T',W,f,d,Z,P,al,ad,y⟩;exact .inl ⟨z.trans hn,rfl⟩;refine .inr ⟨B,M,T',W,f,z.trans d,(C B d).trans Z,P.trans U.symm,al,ad,λj v hj=>?_⟩;obtain⟨p1,p2,p3⟩:=y j v hj;exact⟨p1,p2,p3.later hl⟩;injection e with a b;subst a b;exact hn;cases e;cases e;rcases key id _ K (by simp)with⟨c,E,z,U,C⟩|⟨g',N,e,hn⟩|⟨L',e,hn⟩|⟨e,_⟩;obtain⟨hg,B,r,d,Z,u,F,G,O,h5,Y,h7⟩:=s.lp id L c;exact⟨E.trans hg,B,r,z.trans d,(C B d).trans Z,u,F,G,O,h5,Y,λt v m=>⟨(h7 t v m).1,(h7 t v m).2.later hl⟩⟩;cases e;injection e with a;subst a;exact hn;cases e;rcases key id _ K (by rintro rfl;cases x)with⟨c,E,z,U,C⟩|⟨g',N,e,hn⟩|⟨L',e,hn⟩|⟨_,hn⟩;cases e with
 |bld T e0 i l=>by_cases hr:J[i]? =some (.brow id);exact R id T e0 i l K c hr;obtain⟨B,p,v,u,F,G,O,Y,_⟩:=s.bld id _ c x;exact⟨B,p,v,z.trans u,(C B u).trans F,G,E.trans O,Y,λh=>(hr h).elim⟩
 |brow o=>intro B d;obtain⟨D,T,fz,u⟩:=s.bld id _ c x B (z▸d);exact⟨D,T,fz,(C B (z▸d)).trans u⟩
 |mp k es=>obtain⟨B,D,u,F,G,O⟩:=s.bld id _ c x;exact⟨B,D,z.trans u,E.trans F,(C B u).trans G,O⟩
 |it n seen=>obtain⟨B,u,F,G⟩:=s.bld id _ c x;exact⟨B,z.trans u,E.trans F,by rw[U];exact(C B u).trans G⟩
 |_=>cases x
 subst e;cases x;subst e;cases x;exact hn
def Ih.of_ext(s:Ih X h H w)(f:G2 h H w I J A)
  (key: ∀(id:Nat) (e:Ec),J[id]? =some e->e≠ .dead->(H[id]? =some e/\I.gen id=h.gen id/\I.io id=h.io id/\I.cap id=h.cap id/\ ∀B,h.io id=some B->A.heap[B]? =w.heap[B]?)\/((∃g r,e= .live g r/\vQ (cx X I J A) id g r)\/ ∃L,e= .lp L/\qM (cx X I J A) id L))
  (inj: ∀(id d:Nat) (e t:Ec) (B:Nat),J[id]? =some e->J[d]? =some t->e≠ .dead->t≠ .dead->I.io id=some B->I.io d=some B->id=d):Ih X I J A:=by
 refine s.of_ext' f (λid e j m=>?_) (λid T O o l j k hr=>?_) inj;rcases key id e j m with b|b|b;exact .inl b;exact .inr (.inl b);exact .inr (.inr (.inl b));obtain⟨B,p,v,b,D,E,F,c,G⟩:=s.bld id _ k rfl;rcases key id _ j (by simp)with⟨_,u,x,P,y⟩|⟨_,_,e,_⟩|⟨_,e,_⟩;rcases key o _ hr (by simp)with⟨n,Q,z,R,a⟩|⟨_,_,e,_⟩|⟨_,e,_⟩;refine⟨B,p,v,x.trans b,(y B b).trans D,E,u.trans F,c,λ_=>?_⟩;obtain⟨q1,q2⟩:=G n;refine⟨⟨q1.1,?_⟩,q2.trans z.symm⟩;rcases q1.2 with q|⟨g,cap,i,C,rfl,K,M,N⟩;exact .inl q;refine .inr ⟨g,cap,i,C,rfl,K,(a g ?_).trans M,N⟩;simpa[Value.ownBlock]using q2.symm;cases e;cases e;cases e;cases e
def IR{e:Ec}(a:(H++[l])[N]? =some e):(N<H.length/\H[N]? =some e)\/(N=H.length/\e=l):=by rcases PJ N H.length with b|rfl|c;rw[B6 b]at a;exact .inl ⟨b,a⟩;rw[Cb (Ag _),G3]at a;simp at a;exact .inr ⟨rfl,a.symm⟩;rw[Ck (by simp;omega)]at a;cases a
def Iu{e:Ec}(c:N<H.length)(a:(H.set N l)[s]? =some e):(s≠N/\H[s]? =some e)\/(s=N/\e=l):=by by_cases b:s=N;subst b;rw[Hi c]at a;simp at a;exact .inr ⟨rfl,a.symm⟩;rw[Dt (λe=>b e.symm)]at a;exact .inl ⟨b,a⟩
def G2.push(o:Obj)(cap:Nat)(E:Ec):
  G2 h H w (h.at_ H.length (some w.heap.size) 0 cap) (H++[E]) {w with heap:=w.heap.push o}where
 os:=rfl
 tape:=rfl
 output:=rfl
 size:=by simp
 keep B hB _:=by simp[Ri,BR hB]
 n:=by simp
 gen id hid:=by simp[Gh.at_,BR hid]
 same id hid _:=by simp[Gh.at_,BR hid]
 fresh B ho:=by obtain⟨id,e,b,d,a⟩:=ho;rcases IR b with⟨c,b⟩|⟨rfl,rfl⟩;exact .inl ⟨id,e,b,d,by simpa[Gh.at_,BR c]using a⟩;simp[Gh.at_]at a;exact .inr (by omega)
 loops B r hB:=⟨r,by have:=M5 hB;simp[Ri,BR this,hB]⟩
def Ih.push_any(s:Ih X h H w)(o:Obj)(cap:Nat)(E:Ec)
  (t:E≠ .dead->((∃g l,E= .live g l/\vQ (cx X (h.at_ H.length (some w.heap.size) 0 cap) (H++[E]) {w with heap:=w.heap.push o}) H.length g l)\/∃L,E= .lp L/\qM (cx X (h.at_ H.length (some w.heap.size) 0 cap) (H++[E]) {w with heap:=w.heap.push o}) H.length L)):
  Ih X (h.at_ H.length (some w.heap.size) 0 cap) (H++[E]) {w with heap:=w.heap.push o}:=by
 refine s.of_ext (G2.push o cap E) (λid e f d=>?_) λid u e v B p q b c i j=>?_;rcases IR f with⟨a,f⟩|⟨rfl,rfl⟩;refine .inl ⟨f,by simp[Gh.at_,BR a],by simp[Gh.at_,BR a],by simp[Gh.at_,BR a],λB k=>?_⟩;have:=s.io_at f d k;simp[Ri,BR this];exact .inr (t d);rcases IR p with⟨l1,m⟩|⟨rfl,_⟩<;>rcases IR q with⟨l2,n⟩|⟨rfl,_⟩;exact s.inj _ _ _ _ B m n b c (by simpa[Gh.at_,BR l1]using i) (by simpa[Gh.at_,BR l2]using j);have r:=s.io_at m b (by simpa[Gh.at_,BR l1]using i);simp[Gh.at_]at j;omega;have r:=s.io_at n c (by simpa[Gh.at_,BR l2]using j);simp[Gh.at_]at i;omega;rfl
def Ih.push(s:Ih X h H w)(a:Array Value)(T:TypeId)(c:Nat×Nat)(g:List AV)(i:dO (cx X h H w) g a c):
  Ih X (h.at_ H.length (some w.heap.size) 0 a.size) (H++[.live 0 g]) {w with heap:=w.heap.push (.cells a T c)}:=by
 refine s.push_any _ _ _ λ_=>.inl ⟨0,g,rfl,?_⟩;obtain⟨f,e,d,b⟩:=i;refine⟨by simp[cx,Gh.at_],.inr ⟨w.heap.size,a,T,c,f,by simp[cx,Gh.at_],by show(w.heap.push (.cells a T c))[w.heap.size]? =_;simp,by simp[cx,Gh.at_],e,d,λj v k=>?_⟩⟩;obtain⟨l,m,n⟩:=b j v k;exact⟨l,m,n.later ((G2.push _ _ _).later X)⟩
def Ih.upd(s:Ih X h H w){id g g' B:Nat}{arr:Array Value}{T:TypeId}{fz:Nat×Nat}{w':World}(z:H[id]? =some (Ec.live g G))(hg:g≤g')
  (A:g'=g->h.io id=some B/\h.cap id=arr.size) (a:h.io id=some B\/w.heap.size<=B) (hb:w'.heap[B]? =some (.cells arr T fz)) (O: ∀k,k<w.heap.size->k≠B->w'.heap[k]? =w.heap[k]?)
  (S:w'.os=w.os) (D:w'.tape=w.tape) (I:w'.output=w.output) (C:w.heap.size<=w'.heap.size) (hh:dO (cx X h H w) d arr fz):
  Ih X (h.at_ id (some B) g' arr.size) (H.set id (.live g' d)) w'/\G2 h H w (h.at_ id (some B) g' arr.size) (H.set id (.live g' d)) w':=by
 have t:id<H.length:=by rcases Ao id H.length with p|p;exact p;rw[Ck p]at z;cases z
 have x:h.gen id=g:=(s.live id g G z).1;have U:G2 h H w (h.at_ id (some B) g' arr.size) (H.set id (.live g' d)) w':=by refine⟨S,D,I,C,λk P hn=>?_,by simp,λi o=>?_,λi o e=>?_,λk ho=>?_,λk r hr=>⟨r,?_⟩⟩;refine O k P λe=>?_;subst e;rcases a with a|a;exact hn ⟨id,_,z,by simp,a⟩;omega;by_cases e:i=id;subst e;simp[Gh.at_,x,hg];simp[Gh.at_,e];by_cases e':i=id;subst e';simp only[Gh.at_,if_true]at e⊢;have:=A (e.trans x);exact⟨this.1.symm,this.2.symm⟩;simp[Gh.at_,e'];obtain⟨i,l,u,b,p⟩:=ho;rcases Iu t u with⟨o,m⟩|⟨rfl,_⟩;exact .inl ⟨i,l,m,b,by simpa[Gh.at_,o]using p⟩;simp[Gh.at_]at p;subst p;rcases a with a|a;exact .inl ⟨i,_,z,by simp,a⟩;exact .inr a;have R:=M5 hr;refine(O k R λe=>?_).trans hr;subst e;rcases a with a|a;rcases(s.live id g G z).2 with⟨hn,_⟩|⟨Y,Z,T',ad,f',y,E,_⟩;rw[show(cx X h H w).io id=h.io id from rfl,a]at hn;cases hn;rw[show(cx X h H w).io id=h.io id from rfl,a]at y;injection y with e;subst e;rw[show(cx X h H w).w.heap=w.heap from rfl,hr]at E;cases E;omega
 have hl:=U.later X;have c: ∀{i:Nat} {l:Ec},i≠id->H[i]? =some l->l≠ .dead->h.io i=some B->False:=by intro i l o u b n;rcases a with a|a;exact o (s.inj i id l _ B u z b (by simp) n a);have:=s.io_at u b n;omega
 refine⟨s.of_ext U (λi l u b=>?_) (λi i' l M k u p F L J K=>?_),U⟩;rcases Iu t u with⟨o,m⟩|⟨rfl,rfl⟩;refine .inl ⟨m,by simp[Gh.at_,o],by simp[Gh.at_,o],by simp[Gh.at_,o],λY n=>O Y (s.io_at m b n) λe=>?_⟩;subst e;exact c o m b n;obtain⟨f,Q,N,q⟩:=hh;refine .inr (.inl ⟨g',d,rfl,by simp[cx,Gh.at_],.inr ⟨B,arr,T,fz,f,by simp[cx,Gh.at_],hb,by simp[cx,Gh.at_],Q,N,λj v hj=>?_⟩⟩);obtain⟨p1,p2,p3⟩:=q j v hj;exact⟨p1,p2,p3.later hl⟩;rcases Iu t u with⟨V,l⟩|⟨rfl,_⟩<;>rcases Iu t p with⟨W,M⟩|⟨rfl,_⟩;exact s.inj _ _ _ _ k l M F L (by simpa[Gh.at_,V]using J) (by simpa[Gh.at_,W]using K);simp[Gh.at_]at K;subst K;exact(c V l F (by simpa[Gh.at_,V]using J)).elim;simp[Gh.at_]at J;subst J;exact(c W M L (by simpa[Gh.at_,W]using K)).elim;rfl
end
def w9(h:w.heap[N]? =some (.cells i a u))(B:Nat):w.frozen? ⟨N,B,none⟩=(decide (u.1<=B)&&decide (B<u.2)):=by unfold World.frozen?;rw[h]
def S8{P:Program}{B off:Nat}{T:TypeId}{h:Nat×Nat}: ∀(g:List Value) (i:Nat) (a:Array Value) (w:World),w.heap[B]? =some (.cells a T h)→off+i+g.length≤a.size→
  (∀j,j<a.size->(decide (h.1<=j)&&decide (j<h.2))=false)->(∀v∈g,v.oneCell'=true)->
  ∃d b,(storeCells ⟨B,off,none⟩ g i).run P w= .ok () d/\d.heap[B]? =some (.cells b T h)/\b.size=a.size/\(∀j,b[j]? =if off+i<=j/\j<off+i+g.length then g[j-(off+i)]? else a[j]?)/\(∀k,k≠B->d.heap[k]? =w.heap[k]?)/\d.os=w.os/\d.tape=w.tape/\d.output=w.output/\d.heap.size=w.heap.size
 |[],i,a,w,hb,_,_,_=>⟨w,a,rfl,hb,rfl,λj=>by rw[if_neg (by simp)],λ_ _=>rfl,rfl,rfl,rfl,rfl⟩
 |v::g,i,a,w,hb,hle,hfz,h1=>by
  simp only[CD]at hle;have o:w.cell? ⟨B,off+i,none⟩=some (a[off+i]'(by omega)):=by rw[Og (w:=w) hb];exact OP (by omega)
  have p:w.frozen? ⟨B,off+i,none⟩=false:=by rw[w9 hb];exact hfz _ (by omega)
  have c:(store ⟨B,off+i,none⟩ v).run P w= .ok () (w.setCell ⟨B,off+i,none⟩ v):=by rw[run_store P w _ v .plain (h1 v (by simp)),o];simp[p]
  have l:(w.setCell ⟨B,off+i,none⟩ v).heap[B]? =some (.cells (a.setIfInBounds (off+i) v) T h):=by simp[World.setCell,mr,hb]
  obtain⟨d,b,r,s,t,x,y,z,A,C,D⟩:=S8 (P:=P) (off:=off) g (i+1) (a.setIfInBounds (off+i) v) (w.setCell ⟨B,off+i,none⟩ v) l (by simp;omega)
   (by simpa using hfz) (λu q=>h1 u (CN _ q))
  refine⟨d,b,?_,s,by rw[t];simp,λj=>?_,λk n=>?_,z,A,C,by rw[D];simp[World.setCell]⟩;simp only[storeCells,Nv,Sem.run_bind,c,Result.andThen_ok];exact r;rw[x];by_cases m:j=off+i;subst m;rw[if_neg (by omega),if_pos (by simp),Array.getElem?_setIfInBounds_self_of_lt (by omega)];simp;by_cases f:off+(i+1)<=j/\j<off+(i+1)+g.length;rw[if_pos f,if_pos (by simp;omega),show j-(off+i)=(j-(off+(i+1)))+1 from by omega];rfl;rw[if_neg f,if_neg (by simp;omega),o9 (λe=>m e.symm)];rw[y k n];simp[World.setCell,mr,Ne.symm n]
section
variable {P:Program} {N:Nat} {o:Oper} {env:Env} {H:Ap} {K:AV->Ap->Prop}
def Iv.alloc(t:o.op= .alloc a)(g:Wc P a=some d)(f:K (.ptr H.length 0 0) (H++[.live 0 d])):Iv P N o env H K:=by
 apply Co (by rw[t];rfl);intro X h z w s Q;obtain⟨i,v,e,c,j⟩:=aD (cx X h H w) g;have b:(execOp z.eval o).run P w= .ok (.value (.pointer (some ⟨w.heap.size,0,none⟩))) {w with heap:=w.heap.push (.cells v.cells a)}:=by unfold execOp;rw[t];simp[Instr.alloc,zeroValue,typeInfo,e,c,newVar,newRow]
 unfold Oper.wp;rw[b,Oper.upon_value];refine⟨_,_,_,_,rfl,f,?_,s.sim.push v.cells a (0,0) d (O2 j),G2.push _ _ _⟩;exact .ptr (by simp[cx]) (by simp[cx,Gh.at_]) rfl λ_=>⟨w.heap.size,by simp[cx,Gh.at_],rfl⟩
def Iv.box(c:o.op= .box a m)(g:BC env m=e)(f:e.solid=true)(x:K (.ptr H.length 0 0) (H++[.live 0 e.cells])):Iv P N o env H K:=by
 apply Co (by rw[c];rfl);intro X h t w s Q;have d:=Cz s.env m;rw[g]at d;have i:=UZ d f;have b:(execOp t.eval o).run P w= .ok (.value (.pointer (some ⟨w.heap.size,0,none⟩))) {w with heap:=w.heap.push (.cells (t.eval m).cells a)}:=by unfold execOp;rw[c];simp[Instr.box,newVar,newRow]
 unfold Oper.wp;rw[b,Oper.upon_value];refine⟨_,_,_,_,rfl,x,?_,s.sim.push _ a (0,0) e.cells (O2 i),G2.push _ _ _⟩;exact .ptr (by simp[cx]) (by simp[cx,Gh.at_]) rfl λ_=>⟨w.heap.size,by simp[cx,Gh.at_],rfl⟩
def Iv.store{y:Operand}{id g off:Nat}{v:AV}{cs:List AV}{b:Bool}(ho:o.op= .store a m y)(hx:BC env m= .ptr id g off)(hy:BC env y=v)(hs:v.solid=true)
  (he:H[id]? =some (Ec.live g cs)) (ht:tI P a=some (b,v.cells.length)) (J:off+v.cells.length<=cs.length) (V:K .any (H.set id (.live g (UY cs off v.cells)))):Iv P N o env H K:=by
 apply Co (by rw[ho];rfl);intro X h t w s Q;have Z:=Cz s.env m;rw[hx]at Z;have Y:=Cz s.env y;rw[hy]at Y;have rz:=UZ Y hs;obtain⟨I,F⟩:=s.sim.live id g cs he;obtain⟨B,i,S⟩: ∃B,h.io id=some B/\t.eval m= .pointer (some ⟨B,off,none⟩):=by
  generalize t.eval m=c at Z;cases Z with
  |ptr al O h1 hc=>obtain⟨B,i,rfl⟩:=hc I;exact⟨B,i,rfl⟩
 rcases F with⟨hn,_⟩|⟨B',D,T,R,f,z,hb,E,ad,G,x⟩;rw[show(cx X h H w).io id=h.io id from rfl,i]at hn;cases hn;rw[show(cx X h H w).io id=h.io id from rfl,i]at z;injection z with e;subst e;generalize U:t.eval y=c at Y rz;obtain⟨M,A,W⟩:c.cells.size=v.cells.length/\(∀(j:Nat) (d:Value),c.cells[j]? =some d->d.oneCell'=true)/\(∀(j:Nat) (u:AV) (d:Value),v.cells[j]? =some u->c.cells[j]? =some d->BZ (cx X h H w) u d):=by cases rz with|agg p q r=>exact⟨p,q,r⟩
 obtain⟨w',n,p1,p2,p3,p4,p5,p6,p7,p8,p9⟩:=S8 (P:=P) (off:=off) c.cells.toList 0 D w hb (by simp;omega) G (λd hd=>by obtain⟨j,C⟩:=EV hd;exact A j d (by simpa using C));have L:(execOp t.eval o).run P w= .ok .skip w':=by unfold execOp;rw[ho];simp only[S,U,Instr.storeAt,Instr.sureAddr,Sem.run_bind,Sem.run_pure,Result.andThen_ok,storeVar,Kc ht];rw[if_neg (by simp[M])];simp only[Result.andThen_ok,p1]
 have hh:dO (cx X h H w) (UY cs off v.cells) n R:=by
  refine⟨λj=>if off<=j/\j<off+v.cells.length then c.cells.getD (j-off) undef else f j,by rw[eN J];omega,by rw[p3];exact G,λj u C=>?_⟩;rw[oO J]at C;rw[p4];simp only[RR,DQ,M,Od];split at C;rename_i l;rw[if_pos l,if_pos l];have hl:j-off<c.cells.size:=by omega
  have O:c.cells[j-off]? =some (c.cells[j-off]):=OP hl;have e:c.cells.getD (j-off) undef=c.cells[j-off]:=by simp[hl]
  rw[e];exact⟨O,A _ _ O,W _ u _ C O⟩;rename_i l;rw[if_neg l,if_neg l];exact x j u C
 obtain⟨q1,q2⟩:=s.sim.upd (g':=g) (B:=B) (arr:=n) (T:=T) (fz:=R) (w':=w') he (Ag _) (λ_=>⟨i,by rw[p3];exact E.symm⟩) (.inl i) p2 (λk _ V=>p5 k V) p6 p7 p8 (by rw[p9];exact Ag _) hh;unfold Oper.wp;rw[L,Oper.upon_skip];exact⟨_,_,_,_,rfl,V,.any _,q1,q2⟩
end
section
variable {X:Nat->Prop} {h:Gh} {H:Ap} {w w':World}
def G2.grow(b:w'.os=w.os)(f:w'.tape=w.tape)(d:w'.output=w.output)(e:w.heap.size<=w'.heap.size)(c: ∀k,k<w.heap.size->w'.heap[k]? =w.heap[k]?):G2 h H w h H w':=⟨b,f,d,e,λB a _=>c B a,Ag _,λ_ _=>Ag _,λ_ _ _=>⟨rfl,rfl⟩,λ_ h=>.inl h,λB r a=>⟨r,(c B (M5 a)).trans a⟩⟩
def Ih.grow(s:Ih X h H w)(c:w'.os=w.os)(i:w'.tape=w.tape)(f:w'.output=w.output)(g:w.heap.size<=w'.heap.size)(e: ∀k,k<w.heap.size->w'.heap[k]? =w.heap[k]?):Ih X h H w':=s.of_ext (G2.grow c i f g e) (λ_ _ d b=>.inl ⟨d,rfl,rfl,rfl,λB a=>e B (s.io_at d b a)⟩) s.inj
def G2.virt:G2 h H w (h.at_ H.length none 0 0) (H++[.live 0 []]) w where
 os:=rfl
 tape:=rfl
 output:=rfl
 size:=Ag _
 keep B _ _:=rfl
 n:=by simp
 gen id hid:=by simp[Gh.at_,BR hid]
 same id hid _:=by simp[Gh.at_,BR hid]
 fresh B ho:=by obtain⟨id,e,b,d,a⟩:=ho;rcases IR b with⟨c,b⟩|⟨rfl,rfl⟩;exact .inl ⟨id,e,b,d,by simpa[Gh.at_,BR c]using a⟩;simp[Gh.at_]at a
 loops B r hB:=⟨r,hB⟩
theorem Ih.virt(s:Ih X h H w):Ih X (h.at_ H.length none 0 0) (H++[.live 0 []]) w:=by refine s.of_ext G2.virt (λid e f m=>?_) λid n e o B j k a b c d=>?_;rcases IR f with⟨l,f⟩|⟨rfl,rfl⟩;grind[Gh.at_];exact .inr (.inl ⟨0,[],rfl,by simp[cx,Gh.at_],.inl ⟨by simp[cx,Gh.at_],rfl⟩⟩);rcases IR j with⟨l1,g⟩|⟨rfl,_⟩<;>rcases IR k with⟨l2,i⟩|⟨rfl,_⟩;exact s.inj _ _ _ _ B g i a b (by simpa[Gh.at_,BR l1]using c) (by simpa[Gh.at_,BR l2]using d);simp[Gh.at_]at d;simp[Gh.at_]at c;rfl
def Ih.bump(s:Ih X h H w){id g:Nat}{cs:List AV}(n:H[id]? =some (Ec.live g cs))(hn:h.io id=none):
  Ih X (h.at_ id none (g+1) (h.cap id)) (H.set id (.live (g+1) [])) w/\G2 h H w (h.at_ id none (g+1) (h.cap id)) (H.set id (.live (g+1) [])) w:=by
 have a:id<H.length:=by rcases Ao id H.length with b|b;exact b;rw[Ck b]at n;cases n
 have c:h.gen id=g:=(s.live id g cs n).1;have own: ∀B,owned (h.at_ id none (g+1) (h.cap id)) (H.set id (.live (g+1) [])) B->owned h H B:=by rintro B ⟨i,e,j,l,b⟩;rcases Iu a j with⟨f,d⟩|⟨rfl,_⟩;exact⟨i,e,d,l,by simpa[Gh.at_,f]using b⟩;simp[Gh.at_]at b
 have u:G2 h H w (h.at_ id none (g+1) (h.cap id)) (H.set id (.live (g+1) [])) w:=by refine⟨rfl,rfl,rfl,Ag _,λk A hn=>rfl,by simp,λi f=>?_,λi f e=>?_,λB C=>.inl (own B C),λB r y=>⟨r,y⟩⟩;by_cases e:i=id;subst e;simp[Gh.at_,c];simp[Gh.at_,e];by_cases m:i=id;subst m;simp[Gh.at_,c]at e;simp[Gh.at_,m]
 refine⟨s.of_ext u (λi e j l=>?_) (λi F e m k j b o p q t=>?_),u⟩;rcases Iu a j with⟨f,d⟩|⟨rfl,rfl⟩;exact .inl ⟨d,by simp[Gh.at_,f],by simp[Gh.at_,f],by simp[Gh.at_,f],λB z=>rfl⟩;exact .inr (.inl ⟨g+1,[],rfl,by simp[cx,Gh.at_],.inl ⟨by simp[cx,Gh.at_],rfl⟩⟩);rcases Iu a j with⟨D,v⟩|⟨rfl,_⟩<;>rcases Iu a b with⟨E,x⟩|⟨rfl,_⟩;exact s.inj _ _ _ _ k v x o p (by simpa[Gh.at_,D]using q) (by simpa[Gh.at_,E]using t);simp[Gh.at_]at t;simp[Gh.at_]at q;rfl
end
def My(H:Ap)(sz:Nat):AV->Option (Nat×List AV)
 | .vs sz' rows=>if sz=sz' then some (rows.length,rows.flatMap AV.cells)else none
 | .sl id g sz' off len=>
  match H[id]? with
  |some (.live g' cs)=>if g=g'/\sz=sz'/\off+len*sz<=cs.length then some (len,(cs.drop off).take (len*sz))else none
  |_=>none
 | .nils=>some (0,[])
 |_=>none
theorem Np{P:Program}{X:Nat→Prop}{h:Gh}{H:Ap}{w:World}{v:AV}{c:Value}{sz m:Nat}{J:List AV}(s:Ih X h H w)(r:BZ (cx X h H w) v c)(N:0<sz)(hr:My H sz v=some (m,J)):
  ∃a cap S,c= .slice a m cap/\J.length=m*sz/\gX (cx X h H w) J S/\(∀u∈S,u.oneCell'=true)/\(Builtin.lenOf c).run P w= .ok m w/\(Builtin.firstCells sz m c).run P w= .ok S.toArray w:=by
 cases r with
 |nils=>simp only[My,Ai,Dq]at hr;obtain⟨rfl,rfl⟩:=hr;exact⟨none,0,[],rfl,by simp,⟨rfl,λ_ _ _ h=>by cases h⟩,(λ_ h=>by cases h),rfl,rfl⟩
 | @vs R b a cap f y Z D ha hv=>
  simp only[My]at hr;split at hr;rename_i F;subst F;simp only[Ai,Dq]at hr;obtain⟨rfl,rfl⟩:=hr;have q:=kz D;cases b with
  |nil=>refine⟨a,cap,[],rfl,by simp,⟨rfl,λ_ _ _ h=>by cases h⟩,(λ_ h=>by cases h),rfl,?_⟩;cases a<;>simp[Builtin.firstCells,loadCells,loadCellsFrom]
  |cons e0 E=>
   obtain⟨B,k,rfl,hO,hB,L⟩:=ha (by simp);generalize e0::E=b at*;have K: ∀j,j<b.length*sz-> ∃e v,b[j/sz]? =some e/\e.cells[j%sz]? =some v:=by intro j o;have F:j/sz<b.length:=(Nat.div_lt_iff_lt_mul N).2 o;have I:b[j/sz]? =some (b[j/sz]):=Aw F;grind[Nat.mod_lt,List.getElem?_eq_getElem]
   refine⟨_,cap,(List.range (b.length*sz)).map λj=>f (j/sz) (j%sz),rfl,q,⟨by simp[q],λj v d o G=>?_⟩,λu O=>?_,rfl,?_⟩;grind[flat_get,Nat.lt_or_ge,List.getElem?_eq_none,List.getElem?_range,Option.some.injEq];grind;have:=run_loadCells (P:=P) w ⟨B,k,none⟩ (b.length*sz) (λj=>f (j/sz) (j%sz)) λj o=>by obtain⟨e,v,I,Q⟩:=K j o;rw[Nv];have V:=(L _ e _ v I Q).1;rw[Nat.div_add_mod' j sz]at V;exact V
   grind[Builtin.firstCells]
  cases hr
 | @sl id g R k len c ao hg F L=>
  simp only[My]at hr;split at hr;rename_i g' l I;split at hr;rename_i x;obtain⟨rfl,rfl,ap⟩:=x;simp only[Ai,Dq]at hr;obtain⟨rfl,rfl⟩:=hr;obtain⟨A,z⟩:=s.live id g l I;rcases L A with⟨n,rfl,rfl,rfl⟩|⟨B,cap,n,y,M,rfl⟩;exact⟨none,0,[],rfl,by simp,⟨by simp,λ_ _ _ _ h=>by cases h⟩,(λ_ h=>by cases h),rfl,rfl⟩;rcases z with⟨hn,_⟩|⟨U,ad,T,fz,f,p,hb,W,Y,al,i⟩;rw[hn]at n;cases n;have:U=B:=by rw[n]at p;injection p with e;exact e.symm
  subst this;refine⟨_,cap,(List.range (len*sz)).map λj=>f (k+j),rfl,by simp;omega,⟨by simp;omega,λj v d o G=>?_⟩,λu O=>?_,rfl,?_⟩;have C:j<len*sz:=by grind[Nat.lt_or_ge,List.getElem?_eq_none]
  rw[Yw,if_pos C,J6]at o;rw[CC,Rl C]at G;simp only[Bf,Ai]at G;subst G;exact(i _ v o).2.2;simp only[Br,IX]at O;obtain⟨j,o,rfl⟩:=O;have t:l[k+j]? =some (l[k+j]'(by omega)):=Aw (by omega);exact(i _ _ t).2.1;have:=run_loadCells (P:=P) w ⟨U,k,none⟩ (len*sz) (λj=>f (k+j)) λj o=>by have t:l[k+j]? =some (l[k+j]'(by omega)):=Aw (by omega);rw[Nv,Og (w:=w) hb];exact(i _ _ t).1
  simpa[Builtin.firstCells]using this;cases hr;cases hr
 |_=>simp only[My]at hr;cases hr
theorem um(a b:Nat)(h:b<a):Builtin.nextslicecap a b<=2*a+2048:=by grind[Builtin.nextslicecap,Builtin.growBy]
def QV(P:Program)(e:TypeId):Bool:=
 match P.info? e with
 |some i=>decide (i.bytes<=1048576)&&(match i.zero with|some z=>decide (z.cells.size=i.size)|none=>false)
 |none=>false
section
variable {P:Program} {N:Nat} {o:Oper} {env:Env} {H:Ap} {K:AV->Ap->Prop}
theorem SM(h:QV P a=true): ∃i z,P.info? a=some i/\i.bytes<=1048576/\i.zero=some z/\z.cells.size=i.size:=by grind[QV]
theorem fj{i:TypeInfo}(h:tI P a=some (r,N))(t:P.info? a=some i):i.size=N:=by unfold tI at h;grind
theorem Iv.buildSlice{t e:TypeId}{len sz:Nat}{f:Array (Nat×Operand)}{W:List AV}(ho:o.op= .buildSlice t len f)(he:eI P t=some (none,e,sz))(a0:0<sz)(a5:QV P e=true)
  (C:f.toList.map (·.1)=List.range len) (a7:f.toList.map (λp=>BC env p.2)=W) (O: ∀v∈W,v.solid=true/\v.cells.length=sz) (L:len<=4096/\sz<=4096) (hk:K (.vs sz W) H):Iv P N o env H K:=by
 apply Co (by rw[ho];rfl);intro X h a w s Q;obtain⟨a1,b,hi⟩:=PO he;obtain⟨i,z,D,_,hz,a8⟩:=SM a5;have A:=fj hi D;have V:W.length=len:=by have n:=congrArg List.length C;grind[List.length]
 let g:List Value:=f.toList.map λp=>a.eval p.2;have U:g.length=len:=by grind[List.length]
 have M: ∀(j:Nat) (v:AV) (c:Value),W[j]? =some v->g[j]? =some c->BZ (cx X h H w) (.agg v.cells) (.agg c.cells)/\v.cells.length=sz:=by
  intro j v c G Y;have hm:=O v (BL G);refine⟨?_,hm.2⟩;subst a7;simp only[g,CC]at G Y;cases Z:f.toList[j]? with
  |none=>rw[Z]at G;cases G
  |some p=>rw[Z]at G Y;simp only[Bf,Ai]at G Y;subst G Y;exact UZ (Cz s.env p.2) hm.1
 have y: ∀c∈g,c.cells.size=sz:=by
  intro c Y;obtain⟨j,B⟩:=EV Y;have E:j<W.length:=by grind[Nat.lt_or_ge,List.getElem?_eq_none]
  obtain⟨n,r⟩:=M j _ c (Aw E) B;cases n<;>grind
 have R:(f.map λ(q:Nat×Operand)=>(q.1,a.eval q.2)).toList=(g.zipIdx 0).map λx=>(x.2,x.1):=by
  apply IY;intro j;simp only[Array.toList_map,CC,List.getElem?_zipIdx,ED,g];cases Z:f.toList[j]? with
  |none=>rfl
  |some p=>
   have n:(f.toList.map (·.1))[j]? =some p.1:=by rw[CC,Z];rfl
   rw[C]at n;have E:j<len:=by rcases Ao j len with r|r;exact r;rw[Ck (by simpa using r)]at n;cases n
   rw[Rl E]at n;simp only[Ai]at n;simp[n]
 have a4:(g.flatMap λc=>c.cells.toList).length=len*sz:=by
  clear R;have: ∀l:List Value,(∀c∈l,c.cells.size=sz)->(l.flatMap λc=>c.cells.toList).length=l.length*sz:=by
   intro l;induction l with
   |nil=>simp
   |cons c l ih=>intro V;simp only[I4,Af,DQ,V c (by simp),ih (λd I=>V d (CN _ I)),CD,GY];omega
  rw[this g y,U]
 have al: ∀(j:Nat) (c:Value) (q:Nat) (d:Value),g[j]? =some c->c.cells[q]? =some d->(g.flatMap λc=>c.cells.toList)[j*sz+q]? =some d:=by
  have: ∀(l:List Value),(∀c∈l,c.cells.size=sz)-> ∀(j:Nat) (c:Value) (q:Nat) (d:Value),l[j]? =some c->c.cells[q]? =some d->(l.flatMap λc=>c.cells.toList)[j*sz+q]? =some d:=by
   intro l;induction l with
   |nil=>intro _ j c q d B;simp at B
   |cons c0 l ih=>
    intro V j c q d B I;simp only[I4];have h0:=V c0 (by simp);cases j with
    |zero=>simp at B;subst B;rw[Nat.zero_mul,ED,B6 (by rcases Ao q c0.cells.size with r|r;simpa using r;rw[mq r]at I;cases I)];simpa using I
    |succ j=>rw[Cb (by rw[DQ,h0,GY];omega),DQ,h0];rw[show(j+1)*sz+q-sz=j*sz+q from by rw[GY];omega];exact ih (λd I=>V d (CN _ I)) j c q d (by simpa using B) I
  exact this g y
 have F: ∃m:Array Value,(execOp a.eval o).run P w= .ok (.value (.slice (some ⟨w.heap.size,0,none⟩) len len)) {w with heap:=w.heap.push (.cells m e)}/\m.toList=g.flatMap λc=>c.cells.toList:=by
  unfold execOp;rw[ho];by_cases h0:len=0;subst h0;have:g=[]:=EU U;refine⟨#[],?_,by rw[this];rfl⟩;have Z:f= #[]:=by have n:=congrArg List.length C;simp at n;exact n
  simp[Instr.buildSlice,run_underlying a1,Kc hi,Z,Instr.fill,newRow,show Array.range 0= #[]from rfl];refine⟨(g.flatMap λc=>c.cells.toList).toArray,?_,rfl⟩;have ap: ¬len*i.size=0:=by rw[A];exact Nat.mul_ne_zero h0 (by omega)
  have a6: ¬len*i.size>2^24:=by rw[A];have:=gf L.1 L.2;omega
  have hf:=Go.Great.fill_whole (s:=sz) a0 g ((Array.range (len*i.size)).map (z.cells[· %z.cells.size]!)) y (by simp[U,A]);have:=run_buildSlice (P:=P) w t e len (f.map λ(q:Nat×Operand)=>(q.1,a.eval q.2)) _ i z a1 D hz a6 ap (by rw[R,A]at*;exact hf);simp only[Sem.run_bind];rw[show(f.map λx=>match x with|(i,x)=>(i,a.eval x))=(f.map λ(q:Nat×Operand)=>(q.1,a.eval q.2))from rfl,this];rfl
 obtain⟨m,F,ad⟩:=F;unfold Oper.wp;rw[F,Oper.upon_value];have ax:=s.sim.grow (w':={w with heap:=w.heap.push (.cells m e)}) rfl rfl rfl (by simp) (λk hk=>by simp[Ri,BR hk]);have J:=G2.grow (h:=h) (H:=H) (w:=w) (w':={w with heap:=w.heap.push (.cells m e)}) rfl rfl rfl (by simp) (λk hk=>by simp[Ri,BR hk]);refine⟨_,_,h,H,rfl,hk,?_,ax,J⟩;subst V;refine .vs (λj q=>((g.getD j undef).cells.getD q undef)) (Ag _) a0 (λj v B=>(O v (BL B)).2) (λao=>⟨w.heap.size,0,rfl,?_,by simp[cx],λj v q u B hq=>?_⟩) λj v q u B hq=>?_;rintro(hX|ho);have:=(s.sim.out _ hX).1;omega;obtain⟨id,e1,n,ao,r⟩:=ho;have:=s.sim.io_at n ao r;omega;all_goals
  have E:j<g.length:=by rcases Ao j W.length with r|r;omega;rw[Ck r]at B;cases B
  have S:g[j]? =some (g[j]):=Aw E;have a3:g.getD j undef=g[j]:=by simp[I5,S]
  obtain⟨r1,r2⟩:=M j v _ B S;rw[a3];cases r1 with
  |agg hs n G=>
   have ar:q<(g[j]).cells.size:=by rcases Ao q v.cells.length with r|r;omega;rw[Ck r]at hq;cases hq
   have T:(g[j]).cells[q]? =some ((g[j]).cells[q]):=OP ar;have a2:(g[j]).cells.getD q undef=(g[j]).cells[q]:=by simp[ar]
   rw[a2];first
    |exact(G q u _ hq T).later (J.later X)
    |(refine⟨?_,n q _ T⟩
      have hb:(w.heap.push (.cells m e))[w.heap.size]? =some (.cells m e (0,0)):=by simp
      rw[ED];show World.cell? {w with heap:=w.heap.push (.cells m e)} _=_;rw[Og (w:={w with heap:=w.heap.push (.cells m e)}) hb,<-Od,ad];exact al j _ q _ S T)
end
end Go.Ab
