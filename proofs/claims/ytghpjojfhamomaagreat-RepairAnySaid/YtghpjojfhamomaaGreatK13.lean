/- Texts of wip, joined and shortened by wip/tools/pack.py; nothing is assumed. -/
import Derived.Test.YtghpjojfhamomaaGreatK12
import Derived.Test.YtghpjojfhamomaaGreatProg
import Derived.KernelRfl
import Derived.Shelf.SlSortCmp.WholeK
import Derived.Shelf.SlSortCmp.NoneTotal
import Derived.Shelf.SlicesG.Cmp
import Derived.WalkKit
noncomputable section
set_option linter.all false
namespace Go.Proofs.YtghpjojfhamomaaGreat
open Go Go.Ab Go.Pm
abbrev A5(c:S5):Prop:=c.Ok Tryz.prog
set_option maxRecDepth 100000
theorem jz:A5 (.c0 249 [(.int .u64),(.int .u64)] [(.int .u64),(.int .u64)] UP):=k0 [] CK
theorem mM:A5 (.c0 186 [(.int .u64),(.int .u64)] [(.int .u64),(.int .u64)] WO):=k0 [] (A8 jz CK)
open Go.RowKit Go.Ab Go.Pm
theorem AAh(n:Int){i:Nat}(h:i<8):IntKind.wrap .u64 n/2^(8*i)%256=((UInt8.ofNat (n/256^i%256).toNat).toNat:Int):=by
 have e:IntKind.wrap .u64 n/2^(8*i)%256=n/256^i%256:=by
  rw[y8,Wl];have:i=0\/i=1\/i=2\/i=3\/i=4\/i=5\/i=6\/i=7:=by omega
  rcases this with h|h|h|h|h|h|h|h<;>rw[h]
  ·rw[show(256:Int)^0=1 by decide];omega
  ·rw[show(256:Int)^1=256 by decide];omega
  ·rw[show(256:Int)^2=65536 by decide];omega
  ·rw[show(256:Int)^3=16777216 by decide];omega
  ·rw[show(256:Int)^4=4294967296 by decide];omega
  ·rw[show(256:Int)^5=1099511627776 by decide];omega
  ·rw[show(256:Int)^6=281474976710656 by decide];omega
  ·rw[show(256:Int)^7=72057594037927936 by decide];omega
 rw[e,dR];omega
theorem AFz(w:World):Lib.IsBuilderF 263 5 w.heap.size w.heap.size [] (w.alloc (.cells #[.pointer none,.slice none 0 0] 263)):=.inl ⟨Ao _,_,heap_alloc_new w _,World.ownsRowF_nil _ _ _ _,by simp[Value.ownBlock]⟩
set_option maxHeartbeats 2000000 in
set_option maxRecDepth 100000 in
theorem AF0(l:List UInt8)(n:Int)(k:Nat)(w:World)(F:l.length≤1099511627776)(E:1≤k∧k≤8):
  Calls Tryz.prog 120 #[.string ⟨l.toArray⟩,.int .i64 n,.int .i64 k] w λe D=>e= .returned (.string ⟨(l++C6 n k).toArray⟩)/\Below w.heap.size w D:=by
 have p:Below w.heap.size w (w.alloc (.cells #[.pointer none,.slice none 0 0] 263)):=(Below.refl _ w).alloc (Ao _) _;obtain⟨s,d⟩: ∃s:ByteArray,(⟨l.toArray⟩:ByteArray)=s:=⟨_,rfl⟩
 have b:s.size=l.length:=by rw[<-d];simp[ByteArray.size]
 have y:=Xk w.heap.size w.heap.size [] s _ (AFz w) (by rw[b,BX];omega) p.size;rw[d];have f:Lib.strCells s=Lib.byteCells l:=by rw[<-d,Lib.strCells_eq]
 have A:Aside ((⟨l.toArray⟩:ByteArray)=s/\s.size=l.length/\Lib.strCells s=Lib.byteCells l):=⟨d,b,f⟩
 clear d b f;go_enter Tryz.func120,Tryz.ntmps120;go_wp2_with (go_at_call 183;go_fit y;rintro e W2 ⟨rfl,z,u⟩)
 go_loopg [19] k (λg o r=> ∃i:Nat,i+g=k/\o= .int .i64 i/\Lib.IsBuilderF 263 5 w.heap.size w.heap.size (Lib.byteCells (l++C6 n i)) r/\Below w.heap.size w r)
 case atStart=>refine⟨0,by omega,rfl,.inr ?_,p.trans u⟩;have:=A.out.2.2;simpa[C6,this]using z
 case round=>
  obtain⟨i,B,rfl,q,a⟩:=hrel;cases gk with
  |zero=>
   obtain rfl:i=k:=by omega
   have x:=tj w.heap.size w.heap.size (l++C6 n i) wr q (λh=>by have:=congrArg List.length h;rw[Aa,A2,BX]at this;omega);go_wp2_with (go_at_call 185;go_fit x;rintro e t ⟨rfl,m,j⟩)
   go_ret
   exact⟨rfl,a.trans j⟩
  |succ g=>
   have C:(i:Int)<k:=by omega
   have v:=λc=>vA w.heap.size w.heap.size _ c wr q (by rw[Lib.byteCells_length,Aa,A2];omega) a.size;go_wp2_with (go_at_call 184;refine(v _).mono ?_;rintro e t ⟨rfl,m,j⟩)
   go_roundg g
   case measure=>omega
   case rel=>refine⟨i+1,by omega,rfl,.inr ?_,a.trans j⟩;rw[AAh n (by omega)]at m;rw[rp,<-Ax,Lib.byteCells_append];exact m
theorem AD2(c:Nat)(h:c<=8000):WO (1,(c:Int))=some (0,(c:Int)):=by
 have e:Int.fdiv (c:Int) 4294967296=0:=by rw[jI _ (by omega)];omega
 have b:BitVec.toNat (BitVec.ofInt 64 (c:Int)&&&BitVec.ofInt 64 4294967295)=c:=by rw[BitVec.toNat_and,show BitVec.toNat (BitVec.ofInt 64 (c:Int))=c by rw[BitVec.toNat_ofInt];omega,show BitVec.toNat (BitVec.ofInt 64 4294967295)=2^32-1 by decide,Nat.and_two_pow_sub_one_eq_mod];omega
 have a:IntKind.wrap .u64 (c:Int)=c:=by rw[Wl];omega
 have d:(2:Int)^(min (Int.toNat 32) 64)=4294967296:=by decide
 unfold WO UP;dsimp only;rw[d,e,b,a,show Int.fdiv 1 4294967296=0 by decide,show BitVec.toNat (BitVec.ofInt 64 1&&&BitVec.ofInt 64 4294967295)=1 by decide,show IntKind.wrap .u64 ((1:Nat):Int)=1 by decide];simp only[Int.zero_mul,Int.mul_zero,Int.one_mul,a,e,show IntKind.wrap .u64 0=0 by decide,Int.zero_add,Int.add_zero,show Int.fdiv 0 4294967296=0 by decide,AD];exact congrArg (λz=>some (z,(c:Int))) (by decide)
theorem AFy(c:Nat)(h:c<=8000)(w:World):Calls Tryz.prog 186 #[.int .u64 1,.int .u64 c] w λe n=>e= .returned (.tuple #[.int .u64 0,.int .u64 c])/\Below w.heap.size w n:=by
 have q:EW Tryz.prog 186 [.int .u64 1,.int .u64 c] [] (C8 (.tup [.int .u64 0,.int .u64 c]) []):=mM (1,(c:Int)) (0,(c:Int)) (AD2 c h) [];refine(Pw q (w:=w) (cargs:= #[.int .u64 1,.int .u64 c]) rfl ?_).mono ?_
 ·intro j v d a f;match j,a,f with
  |0,a,f=>simp at a f;subst a f;exact .int _ _
  |1,a,f=>simp at a f;subst a f;exact .int _ _
  |j+2,a,_=>simp at a
 ·rintro e n ⟨d,v,x,s,rfl,⟨rfl,_⟩,r,b⟩;cases r with
  |tup h m=>
   rename_i g;have k:g.size=2:=h;have k0:=m 0 (.int .u64 0) g[0] rfl (by simp[k]);have k1:=m 1 (.int .u64 c) g[1] rfl (by simp[k]);have o:=jE k0;have p:=jE k1;refine⟨?_,b⟩;have:g= #[g[0],g[1]]:=by
    apply Array.ext
    ·simp[k]
    ·intro i l _;match i,l with
     |0,_=>rfl
     |1,_=>rfl
     |i+2,l=>omega
   rw[this,o,p]
set_option maxHeartbeats 2000000 in
set_option maxRecDepth 100000 in
theorem AD3(w:World):Calls Tryz.prog 122 #[.string ⟨#[0]⟩,.int .i64 0] w λe a=>e= .returned (.string ⟨#[]⟩)/\Below w.heap.size w a:=by
 go_enter Tryz.func122,Tryz.ntmps122
 go_wp2
 go_ret
 exact⟨rfl,Below.refl _ _⟩
set_option maxHeartbeats 2000000 in
set_option maxRecDepth 100000 in
theorem AD4(w:World):Calls Tryz.prog 122 #[.string ⟨#[0]⟩,.int .i64 1] w λe a=>e= .returned (.string ⟨#[0]⟩)/\Below w.heap.size w a:=by
 go_enter Tryz.func122,Tryz.ntmps122
 go_wp2
 go_ret
 exact⟨rfl,Below.refl _ _⟩
set_option maxHeartbeats 4000000 in
set_option maxRecDepth 1000000 in
theorem AF1(c:Nat)(w:World)(T:2≤c)(R:c≤8000):
  Calls Tryz.prog 122 #[.string ⟨#[0]⟩,.int .i64 c] w λe B=>e= .returned (.string ⟨(List.replicate c (0:UInt8)).toArray⟩)/\Below w.heap.size w B:=by
 have i:=AFy c R w;go_enter Tryz.func122,Tryz.ntmps122;go_upto_block 1 with(go_at_call 186;go_fit i;rintro e f ⟨rfl,j⟩)
 clear i;have m:Below w.heap.size w (f.alloc (.cells #[.pointer none,.slice none 0 0] 263)):=j.alloc j.size _;have E:=AD0 w.heap.size f.heap.size c (f.alloc (.cells #[.pointer none,.slice none 0 0] 263)) j.size (heap_alloc_new f _) m.size (by omega);go_wp2_with (go_at_call 187;go_fit E;rintro e O ⟨rfl,G,p⟩)
 clear E;have F:=Xk w.heap.size f.heap.size [] ⟨#[0]⟩ O (Lib.IsBuilderF.of (Or.inr G)) (by decide) (Dc m.size p.size);go_wp2_with (go_at_call 183;go_fit F;rintro e W2 ⟨rfl,s,D⟩)
 clear F G;have u:Lib.IsBuilderF 263 5 w.heap.size f.heap.size (Lib.byteCells (List.replicate 1 (0:UInt8))) W2:=by rw[Bw,Lib.strCells_eq]at s;exact Or.inr s
 have o:Below w.heap.size w W2:=m.trans (p.trans D);clear s m p D;go_loopg [] (c-1) (λg N=> ∃q:Nat,1<=q/\q+g=c/\Lib.IsBuilderF 263 5 w.heap.size f.heap.size (Lib.byteCells (List.replicate q (0:UInt8))) N/\Below w.heap.size w N)
 case atStart=>exact⟨1,Ao _,by omega,u,o⟩
 case round=>
  obtain⟨q,U,X,J,k⟩:=hrel;have b:=AFx w.heap.size f.heap.size _ wr J;rw[Lib.byteCells_length,HE]at b;have d:=tj w.heap.size f.heap.size (List.replicate q (0:UInt8)) wr J (λh=>by have:=congrArg List.length h;rw[HE,BX]at this;omega);cases gk with
  |zero=>
   obtain rfl:q=c:=by omega
   go_wp2_with (first
    |(go_at_call 188;go_fit b;rintro e B ⟨rfl,y⟩;rw[y])
    |(go_at_call 185;go_fit d;rintro e C ⟨rfl,H,n⟩))
   go_ret
   exact⟨rfl,k.trans n⟩
  |succ g=>
   obtain⟨a,l⟩: ∃a,min (c-q) q=a:=⟨_,rfl⟩
   have V:(q:Int)<c:=by omega
   have x: ∀(M:Array TypeId) (t:TypeId) (W:World),(Builtin.min_ M t #[.int .i64 ((c:Int)-(q:Int)),.int .i64 (q:Int),.int .i64 (c:Int)]).run Tryz.prog W= .ok (.int .i64 (a:Int)) W:=λM t W=>by simp[Builtin.min_,Builtin.min2];omega
   have A:Aside (min (c-q) q=a/\a<=q):=⟨l,by omega⟩
   have K:(a:Int)<=q:=by omega
   clear l;obtain⟨S,v⟩: ∃S:ByteArray,(⟨(List.replicate q (0:UInt8)).toArray⟩:ByteArray)=S:=⟨_,rfl⟩
   rw[v]at d;have Q:S.size=q:=by rw[<-v];simp[ByteArray.size]
   go_wp2_with (first
    |(go_at_call 188;go_fit b;rintro e B ⟨rfl,y⟩;rw[y])
    |(go_at_call 185;go_fit d;rintro e C ⟨rfl,H,n⟩))
   have L:(S.extract 0 a).data.toList=List.replicate a (0:UInt8):=by rw[Lib.extract_data,<-v];simp only[jP,Nat.sub_zero,List.take_replicate];rw[QM A.out.2]
   have z:(S.extract 0 a).size=a:=by rw[Lib.size_eq,L,HE]
   have r:=Xk w.heap.size f.heap.size _ (S.extract 0 a) C H (by rw[Lib.byteCells_length,HE,z];have:=A.out.2;omega) (Dc k.size n.size);go_wp2_with (go_at_call 183;go_fit r;rintro e Y ⟨rfl,I,P⟩)
   go_roundg (c-(q+a))
   case measure=>have:=A.out.1;omega
   case rel=>refine⟨q+a,by omega,by have:=A.out.1;omega,Or.inr ?_,k.trans (n.trans P)⟩;rw[Lib.strCells_eq,<-Lib.byteCells_append,L,List.replicate_append_replicate]at I;exact I
theorem wT{a:Type}{b:Bool}{z y:a}(h:(bif b then some z else none)=some y):b=true/\z=y:=by
 cases b
 ·cases h
 ·exact⟨rfl,BP h⟩
theorem AB2{a:Array Value}{l:List Value}(b:a.size=l.length)(h: ∀(j:Nat) (v c:Value),l[j]? =some v->a[j]? =some c->c=v):a=l.toArray:=by
 apply Array.ext
 ·simpa using b
 ·intro i d e;have:=h i l[i] a[i] (by simp) (by simp);simpa using this
theorem kM:(S5.c0 120 [.str,(.int .i64),(.int .i64)] [.str] OG).Ok Tryz.prog:=by
 rintro⟨s,n,k⟩ y i H;obtain⟨h,rfl⟩:=wT i;simp only[BW,decide_eq_true_eq]at h;refine ov (args:=[.str s,.int .i64 n,.int .i64 k]) (v:=.str (s++C6 n k.toNat)) (λw a g hr=>?_) H;have e:a= #[.string ⟨s.toArray⟩,.int .i64 n,.int .i64 k.toNat]:=AB2 (l:=[.string ⟨s.toArray⟩,.int .i64 n,.int .i64 k.toNat]) g λj v c d f=>by
  match j,d with
  |0,d=>obtain⟨x,q⟩:=hr 0 _ c rfl f;cases d;exact xu q
  |1,d=>obtain⟨x,q⟩:=hr 1 _ c rfl f;cases d;exact jE q
  |2,d=>obtain⟨x,q⟩:=hr 2 _ c rfl f;cases d;rw[jE q,HJ (by omega)]
 rw[e];refine(AF0 s n k.toNat w h.1 (by omega)).mono ?_;rintro e m ⟨rfl,b⟩;exact⟨_,rfl,λx=>.str _ rfl,b⟩
theorem Su:(S5.c0 122 [.str,(.int .i64)] [.str] KX).Ok Tryz.prog:=by
 rintro⟨s,n⟩ y o H;obtain⟨h,rfl⟩:=wT o;simp only[BW,decide_eq_true_eq,beq_iff_eq]at h;obtain⟨rfl,h⟩:=h;refine ov (args:=[.str [0],.int .i64 n]) (v:=.str (List.replicate n.toNat 0)) (λw a m hr=>?_) H;have e:a= #[.string ⟨#[0]⟩,.int .i64 n.toNat]:=AB2 (l:=[.string ⟨#[0]⟩,.int .i64 n.toNat]) m λj v c d g=>by
  match j,d with
  |0,d=>obtain⟨x,q⟩:=hr 0 _ c rfl g;cases d;exact xu q
  |1,d=>obtain⟨x,q⟩:=hr 1 _ c rfl g;cases d;rw[jE q,HJ (by omega)]
 rw[e];have key: ∀k:Nat,k<=8000->Calls Tryz.prog 122 #[.string ⟨#[0]⟩,.int .i64 k] w λe i=>e= .returned (.string ⟨(List.replicate k (0:UInt8)).toArray⟩)/\Below w.heap.size w i:=λk f=>by
  match k,f with
  |0,_=>exact AD3 w
  |1,_=>exact AD4 w
  |k+2,f=>exact AF1 (k+2) w (by omega) f
 refine(key n.toNat (by omega)).mono ?_;rintro e i ⟨rfl,b⟩;exact⟨_,rfl,λx=>.str _ rfl,b⟩
open Go.Shelf Go.RowKit Go.Lib Go.Sort Go.Ab Go.Pm
def AIQ:Ren:=⟨λ|6=>133|14=>192|15=>140|20=>251|21=>252|22=>253|23=>254|24=>255|25=>256|26=>257|27=>258|28=>210|29=>211|46=>292|47=>267|48=>268|49=>293|50=>294|57=>319|n=>n,λ|22=>30|24=>52|25=>218|39=>222|45=>286|46=>287|50=>231|53=>206|55=>269|66=>343|70=>347|76=>375|77=>176|n=>n,λn=>n⟩
theorem AHD:SlLaysF0.n6 Tryz.prog AIQ:=⟨by kernel_rfl,⟨Tryz.f133.name,by decide,Tryz.func133.trans (congrArg some (by kernel_rfl))⟩,⟨Tryz.f192.name,by decide,Tryz.func192.trans (congrArg some (by kernel_rfl))⟩,Tryz.func140.trans (congrArg some (by kernel_rfl)),⟨Tryz.f251.name,by decide,Tryz.func251.trans (congrArg some (by kernel_rfl))⟩,⟨Tryz.f252.name,by decide,Tryz.func252.trans (congrArg some (by kernel_rfl))⟩,⟨Tryz.f253.name,by decide,Tryz.func253.trans (congrArg some (by kernel_rfl))⟩,⟨Tryz.f254.name,by decide,Tryz.func254.trans (congrArg some (by kernel_rfl))⟩,⟨Tryz.f255.name,by decide,Tryz.func255.trans (congrArg some (by kernel_rfl))⟩,⟨Tryz.f256.name,by decide,Tryz.func256.trans (congrArg some (by kernel_rfl))⟩,⟨Tryz.f257.name,by decide,Tryz.func257.trans (congrArg some (by kernel_rfl))⟩,⟨Tryz.f258.name,by decide,Tryz.func258.trans (congrArg some (by kernel_rfl))⟩,Tryz.func210.trans (congrArg some (by kernel_rfl)),Tryz.func211.trans (congrArg some (by kernel_rfl)),⟨Tryz.f292.name,by decide,Tryz.func292.trans (congrArg some (by kernel_rfl))⟩,Tryz.func267.trans (congrArg some (by kernel_rfl)),Tryz.func268.trans (congrArg some (by kernel_rfl)),⟨Tryz.f293.name,by decide,Tryz.func293.trans (congrArg some (by kernel_rfl))⟩,⟨Tryz.f294.name,by decide,Tryz.func294.trans (congrArg some (by kernel_rfl))⟩,⟨Tryz.f319.name,by decide,Tryz.func319.trans (congrArg some (by kernel_rfl))⟩,Tryz.underlying0,Tryz.isAgg0,Tryz.sizeOf0,Tryz.zeroValue0,Tryz.underlying3,Tryz.isAgg3,Tryz.sizeOf3,Tryz.zeroValue3,Tryz.underlying4,Tryz.isAgg4,Tryz.sizeOf4,Tryz.zeroValue4,Tryz.underlying5,Tryz.isAgg5,Tryz.sizeOf5,Tryz.zeroValue5,Tryz.underlying9,Tryz.isAgg9,Tryz.sizeOf9,Tryz.zeroValue9,Tryz.underlying30,Tryz.isAgg30,Tryz.sizeOf30,Tryz.zeroValue30,Tryz.underlying218,Tryz.isAgg218,Tryz.sizeOf218,Tryz.zeroValue218,Tryz.underlying222,Tryz.isAgg222,Tryz.sizeOf222,Tryz.zeroValue222,Tryz.underlying286,Tryz.isAgg286,Tryz.sizeOf286,Tryz.zeroValue286,Tryz.underlying287,Tryz.isAgg287,Tryz.sizeOf287,Tryz.zeroValue287,Tryz.underlying231,Tryz.isAgg231,Tryz.sizeOf231,Tryz.zeroValue231,Tryz.underlying206,Tryz.isAgg206,Tryz.sizeOf206,Tryz.zeroValue206,Tryz.underlying269,Tryz.isAgg269,Tryz.sizeOf269,Tryz.zeroValue269,Tryz.underlying343,Tryz.isAgg343,Tryz.sizeOf343,Tryz.zeroValue343,Tryz.underlying347,Tryz.isAgg347,Tryz.sizeOf347,Tryz.zeroValue347,Tryz.underlying375,Tryz.isAgg375,Tryz.sizeOf375,Tryz.zeroValue375,Tryz.underlying176,Tryz.isAgg176,Tryz.sizeOf176,Tryz.zeroValue176⟩
def AIR:Ren:=⟨λ|5=>84|7=>146|n=>n,λ|22=>3|n=>n,λn=>n⟩
theorem AIK:SlLaysC2.n5 Tryz.prog AIR:=⟨by kernel_rfl,⟨Tryz.f84.name,by decide,Tryz.func84.trans (congrArg some (by kernel_rfl))⟩,⟨Tryz.f146.name,by decide,Tryz.func146.trans (congrArg some (by kernel_rfl))⟩,Tryz.underlying3,Tryz.isAgg3,Tryz.sizeOf3,Tryz.zeroValue3,Tryz.underlying4,Tryz.isAgg4,Tryz.sizeOf4,Tryz.zeroValue4,Tryz.underlying3,Tryz.isAgg3,Tryz.sizeOf3,Tryz.zeroValue3⟩
theorem AAS{r:List Value}(h:r.length+1=13): ∃d e f g i j k l m a b c,r=[d,e,f,g,i,j,k,l,m,a,b,c]:=by
 match r,h with
 |[d,e,f,g,i,j,k,l,m,a,b,c],_=>exact⟨_,_,_,_,_,_,_,_,_,_,_,_,rfl⟩
set_option maxHeartbeats 2000000 in
theorem AIF(a b:Int)(r s:List Value)(W:World)(hr:r.length+1=13)(j:s.length+1=13):Calls Tryz.prog 134 #[.agg (Value.int .i64 a::r).toArray,.agg (Value.int .i64 b::s).toArray] W λe i=>e= .returned (.int .i64 (Lib.compareInt a b))/\ ∃q g,i=grow (W.drewN q) g:=by
 obtain⟨t,u,v,w,x,y,z,A,B,k,l,m,rfl⟩:=AAS hr;obtain⟨C,D,E,F,G,H,I,J,K,n,o,p,rfl⟩:=AAS j;have d:=λh=>AnyG.cmp_Compare_int AIK a b h;change∀h,Calls Tryz.prog 84 _ _ _ at d;generalize Lib.compareInt a b=c at d⊢;go_enter Tryz.func134,Tryz.ntmps134;go_wp2_with (go_at_call 84;refine(d _).mono ?_;rintro e i ⟨rfl,rfl⟩)
 go_ret
 exact⟨rfl,0,_,by rw[alloc_eq_grow,alloc_eq_grow,grow_grow];rfl⟩
theorem QA:(S5.c2 133 Aj [] [] [.fn (.func 134) [] []] C5).Ok Tryz.prog:=ADP (te:=Aj) (λe:AE=>e.1) (λe=>rfl) AIF (λc m i g k b cap d w a j l f=>AnyQ.slices_SortFunc AHD 13 Tryz.isAgg52 Tryz.sizeOf52 c m i g k 134 #[] b 0 cap d w (enters_of Tryz.func134 (by kernel_rfl) rfl) a j l f) λp cap h w=>AnyF.slices_SortFunc_none AHD p cap h w
end Go.Proofs.YtghpjojfhamomaaGreat
