/- Texts of wip, joined and shortened by wip/tools/pack.py; nothing is assumed. -/
import Derived.Test.YtkgodfhnofpglaaGreatDoorK11
import Derived.Test.YtkgodfhnofpglaaGreatDoorProg
import Derived.KernelRfl
import Derived.Shelf.SlSortCmp.WholeK
import Derived.Shelf.SlSortCmp.NoneTotal
import Derived.Shelf.SlicesG.Cmp
import Derived.WalkKit
noncomputable section
set_option linter.all false
set_option maxHeartbeats 4000000
set_option maxRecDepth 100000
open Option renaming some->D
open List renaming length->Z
open Go renaming Ψ->E
open Option renaming none->A
open Bool renaming true->Y
open Option renaming some->δ,none->ε
open Bool renaming true->ζ
open List renaming length->θ,replicate->ς
open Go.IntKind renaming wrap->ι
open BitVec renaming ofInt->κ,toNat->π
open Int renaming toNat->ο
open _root_ renaming Int->X
namespace Go.Proofs.YtkgodfhnofpglaaGreatDoor
open Go Go.Ab Go.Pm
abbrev Ax(c:RJ):Prop:=c.Ok Tryz.prog
abbrev a?(F d r g):=Ax (.c0 F d r g)
abbrev b?(F p b d r g):=Ax (.c1 F p b d r g)
instance{n:Nat}:OfNat PY n:=⟨.t n i64⟩
instance{n:Nat}:OfNat Exit n:=⟨.exit n⟩
def h?:E PY->E PY|[]=>[]|.p n _::r=>.x n::h? r|.u n _::r=>.x n::h? r|.m n _ _::r=>.x n::h? r|.x n::r=>.x n::h? r|_::r=>h? r
abbrev c?(i T):=hn 2 i (h? T) [(.normal,T)]
abbrev d?(i R T):=hn 2 i (h? T) [(.ret,R),(.normal,T)]
abbrev e?(i S a T):=hn 0 i S [(.exit a,T)]
abbrev f?(i S R a T):=hn 0 i S [(.ret,R),(.exit a,T)]
abbrev g?(n b):=PY.p n [.d b]
abbrev e!:List Part:=[.o 4,.d i64,.d (.list i64),.d .bool,.o 6]
abbrev i?:List Part:=[.o 4,.d i64,.d (.list i64),.d .bool,.o 9]
abbrev l?:List Part:=[.d i64,.d i64,.d (.list B7),.o 3,.d EK]
abbrev o?:List Part:=[.d A6,.o 4,.o 5,.d .bool]
abbrev Q!:List Part:=[.o 4,.d i64,.o 5,.d .bool,.o 6]
abbrev Q?:List Part:=[.d i64,.d i64,.o 2]
def na:a? 343 [(.int .u64),(.int .u64)] [(.int .u64),(.int .u64)] Vt:=k0 [] B4
def pR:a? 265 [(.int .u64),(.int .u64)] [(.int .u64),(.int .u64)] X7:=k0 [] (A1 na B4)
open Go.RowKit Go.Ab Go.Pm
def ADd(n:X){i:Nat}(h:i<8):ι .u64 n/2^(8*i)%256=((UInt8.ofNat (n/256^i%256).toNat).toNat:X):=by
 have e:ι .u64 n/2^(8*i)%256=n/256^i%256:=by
  rw[AB3,Xt];have:i=0\/i=1\/i=2\/i=3\/i=4\/i=5\/i=6\/i=7:=o!
  rcases this with h|h|h|h|h|h|h|h<;>rw[h];rw[show(256:X)^0=1 by decide];omega;rw[show(256:X)^1=256 by decide];omega;rw[show(256:X)^2=65536 by decide];omega;rw[show(256:X)^3=16777216 by decide];omega;rw[show(256:X)^4=4294967296 by decide];omega;rw[show(256:X)^5=1099511627776 by decide];omega;rw[show(256:X)^6=281474976710656 by decide];omega;rw[show(256:X)^7=72057594037927936 by decide];omega
 rw[e,UInt8.toNat_ofNat'];omega
def AI8(w:World):Lib.IsBuilderF 389 5 w.heap.size w.heap.size [] (w.alloc (.cells #[.pointer A,.slice A 0 0] 389)):=.inl ⟨Am _,_,heap_alloc_new w _,World.ownsRowF_nil _ _ _ _,by simp[Value.ownBlock]⟩
def AI9(l:Ψ UInt8)(n:X)(k:Nat)(w:World)(F:Z l≤1099511627776)(E:1≤k∧k≤8):
  Calls Tryz.prog 191 #[.string ⟨l.toArray⟩,.int .i64 n,.int .i64 k] w λe D_=>e=.returned (.string ⟨(l++DE n k).toArray⟩)/\Below w.heap.size w D_:=by
 have p:Below w.heap.size w (w.alloc (.cells #[.pointer A,.slice A 0 0] 389)):=(Below.refl _ w).alloc (Am _) _;obtain⟨s,d⟩:∃s:ByteArray,(⟨l.toArray⟩:ByteArray)=s:=⟨_,rfl⟩
 have b:s.size=Z l:=by rw[<-d];simp[ByteArray.size]
 have y:=ZG w.heap.size w.heap.size [] s _ (AI8 w) (by rw[b,CO];omega) p.size;rw[d];have f:Lib.strCells s=Lib.byteCells l:=by rw[<-d,Lib.strCells_eq]
 have A_:Aside ((⟨l.toArray⟩:ByteArray)=s/\s.size=Z l/\Lib.strCells s=Lib.byteCells l):=⟨d,b,f⟩
 clear d b f;go_enter Tryz.func191,Tryz.ntmps191;go_wp2_with (go_at_call 262;go_fit y;rintro e W2 ⟨rfl,z,u⟩)
 go_loopg [19] k (λg o r=>∃i:Nat,i+g=k/\o=.int .i64 i/\Lib.IsBuilderF 389 5 w.heap.size w.heap.size (Lib.byteCells (l++DE n i)) r/\Below w.heap.size w r)
 case atStart=>refine⟨0,o!,rfl,.inr ?_,p.trans u⟩;have:=A_.out.2.2;simpa[DE,this]using z
 case round=>
  obtain⟨i,B,rfl,q,a⟩:=hrel;cases gk with
  |zero=>
   obtain rfl:i=k:=o!
   have x:=wy w.heap.size w.heap.size (l++DE n i) wr q (λh=>by have:=E! Z h;rw[Ae,A0,CO]at this;omega);go_wp2_with (go_at_call 264;go_fit x;rintro e t ⟨rfl,m,j⟩)
   go_ret
   exact⟨rfl,a.trans j⟩
  |succ g=>
   have C:(i:X)<k:=o!
   have v:=λc=>yN w.heap.size w.heap.size _ c wr q (by rw[Lib.byteCells_length,Ae,A0];omega) a.size;go_wp2_with (go_at_call 263;apply (v _).mono;rintro e t ⟨rfl,m,j⟩)
   go_roundg g
   case measure=>omega
   case rel=>refine⟨i+1,o!,rfl,.inr ?_,a.trans j⟩;rw[ADd n o!]at m;rw[vQ,<-A5,Lib.byteCells_append];exact m
def AG9(c:Nat)(h:c<=8000):X7 (1,(c:X))=D (0,(c:X)):=by
 have e:Int.fdiv (c:X) 4294967296=0:=by rw[ml _ o!];omega
 have b:π (κ 64 (c:X)&&&κ 64 4294967295)=c:=by rw[BitVec.toNat_and,show π (κ 64 (c:X))=c by rw[BitVec.toNat_ofInt];omega,show π (κ 64 4294967295)=2^32-1 by decide,Nat.and_two_pow_sub_one_eq_mod];omega
 have a:ι .u64 (c:X)=c:=by rw[Xt];omega
 have d:(2:X)^(min (ο 32) 64)=4294967296:=g!
 unfold X7 Vt;dsimp only;rw[d,e,b,a,show Int.fdiv 1 4294967296=0 by decide,show π (κ 64 1&&&κ 64 4294967295)=1 by decide,show ι .u64 ((1:Nat):X)=1 by decide];simp only[Int.zero_mul,Int.mul_zero,Int.one_mul,a,e,show ι .u64 0=0 by decide,Int.zero_add,Int.add_zero,show Int.fdiv 0 4294967296=0 by decide,AD];exact E! (λz=>D (z,(c:X))) g!
def AI7(c:Nat)(h:c<=8000)(w:World):Calls Tryz.prog 265 #[.int .u64 1,.int .u64 c] w λe n=>e=.returned (.tuple #[.int .u64 0,.int .u64 c])/\Below w.heap.size w n:=by
 have q:Ei Tryz.prog 265 [.int .u64 1,.int .u64 c] [] (C9 (.tup [.int .u64 0,.int .u64 c]) []):=pR (1,(c:X)) (0,(c:X)) (AG9 c h) [];refine(ay q (w:=w) (cargs:= #[.int .u64 1,.int .u64 c]) rfl ?_).mono ?_;intro j v d a f;match j,a,f with
 |0,a,f=>simp at a f;subst a f;exact .int _ _
 |1,a,f=>simp at a f;subst a f;exact .int _ _
 |j+2,a,_=>simp at a
 rintro e n ⟨d,v,x,s,rfl,⟨rfl,_⟩,r,b⟩;cases r with
 |tup h m=>
  rename_i g;have k:g.size=2:=h;have k0:=m 0 (.int .u64 0) g[0] rfl (by simp[k]);have k1:=m 1 (.int .u64 c) g[1] rfl (by simp[k]);have o:=mi k0;have p:=mi k1;refine⟨?_,b⟩;have:g= #[g[0],g[1]]:=by
   apply Array.ext;simp[k];intro i l _;match i,l with
   |0,_=>rfl
   |1,_=>rfl
   |i+2,l=>omega
  rw[this,o,p]
def AHA(w:World):Calls Tryz.prog 193 #[.string ⟨#[0]⟩,.int .i64 0] w λe a=>e=.returned (.string ⟨#[]⟩)/\Below w.heap.size w a:=by
 go_enter Tryz.func193,Tryz.ntmps193
 go_wp2
 go_ret
 exact⟨rfl,Below.refl _ _⟩
def AHB(w:World):Calls Tryz.prog 193 #[.string ⟨#[0]⟩,.int .i64 1] w λe a=>e=.returned (.string ⟨#[0]⟩)/\Below w.heap.size w a:=by
 go_enter Tryz.func193,Tryz.ntmps193
 go_wp2
 go_ret
 exact⟨rfl,Below.refl _ _⟩
set_option maxRecDepth 1000000 in
def AJA(c:Nat)(w:World)(T:2≤c)(R:c≤8000):
  Calls Tryz.prog 193 #[.string ⟨#[0]⟩,.int .i64 c] w λe B=>e=.returned (.string ⟨(ς c (0:UInt8)).toArray⟩)/\Below w.heap.size w B:=by
 have i:=AI7 c R w;go_enter Tryz.func193,Tryz.ntmps193;go_upto_block 1 with(go_at_call 265;go_fit i;rintro e f ⟨rfl,j⟩)
 clear i;have m:Below w.heap.size w (f.alloc (.cells #[.pointer A,.slice A 0 0] 389)):=j.alloc j.size _;have E:=AG7 w.heap.size f.heap.size c (f.alloc (.cells #[.pointer A,.slice A 0 0] 389)) j.size (heap_alloc_new f _) m.size o!;go_wp2_with (go_at_call 266;go_fit E;rintro e O ⟨rfl,G,p⟩)
 clear E;have F:=ZG w.heap.size f.heap.size [] ⟨#[0]⟩ O (Lib.IsBuilderF.of (Or.inr G)) g! (Cs m.size p.size);go_wp2_with (go_at_call 262;go_fit F;rintro e W2 ⟨rfl,s,D_⟩)
 clear F G;have u:Lib.IsBuilderF 389 5 w.heap.size f.heap.size (Lib.byteCells (ς 1 (0:UInt8))) W2:=by rw[Cq,Lib.strCells_eq]at s;exact Or.inr s
 have o:Below w.heap.size w W2:=m.trans (p.trans D_);clear s m p D_;go_loopg [] (c-1) (λg N=>∃q:Nat,1<=q/\q+g=c/\Lib.IsBuilderF 389 5 w.heap.size f.heap.size (Lib.byteCells (ς q (0:UInt8))) N/\Below w.heap.size w N)
 case atStart=>exact⟨1,Am _,o!,u,o⟩
 case round=>
  obtain⟨q,U,X_,J,k⟩:=hrel;have b:=AI6 w.heap.size f.heap.size _ wr J;rw[Lib.byteCells_length,GH]at b;have d:=wy w.heap.size f.heap.size (ς q (0:UInt8)) wr J (λh=>by have:=E! Z h;rw[GH,CO]at this;omega);cases gk with
  |zero=>
   obtain rfl:q=c:=o!
   go_wp2_with (first
    |(go_at_call 267;go_fit b;rintro e B ⟨rfl,y⟩;rw[y])
    |(go_at_call 264;go_fit d;rintro e C ⟨rfl,H,n⟩))
   go_ret
   exact⟨rfl,k.trans n⟩
  |succ g=>
   obtain⟨a,l⟩:∃a,min (c-q) q=a:=⟨_,rfl⟩
   have V:(q:X)<c:=o!
   have x:∀M t W,(Builtin.min_ M t #[.int .i64 ((c:X)-(q:X)),.int .i64 (q:X),.int .i64 (c:X)]).run Tryz.prog W=.ok (.int .i64 (a:X)) W:=λM t W=>by simp[Builtin.min_,Builtin.min2];omega
   have A_:Aside (min (c-q) q=a/\a<=q):=⟨l,o!⟩
   have K:(a:X)<=q:=o!
   clear l;obtain⟨S,v⟩:∃S:ByteArray,(⟨(ς q (0:UInt8)).toArray⟩:ByteArray)=S:=⟨_,rfl⟩
   rw[v]at d;have Q:S.size=q:=by rw[<-v];simp[ByteArray.size]
   go_wp2_with (first
    |(go_at_call 267;go_fit b;rintro e B ⟨rfl,y⟩;rw[y])
    |(go_at_call 264;go_fit d;rintro e C ⟨rfl,H,n⟩))
   have L:(S.extract 0 a).data.toList=ς a (0:UInt8):=by rw[Lib.extract_data,<-v];simp only[Wz,ZC,List.take_replicate];rw[RZ A_.out.2]
   have z:(S.extract 0 a).size=a:=by rw[Lib.size_eq,L,GH]
   have r:=ZG w.heap.size f.heap.size _ (S.extract 0 a) C H (by rw[Lib.byteCells_length,GH,z];have:=A_.out.2;omega) (Cs k.size n.size);go_wp2_with (go_at_call 262;go_fit r;rintro e Y_ ⟨rfl,I,P⟩)
   go_roundg (c-(q+a))
   case measure=>have:=A_.out.1;omega
   case rel=>refine⟨q+a,o!,by have:=A_.out.1;omega,Or.inr ?_,k.trans (n.trans P)⟩;rw[Lib.strCells_eq,<-Lib.byteCells_append,L,List.replicate_append_replicate]at I;exact I
def uU{a:Type}{b:Bool}{z y:a}(h:(bif b then D z else A)=D y):b=Y/\z=y:=by cases b;cases h;exact⟨rfl,BL h⟩
def AE0{a:Array Value}{l:E Value}(b:a.size=Z l)(h:∀(j:Nat)(v c:Value),l[j]?=D v->a[j]?=D c->c=v):a=l.toArray:=by apply Array.ext;simpa using b;intro i d e;have:=h i l[i] a[i] k! k!;simpa using this
def ny:(RJ.c0 191 [.str,(.int .i64),(.int .i64)] [.str] PO).Ok Tryz.prog:=by
 rintro⟨s,n,k⟩ y i H;obtain⟨h,rfl⟩:=uU i;simp only[BS,K!]at h;refine lI (args:=[.str s,.int .i64 n,.int .i64 k]) (v:=.str (s++DE n k.toNat)) (λw a g hr=>?_) H;have e:a= #[.string ⟨s.toArray⟩,.int .i64 n,.int .i64 k.toNat]:=AE0 (l:=[.string ⟨s.toArray⟩,.int .i64 n,.int .i64 k.toNat]) g λj v c d f=>by
  match j,d with
  |0,d=>obtain⟨x,q⟩:=hr 0 _ c rfl f;cases d;exact AA5 q
  |1,d=>obtain⟨x,q⟩:=hr 1 _ c rfl f;cases d;exact mi q
  |2,d=>obtain⟨x,q⟩:=hr 2 _ c rfl f;cases d;rw[mi q,IU o!]
 rw[e];apply (AI9 s n k.toNat w h.1 o!).mono;rintro e m ⟨rfl,b⟩;exact⟨_,rfl,λx=>.str _ rfl,b⟩
def UJ:(RJ.c0 193 [.str,(.int .i64)] [.str] LW).Ok Tryz.prog:=by
 rintro⟨s,n⟩ y o H;obtain⟨h,rfl⟩:=uU o;simp only[BS,K!,J!]at h;obtain⟨rfl,h⟩:=h;refine lI (args:=[.str [0],.int .i64 n]) (v:=.str (ς n.toNat 0)) (λw a m hr=>?_) H;have e:a= #[.string ⟨#[0]⟩,.int .i64 n.toNat]:=AE0 (l:=[.string ⟨#[0]⟩,.int .i64 n.toNat]) m λj v c d g=>by
  match j,d with
  |0,d=>obtain⟨x,q⟩:=hr 0 _ c rfl g;cases d;exact AA5 q
  |1,d=>obtain⟨x,q⟩:=hr 1 _ c rfl g;cases d;rw[mi q,IU o!]
 rw[e];have key:∀k:Nat,k<=8000->Calls Tryz.prog 193 #[.string ⟨#[0]⟩,.int .i64 k] w λe i=>e=.returned (.string ⟨(ς k (0:UInt8)).toArray⟩)/\Below w.heap.size w i:=λk f=>by
  match k,f with
  |0,_=>exact AHA w
  |1,_=>exact AHB w
  |k+2,f=>exact AJA (k+2) w o! f
 apply (key n.toNat o!).mono;rintro e i ⟨rfl,b⟩;exact⟨_,rfl,λx=>.str _ rfl,b⟩
open Go.Shelf Go.RowKit Go.Lib Go.Sort Go.Ab Go.Pm
def ALS:Ren:=⟨λ|6=>204|14=>271|15=>210|20=>345|21=>346|22=>347|23=>348|24=>349|25=>350|26=>351|27=>352|28=>284|29=>285|46=>390|47=>355|48=>356|49=>391|50=>392|57=>430|n=>n,λ|22=>24|24=>127|25=>267|39=>277|45=>405|46=>406|50=>176|53=>203|55=>276|66=>461|70=>465|76=>499|77=>128|n=>n,λn=>n⟩
def AKP:SlLaysF0.n6 Tryz.prog ALS:=⟨h!,⟨Tryz.f204.name,g!,Tryz.func204.trans (E! D h!)⟩,⟨Tryz.f271.name,g!,Tryz.func271.trans (E! D h!)⟩,Tryz.func210.trans (E! D h!),⟨Tryz.f345.name,g!,Tryz.func345.trans (E! D h!)⟩,⟨Tryz.f346.name,g!,Tryz.func346.trans (E! D h!)⟩,⟨Tryz.f347.name,g!,Tryz.func347.trans (E! D h!)⟩,⟨Tryz.f348.name,g!,Tryz.func348.trans (E! D h!)⟩,⟨Tryz.f349.name,g!,Tryz.func349.trans (E! D h!)⟩,⟨Tryz.f350.name,g!,Tryz.func350.trans (E! D h!)⟩,⟨Tryz.f351.name,g!,Tryz.func351.trans (E! D h!)⟩,⟨Tryz.f352.name,g!,Tryz.func352.trans (E! D h!)⟩,Tryz.func284.trans (E! D h!),Tryz.func285.trans (E! D h!),⟨Tryz.f390.name,g!,Tryz.func390.trans (E! D h!)⟩,Tryz.func355.trans (E! D h!),Tryz.func356.trans (E! D h!),⟨Tryz.f391.name,g!,Tryz.func391.trans (E! D h!)⟩,⟨Tryz.f392.name,g!,Tryz.func392.trans (E! D h!)⟩,⟨Tryz.f430.name,g!,Tryz.func430.trans (E! D h!)⟩,Tryz.underlying0,Tryz.isAgg0,Tryz.sizeOf0,Tryz.zeroValue0,Tryz.underlying3,Tryz.isAgg3,Tryz.sizeOf3,Tryz.zeroValue3,Tryz.underlying4,Tryz.isAgg4,Tryz.sizeOf4,Tryz.zeroValue4,Tryz.underlying5,Tryz.isAgg5,Tryz.sizeOf5,Tryz.zeroValue5,Tryz.underlying9,Tryz.isAgg9,Tryz.sizeOf9,Tryz.zeroValue9,Tryz.underlying24,Tryz.isAgg24,Tryz.sizeOf24,Tryz.zeroValue24,Tryz.underlying267,Tryz.isAgg267,Tryz.sizeOf267,Tryz.zeroValue267,Tryz.underlying277,Tryz.isAgg277,Tryz.sizeOf277,Tryz.zeroValue277,Tryz.underlying405,Tryz.isAgg405,Tryz.sizeOf405,Tryz.zeroValue405,Tryz.underlying406,Tryz.isAgg406,Tryz.sizeOf406,Tryz.zeroValue406,Tryz.underlying176,Tryz.isAgg176,Tryz.sizeOf176,Tryz.zeroValue176,Tryz.underlying203,Tryz.isAgg203,Tryz.sizeOf203,Tryz.zeroValue203,Tryz.underlying276,Tryz.isAgg276,Tryz.sizeOf276,Tryz.zeroValue276,Tryz.underlying461,Tryz.isAgg461,Tryz.sizeOf461,Tryz.zeroValue461,Tryz.underlying465,Tryz.isAgg465,Tryz.sizeOf465,Tryz.zeroValue465,Tryz.underlying499,Tryz.isAgg499,Tryz.sizeOf499,Tryz.zeroValue499,Tryz.underlying128,Tryz.isAgg128,Tryz.sizeOf128,Tryz.zeroValue128⟩
def ALT:Ren:=⟨λ|5=>139|7=>216|n=>n,λ|22=>3|n=>n,λn=>n⟩
def ALL:SlLaysC2.n5 Tryz.prog ALT:=⟨h!,⟨Tryz.f139.name,g!,Tryz.func139.trans (E! D h!)⟩,⟨Tryz.f216.name,g!,Tryz.func216.trans (E! D h!)⟩,Tryz.underlying3,Tryz.isAgg3,Tryz.sizeOf3,Tryz.zeroValue3,Tryz.underlying4,Tryz.isAgg4,Tryz.sizeOf4,Tryz.zeroValue4,Tryz.underlying3,Tryz.isAgg3,Tryz.sizeOf3,Tryz.zeroValue3⟩
def ADN{r:E Value}(h:Z r+1=13):∃d e f g i j k l m a b c,r=[d,e,f,g,i,j,k,l,m,a,b,c]:=by
 match r,h with
 |[d,e,f,g,i,j,k,l,m,a,b,c],_=>exact⟨_,_,_,_,_,_,_,_,_,_,_,_,rfl⟩
def ALF(a b:X)(r s:Ψ Value)(W:World)(hr:Z r+1=13)(j:Z s+1=13):Calls Tryz.prog 205 #[.agg (Value.int .i64 a::r).toArray,.agg (Value.int .i64 b::s).toArray] W λe i=>e=.returned (.int .i64 (Lib.compareInt a b))/\∃q g,i=grow (W.drewN q) g:=by
 obtain⟨t,u,v,w,x,y,z,A,B,k,l,m,rfl⟩:=ADN hr;obtain⟨C,D,E,F,G,H,I,J,K,n,o,p,rfl⟩:=ADN j;have d:=λh=>AnyG.cmp_Compare_int ALL a b h;change∀h,Calls Tryz.prog 139 _ _ _ at d;generalize Lib.compareInt a b=c at d⊢;go_enter Tryz.func205,Tryz.ntmps205;go_wp2_with (go_at_call 139;apply (d _).mono;rintro e i ⟨rfl,rfl⟩)
 go_ret
 exact⟨rfl,0,_,by rw[alloc_eq_grow,alloc_eq_grow,grow_grow];rfl⟩
def RK:(RJ.c2 204 Aj [] [] [.fn (.func 205) [] []] DD).Ok Tryz.prog:=AGU (te:=Aj) (λe:AI=>e.1) (λe=>rfl) ALF (λc m i g k b cap d w a j l f=>AnyQ.slices_SortFunc AKP 13 Tryz.isAgg127 Tryz.sizeOf127 c m i g k 205 #[] b 0 cap d w (enters_of Tryz.func205 h! rfl) a j l f) λp cap h w=>AnyF.slices_SortFunc_none AKP p cap h w
end Go.Proofs.YtkgodfhnofpglaaGreatDoor
