/- Texts of wip, joined and shortened by wip/tools/pack.py; nothing is assumed. -/
import Derived.Test.YtkgodfhnofpglaaGreatK12
import Derived.Test.YtkgodfhnofpglaaGreatProg
import Derived.KernelRfl
import Derived.Shelf.SlSortCmp.WholeK
import Derived.Shelf.SlSortCmp.NoneTotal
import Derived.Shelf.SlicesG.Cmp
import Derived.WalkKit
noncomputable section
set_option linter.all false
set_option maxHeartbeats 4000000
set_option maxRecDepth 100000
open Option renaming some->D
open List renaming length->Z
open Go renaming Ψ->E
open Bool renaming true->A
open Option renaming none->U
open Option renaming some->δ,none->ε
open Bool renaming true->ζ
open List renaming length->θ,replicate->ς
open Go.IntKind renaming wrap->ι
open BitVec renaming ofInt->κ,toNat->π
open Int renaming toNat->ο
open _root_ renaming Int->X
namespace Go.Proofs.YtkgodfhnofpglaaGreat
open Go Go.Ab Go.Pm
abbrev A6(c:RI):Prop:=c.Ok Tryz.prog
abbrev a?(F d r g):=A6 (.c0 F d r g)
abbrev b?(F p b d r g):=A6 (.c1 F p b d r g)
instance{n:Nat}:OfNat Pa n:=⟨.t n i64⟩
instance{n:Nat}:OfNat Exit n:=⟨.exit n⟩
def h?:E Pa->E Pa|[]=>[]|.p n _::r=>.x n::h? r|.u n _::r=>.x n::h? r|.m n _ _::r=>.x n::h? r|.x n::r=>.x n::h? r|_::r=>h? r
abbrev c?(i T):=hn 2 i (h? T) [(.normal,T)]
abbrev d?(i R T):=hn 2 i (h? T) [(.ret,R),(.normal,T)]
abbrev e?(i S a T):=hn 0 i S [(.exit a,T)]
abbrev f?(i S R a T):=hn 0 i S [(.ret,R),(.exit a,T)]
abbrev g?(n b):=Pa.p n [.d b]
abbrev e!:List Part:=[.o 4,.d i64,.d (.list i64),.d .bool,.o 6]
abbrev i?:List Part:=[.o 4,.d i64,.d (.list i64),.d .bool,.o 9]
abbrev l?:List Part:=[.d i64,.d i64,.d (.list CC),.o 3,.d Eg]
abbrev o?:List Part:=[.d (.list i64),.d i64,.o 4,.d i64,.d i64]
abbrev Q!:List Part:=[.d A7,.o 4,.o 5,.d .bool]
abbrev Q?:List Part:=[.o 4,.d i64,.o 5,.d .bool,.o 6]
abbrev W!:List Part:=[.d i64,.d i64,.o 2]
def mY:a? 235 [(.int .u64),(.int .u64)] [(.int .u64),(.int .u64)] VY:=k0 [] CM
def oe:a? 169 [(.int .u64),(.int .u64)] [(.int .u64),(.int .u64)] Xh:=k0 [] (A8 mY CM)
open Go.RowKit Go.Ab Go.Pm
def ACw(n:X){i:Nat}(h:i<8):ι .u64 n/2^(8*i)%256=((UInt8.ofNat (n/256^i%256).toNat).toNat:X):=by
 have e:ι .u64 n/2^(8*i)%256=n/256^i%256:=by
  rw[ABG,XW];have:i=0\/i=1\/i=2\/i=3\/i=4\/i=5\/i=6\/i=7:=o!
  rcases this with h|h|h|h|h|h|h|h<;>rw[h];rw[show(256:X)^0=1 by decide];omega;rw[show(256:X)^1=256 by decide];omega;rw[show(256:X)^2=65536 by decide];omega;rw[show(256:X)^3=16777216 by decide];omega;rw[show(256:X)^4=4294967296 by decide];omega;rw[show(256:X)^5=1099511627776 by decide];omega;rw[show(256:X)^6=281474976710656 by decide];omega;rw[show(256:X)^7=72057594037927936 by decide];omega
 rw[e,fm];omega
def AIw(w:World):Lib.IsBuilderF 248 5 w.heap.size w.heap.size [] (w.alloc (.cells #[.pointer U,.slice U 0 0] 248)):=.inl ⟨Ao _,_,heap_alloc_new w _,World.ownsRowF_nil _ _ _ _,by simp[Value.ownBlock]⟩
def AIx(l:Ψ UInt8)(n:X)(k:Nat)(w:World)(F:Z l≤1099511627776)(E:1≤k∧k≤8):
  Calls Tryz.prog 101 #[.string ⟨l.toArray⟩,.int .i64 n,.int .i64 k] w λe D_=>e=.returned (.string ⟨(l++DB n k).toArray⟩)/\Below w.heap.size w D_:=by
 have p:Below w.heap.size w (w.alloc (.cells #[.pointer U,.slice U 0 0] 248)):=(Below.refl _ w).alloc (Ao _) _;obtain⟨s,d⟩:∃s:ByteArray,(⟨l.toArray⟩:ByteArray)=s:=⟨_,rfl⟩
 have b:s.size=Z l:=by rw[<-d];simp[ByteArray.size]
 have y:=Yr w.heap.size w.heap.size [] s _ (AIw w) (by rw[b,Be];omega) p.size;rw[d];have f:Lib.strCells s=Lib.byteCells l:=by rw[<-d,Lib.strCells_eq]
 have A_:Aside ((⟨l.toArray⟩:ByteArray)=s/\s.size=Z l/\Lib.strCells s=Lib.byteCells l):=⟨d,b,f⟩
 clear d b f;go_enter Tryz.func101,Tryz.ntmps101;go_wp2_with (go_at_call 166;go_fit y;rintro e W2 ⟨rfl,z,u⟩)
 go_loopg [19] k (λg o r=>∃i:Nat,i+g=k/\o=.int .i64 i/\Lib.IsBuilderF 248 5 w.heap.size w.heap.size (Lib.byteCells (l++DB n i)) r/\Below w.heap.size w r)
 case atStart=>refine⟨0,o!,rfl,.inr ?_,p.trans u⟩;have:=A_.out.2.2;simpa[DB,this]using z
 case round=>
  obtain⟨i,B,rfl,q,a⟩:=hrel;cases gk with
  |zero=>
   obtain rfl:i=k:=o!
   have x:=wJ w.heap.size w.heap.size (l++DB n i) wr q (λh=>by have:=E! Z h;rw[AV,A0,Be]at this;omega);go_wp2_with (go_at_call 168;go_fit x;rintro e t ⟨rfl,m,j⟩)
   go_ret
   exact⟨rfl,a.trans j⟩
  |succ g=>
   have C:(i:X)<k:=o!
   have v:=λc=>xT w.heap.size w.heap.size _ c wr q (by rw[Lib.byteCells_length,AV,A0];omega) a.size;go_wp2_with (go_at_call 167;apply (v _).mono;rintro e t ⟨rfl,m,j⟩)
   go_roundg g
   case measure=>omega
   case rel=>refine⟨i+1,o!,rfl,.inr ?_,a.trans j⟩;rw[ACw n o!]at m;rw[um,<-A2,Lib.byteCells_append];exact m
def AGi(c:Nat)(h:c<=8000):Xh (1,(c:X))=D (0,(c:X)):=by
 have e:Int.fdiv (c:X) 4294967296=0:=by rw[lX _ o!];omega
 have b:π (κ 64 (c:X)&&&κ 64 4294967295)=c:=by rw[BitVec.toNat_and,show π (κ 64 (c:X))=c by rw[BitVec.toNat_ofInt];omega,show π (κ 64 4294967295)=2^32-1 by decide,Nat.and_two_pow_sub_one_eq_mod];omega
 have a:ι .u64 (c:X)=c:=by rw[XW];omega
 have d:(2:X)^(min (ο 32) 64)=4294967296:=g!
 unfold Xh VY;dsimp only;rw[d,e,b,a,show Int.fdiv 1 4294967296=0 by decide,show π (κ 64 1&&&κ 64 4294967295)=1 by decide,show ι .u64 ((1:Nat):X)=1 by decide];simp only[Int.zero_mul,Int.mul_zero,Int.one_mul,a,e,show ι .u64 0=0 by decide,Int.zero_add,Int.add_zero,show Int.fdiv 0 4294967296=0 by decide,AD];exact E! (λz=>D (z,(c:X))) g!
def AIv(c:Nat)(h:c<=8000)(w:World):Calls Tryz.prog 169 #[.int .u64 1,.int .u64 c] w λe n=>e=.returned (.tuple #[.int .u64 0,.int .u64 c])/\Below w.heap.size w n:=by
 have q:E8 Tryz.prog 169 [.int .u64 1,.int .u64 c] [] (DN (.tup [.int .u64 0,.int .u64 c]) []):=oe (1,(c:X)) (0,(c:X)) (AGi c h) [];refine(aL q (w:=w) (cargs:= #[.int .u64 1,.int .u64 c]) rfl ?_).mono ?_;intro j v d a f;match j,a,f with
 |0,a,f=>simp at a f;subst a f;exact .int _ _
 |1,a,f=>simp at a f;subst a f;exact .int _ _
 |j+2,a,_=>simp at a
 rintro e n ⟨d,v,x,s,rfl,⟨rfl,_⟩,r,b⟩;cases r with
 |tup h m=>
  rename_i g;have k:g.size=2:=h;have k0:=m 0 (.int .u64 0) g[0] rfl (by simp[k]);have k1:=m 1 (.int .u64 c) g[1] rfl (by simp[k]);have o:=lS k0;have p:=lS k1;refine⟨?_,b⟩;have:g= #[g[0],g[1]]:=by
   apply Array.ext;simp[k];intro i l _;match i,l with
   |0,_=>rfl
   |1,_=>rfl
   |i+2,l=>omega
  rw[this,o,p]
def AGj(w:World):Calls Tryz.prog 103 #[.string ⟨#[0]⟩,.int .i64 0] w λe a=>e=.returned (.string ⟨#[]⟩)/\Below w.heap.size w a:=by
 go_enter Tryz.func103,Tryz.ntmps103
 go_wp2
 go_ret
 exact⟨rfl,Below.refl _ _⟩
def AGk(w:World):Calls Tryz.prog 103 #[.string ⟨#[0]⟩,.int .i64 1] w λe a=>e=.returned (.string ⟨#[0]⟩)/\Below w.heap.size w a:=by
 go_enter Tryz.func103,Tryz.ntmps103
 go_wp2
 go_ret
 exact⟨rfl,Below.refl _ _⟩
set_option maxRecDepth 1000000 in
def AIy(c:Nat)(w:World)(T:2≤c)(R:c≤8000):
  Calls Tryz.prog 103 #[.string ⟨#[0]⟩,.int .i64 c] w λe B=>e=.returned (.string ⟨(ς c (0:UInt8)).toArray⟩)/\Below w.heap.size w B:=by
 have i:=AIv c R w;go_enter Tryz.func103,Tryz.ntmps103;go_upto_block 1 with(go_at_call 169;go_fit i;rintro e f ⟨rfl,j⟩)
 clear i;have m:Below w.heap.size w (f.alloc (.cells #[.pointer U,.slice U 0 0] 248)):=j.alloc j.size _;have E:=AGg w.heap.size f.heap.size c (f.alloc (.cells #[.pointer U,.slice U 0 0] 248)) j.size (heap_alloc_new f _) m.size o!;go_wp2_with (go_at_call 170;go_fit E;rintro e O ⟨rfl,G,p⟩)
 clear E;have F:=Yr w.heap.size f.heap.size [] ⟨#[0]⟩ O (Lib.IsBuilderF.of (Or.inr G)) g! (C5 m.size p.size);go_wp2_with (go_at_call 166;go_fit F;rintro e W2 ⟨rfl,s,D_⟩)
 clear F G;have u:Lib.IsBuilderF 248 5 w.heap.size f.heap.size (Lib.byteCells (ς 1 (0:UInt8))) W2:=by rw[Bt,Lib.strCells_eq]at s;exact Or.inr s
 have o:Below w.heap.size w W2:=m.trans (p.trans D_);clear s m p D_;go_loopg [] (c-1) (λg N=>∃q:Nat,1<=q/\q+g=c/\Lib.IsBuilderF 248 5 w.heap.size f.heap.size (Lib.byteCells (ς q (0:UInt8))) N/\Below w.heap.size w N)
 case atStart=>exact⟨1,Ao _,o!,u,o⟩
 case round=>
  obtain⟨q,U_,X_,J,k⟩:=hrel;have b:=AIu w.heap.size f.heap.size _ wr J;rw[Lib.byteCells_length,H4]at b;have d:=wJ w.heap.size f.heap.size (ς q (0:UInt8)) wr J (λh=>by have:=E! Z h;rw[H4,Be]at this;omega);cases gk with
  |zero=>
   obtain rfl:q=c:=o!
   go_wp2_with (first
    |(go_at_call 171;go_fit b;rintro e B ⟨rfl,y⟩;rw[y])
    |(go_at_call 168;go_fit d;rintro e C ⟨rfl,H,n⟩))
   go_ret
   exact⟨rfl,k.trans n⟩
  |succ g=>
   obtain⟨a,l⟩:∃a,min (c-q) q=a:=⟨_,rfl⟩
   have V:(q:X)<c:=o!
   have x:∀M t W,(Builtin.min_ M t #[.int .i64 ((c:X)-(q:X)),.int .i64 (q:X),.int .i64 (c:X)]).run Tryz.prog W=.ok (.int .i64 (a:X)) W:=λM t W=>by simp[Builtin.min_,Builtin.min2];omega
   have A_:Aside (min (c-q) q=a/\a<=q):=⟨l,o!⟩
   have K:(a:X)<=q:=o!
   clear l;obtain⟨S,v⟩:∃S:ByteArray,(⟨(ς q (0:UInt8)).toArray⟩:ByteArray)=S:=⟨_,rfl⟩
   rw[v]at d;have Q:S.size=q:=by rw[<-v];simp[ByteArray.size]
   go_wp2_with (first
    |(go_at_call 171;go_fit b;rintro e B ⟨rfl,y⟩;rw[y])
    |(go_at_call 168;go_fit d;rintro e C ⟨rfl,H,n⟩))
   have L:(S.extract 0 a).data.toList=ς a (0:UInt8):=by rw[Lib.extract_data,<-v];simp only[ln,nU,List.take_replicate];rw[RQ A_.out.2]
   have z:(S.extract 0 a).size=a:=by rw[Lib.size_eq,L,H4]
   have r:=Yr w.heap.size f.heap.size _ (S.extract 0 a) C H (by rw[Lib.byteCells_length,H4,z];have:=A_.out.2;omega) (C5 k.size n.size);go_wp2_with (go_at_call 166;go_fit r;rintro e Y ⟨rfl,I,P⟩)
   go_roundg (c-(q+a))
   case measure=>have:=A_.out.1;omega
   case rel=>refine⟨q+a,o!,by have:=A_.out.1;omega,Or.inr ?_,k.trans (n.trans P)⟩;rw[Lib.strCells_eq,<-Lib.byteCells_append,L,List.replicate_append_replicate]at I;exact I
def yo{a:Type}{b:Bool}{z y:a}(h:(bif b then D z else U)=D y):b=A/\z=y:=by cases b;cases h;exact⟨rfl,BL h⟩
def AEP{a:Array Value}{l:E Value}(b:a.size=Z l)(h:∀(j:Nat)(v c:Value),l[j]?=D v->a[j]?=D c->c=v):a=l.toArray:=by apply Array.ext;simpa using b;intro i d e;have:=h i l[i] a[i] k! k!;simpa using this
def my:(RI.c0 101 [.str,(.int .i64),(.int .i64)] [.str] PQ).Ok Tryz.prog:=by
 rintro⟨s,n,k⟩ y i H;obtain⟨h,rfl⟩:=yo i;simp only[BQ,K!]at h;refine rO (args:=[.str s,.int .i64 n,.int .i64 k]) (v:=.str (s++DB n k.toNat)) (λw a g hr=>?_) H;have e:a= #[.string ⟨s.toArray⟩,.int .i64 n,.int .i64 k.toNat]:=AEP (l:=[.string ⟨s.toArray⟩,.int .i64 n,.int .i64 k.toNat]) g λj v c d f=>by
  match j,d with
  |0,d=>obtain⟨x,q⟩:=hr 0 _ c rfl f;cases d;exact AAG q
  |1,d=>obtain⟨x,q⟩:=hr 1 _ c rfl f;cases d;exact lS q
  |2,d=>obtain⟨x,q⟩:=hr 2 _ c rfl f;cases d;rw[lS q,Iz o!]
 rw[e];apply (AIx s n k.toNat w h.1 o!).mono;rintro e m ⟨rfl,b⟩;exact⟨_,rfl,λx=>.str _ rfl,b⟩
def Tz:(RI.c0 103 [.str,(.int .i64)] [.str] Lc).Ok Tryz.prog:=by
 rintro⟨s,n⟩ y o H;obtain⟨h,rfl⟩:=yo o;simp only[BQ,K!,J!]at h;obtain⟨rfl,h⟩:=h;refine rO (args:=[.str [0],.int .i64 n]) (v:=.str (ς n.toNat 0)) (λw a m hr=>?_) H;have e:a= #[.string ⟨#[0]⟩,.int .i64 n.toNat]:=AEP (l:=[.string ⟨#[0]⟩,.int .i64 n.toNat]) m λj v c d g=>by
  match j,d with
  |0,d=>obtain⟨x,q⟩:=hr 0 _ c rfl g;cases d;exact AAG q
  |1,d=>obtain⟨x,q⟩:=hr 1 _ c rfl g;cases d;rw[lS q,Iz o!]
 rw[e];have key:∀k:Nat,k<=8000->Calls Tryz.prog 103 #[.string ⟨#[0]⟩,.int .i64 k] w λe i=>e=.returned (.string ⟨(ς k (0:UInt8)).toArray⟩)/\Below w.heap.size w i:=λk f=>by
  match k,f with
  |0,_=>exact AGj w
  |1,_=>exact AGk w
  |k+2,f=>exact AIy (k+2) w o! f
 apply (key n.toNat o!).mono;rintro e i ⟨rfl,b⟩;exact⟨_,rfl,λx=>.str _ rfl,b⟩
open Go.Shelf Go.RowKit Go.Lib Go.Sort Go.Ab Go.Pm
def ALB:Ren:=⟨λ|6=>114|14=>175|15=>121|20=>237|21=>238|22=>239|23=>240|24=>241|25=>242|26=>243|27=>244|28=>193|29=>194|46=>279|47=>253|48=>254|49=>280|50=>281|57=>305|n=>n,λ|22=>30|24=>68|25=>196|39=>205|45=>273|46=>274|50=>214|53=>183|55=>254|66=>332|70=>336|76=>365|77=>162|n=>n,λn=>n⟩
def AKH:SlLaysF0.n6 Tryz.prog ALB:=⟨h!,⟨Tryz.f114.name,g!,Tryz.func114.trans (E! D h!)⟩,⟨Tryz.f175.name,g!,Tryz.func175.trans (E! D h!)⟩,Tryz.func121.trans (E! D h!),⟨Tryz.f237.name,g!,Tryz.func237.trans (E! D h!)⟩,⟨Tryz.f238.name,g!,Tryz.func238.trans (E! D h!)⟩,⟨Tryz.f239.name,g!,Tryz.func239.trans (E! D h!)⟩,⟨Tryz.f240.name,g!,Tryz.func240.trans (E! D h!)⟩,⟨Tryz.f241.name,g!,Tryz.func241.trans (E! D h!)⟩,⟨Tryz.f242.name,g!,Tryz.func242.trans (E! D h!)⟩,⟨Tryz.f243.name,g!,Tryz.func243.trans (E! D h!)⟩,⟨Tryz.f244.name,g!,Tryz.func244.trans (E! D h!)⟩,Tryz.func193.trans (E! D h!),Tryz.func194.trans (E! D h!),⟨Tryz.f279.name,g!,Tryz.func279.trans (E! D h!)⟩,Tryz.func253.trans (E! D h!),Tryz.func254.trans (E! D h!),⟨Tryz.f280.name,g!,Tryz.func280.trans (E! D h!)⟩,⟨Tryz.f281.name,g!,Tryz.func281.trans (E! D h!)⟩,⟨Tryz.f305.name,g!,Tryz.func305.trans (E! D h!)⟩,Tryz.underlying0,Tryz.isAgg0,Tryz.sizeOf0,Tryz.zeroValue0,Tryz.underlying3,Tryz.isAgg3,Tryz.sizeOf3,Tryz.zeroValue3,Tryz.underlying4,Tryz.isAgg4,Tryz.sizeOf4,Tryz.zeroValue4,Tryz.underlying5,Tryz.isAgg5,Tryz.sizeOf5,Tryz.zeroValue5,Tryz.underlying9,Tryz.isAgg9,Tryz.sizeOf9,Tryz.zeroValue9,Tryz.underlying30,Tryz.isAgg30,Tryz.sizeOf30,Tryz.zeroValue30,Tryz.underlying196,Tryz.isAgg196,Tryz.sizeOf196,Tryz.zeroValue196,Tryz.underlying205,Tryz.isAgg205,Tryz.sizeOf205,Tryz.zeroValue205,Tryz.underlying273,Tryz.isAgg273,Tryz.sizeOf273,Tryz.zeroValue273,Tryz.underlying274,Tryz.isAgg274,Tryz.sizeOf274,Tryz.zeroValue274,Tryz.underlying214,Tryz.isAgg214,Tryz.sizeOf214,Tryz.zeroValue214,Tryz.underlying183,Tryz.isAgg183,Tryz.sizeOf183,Tryz.zeroValue183,Tryz.underlying254,Tryz.isAgg254,Tryz.sizeOf254,Tryz.zeroValue254,Tryz.underlying332,Tryz.isAgg332,Tryz.sizeOf332,Tryz.zeroValue332,Tryz.underlying336,Tryz.isAgg336,Tryz.sizeOf336,Tryz.zeroValue336,Tryz.underlying365,Tryz.isAgg365,Tryz.sizeOf365,Tryz.zeroValue365,Tryz.underlying162,Tryz.isAgg162,Tryz.sizeOf162,Tryz.zeroValue162⟩
def ALC:Ren:=⟨λ|5=>72|7=>127|n=>n,λ|22=>3|n=>n,λn=>n⟩
def AK4:SlLaysC2.n5 Tryz.prog ALC:=⟨h!,⟨Tryz.f72.name,g!,Tryz.func72.trans (E! D h!)⟩,⟨Tryz.f127.name,g!,Tryz.func127.trans (E! D h!)⟩,Tryz.underlying3,Tryz.isAgg3,Tryz.sizeOf3,Tryz.zeroValue3,Tryz.underlying4,Tryz.isAgg4,Tryz.sizeOf4,Tryz.zeroValue4,Tryz.underlying3,Tryz.isAgg3,Tryz.sizeOf3,Tryz.zeroValue3⟩
def ACe{r:E Value}(h:Z r+1=13):∃d e f g i j k l m a b c,r=[d,e,f,g,i,j,k,l,m,a,b,c]:=by
 match r,h with
 |[d,e,f,g,i,j,k,l,m,a,b,c],_=>exact⟨_,_,_,_,_,_,_,_,_,_,_,_,rfl⟩
def AKz(a b:X)(r s:Ψ Value)(W:World)(hr:Z r+1=13)(j:Z s+1=13):Calls Tryz.prog 115 #[.agg (Value.int .i64 a::r).toArray,.agg (Value.int .i64 b::s).toArray] W λe i=>e=.returned (.int .i64 (Lib.compareInt a b))/\∃q g,i=grow (W.drewN q) g:=by
 obtain⟨t,u,v,w,x,y,z,A,B,k,l,m,rfl⟩:=ACe hr;obtain⟨C,D,E,F,G,H,I,J,K,n,o,p,rfl⟩:=ACe j;have d:=λh=>AnyG.cmp_Compare_int AK4 a b h;change∀h,Calls Tryz.prog 72 _ _ _ at d;generalize Lib.compareInt a b=c at d⊢;go_enter Tryz.func115,Tryz.ntmps115;go_wp2_with (go_at_call 72;apply (d _).mono;rintro e i ⟨rfl,rfl⟩)
 go_ret
 exact⟨rfl,0,_,by rw[alloc_eq_grow,alloc_eq_grow,grow_grow];rfl⟩
def Q9:(RI.c2 114 Ai [] [] [.fn (.func 115) [] []] DT).Ok Tryz.prog:=AF0 (te:=Ai) (λe:AE=>e.1) (λe=>rfl) AKz (λc m i g k b cap d w a j l f=>AnyQ.slices_SortFunc AKH 13 Tryz.isAgg68 Tryz.sizeOf68 c m i g k 115 #[] b 0 cap d w (enters_of Tryz.func115 h! rfl) a j l f) λp cap h w=>AnyF.slices_SortFunc_none AKH p cap h w
end Go.Proofs.YtkgodfhnofpglaaGreat
