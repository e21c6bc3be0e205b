/- Texts of wip, joined and shortened by wip/tools/pack.py; nothing is assumed. -/
import Derived.Test.YtdjfjcnheopcdaaGreatDoorK13
import Derived.Test.YtdjfjcnheopcdaaGreatDoorProg
import Derived.KernelRfl
import Derived.Shelf.SlSortCmp.WholeK
import Derived.Shelf.SlSortCmp.NoneTotal
import Derived.Shelf.SlicesG.Cmp
import Derived.WalkKit
noncomputable section
set_option linter.all false
namespace Go.Proofs.YtdjfjcnheopcdaaGreatDoor
open Go Go.Ab Go.Pm
abbrev As(c:RW):Prop:=c.Ok Tryz.prog
abbrev a?(F d r g):=As (.c0 F d r g)
abbrev b?(F p b d r g):=As (.c1 F p b d r g)
instance{n:Nat}:OfNat WF n:=⟨.t n i64⟩
instance{n:Nat}:OfNat Exit n:=⟨.exit n⟩
def h?:List WF->List WF|[]=>[]|.p n _::r=>.x n::h? r|.u n _::r=>.x n::h? r|.m n _ _::r=>.x n::h? r|.x n::r=>.x n::h? r|_::r=>h? r
abbrev c?(i T):=hn 2 i (h? T) [(.normal,T)]
abbrev d?(i R T):=hn 2 i (h? T) [(.ret,R),(.normal,T)]
abbrev e?(i S a T):=hn 0 i S [(.exit a,T)]
abbrev f?(i S R a T):=hn 0 i S [(.ret,R),(.exit a,T)]
abbrev g?(n b):=WF.p n [.d b]
set_option maxRecDepth 100000
def mL:a? 323 [(.int .u64),(.int .u64)] [(.int .u64),(.int .u64)] VO:=k0 [] Bu
def oE:a? 265 [(.int .u64),(.int .u64)] [(.int .u64),(.int .u64)] XP:=k0 [] (Ay mL Bu)
open Go.RowKit Go.Ab Go.Pm
def ACA(n:Int){i:Nat}(h:i<8):IntKind.wrap .u64 n/2^(8*i)%256=((UInt8.ofNat (n/256^i%256).toNat).toNat:Int):=by
 have e:IntKind.wrap .u64 n/2^(8*i)%256=n/256^i%256:=by
  rw[AAm,XB];have:i=0\/i=1\/i=2\/i=3\/i=4\/i=5\/i=6\/i=7:=o!
  rcases this with h|h|h|h|h|h|h|h<;>rw[h];rw[show(256:Int)^0=1 by decide];omega;rw[show(256:Int)^1=256 by decide];omega;rw[show(256:Int)^2=65536 by decide];omega;rw[show(256:Int)^3=16777216 by decide];omega;rw[show(256:Int)^4=4294967296 by decide];omega;rw[show(256:Int)^5=1099511627776 by decide];omega;rw[show(256:Int)^6=281474976710656 by decide];omega;rw[show(256:Int)^7=72057594037927936 by decide];omega
 rw[e,UInt8.toNat_ofNat'];omega
def AHA(w:World):Lib.IsBuilderF 375 5 w.heap.size w.heap.size [] (w.alloc (.cells #[.pointer none,.slice none 0 0] 375)):=.inl ⟨Am _,_,heap_alloc_new w _,World.ownsRowF_nil _ _ _ _,by simp[Value.ownBlock]⟩
set_option maxHeartbeats 2000000 in
set_option maxRecDepth 100000 in
def AHB(l:List UInt8)(n:Int)(k:Nat)(w:World)(F:l.length≤1099511627776)(E:1≤k∧k≤8):
  Calls Tryz.prog 194 #[.string ⟨l.toArray⟩,.int .i64 n,.int .i64 k] w λe D=>e= .returned (.string ⟨(l++C5 n k).toArray⟩)/\Below w.heap.size w D:=by
 have p:Below w.heap.size w (w.alloc (.cells #[.pointer none,.slice none 0 0] 375)):=(Below.refl _ w).alloc (Am _) _;obtain⟨s,d⟩: ∃s:ByteArray,(⟨l.toArray⟩:ByteArray)=s:=⟨_,rfl⟩
 have b:s.size=l.length:=by rw[<-d];simp[ByteArray.size]
 have y:=Yf w.heap.size w.heap.size [] s _ (AHA w) (by rw[b,Ck];omega) p.size;rw[d];have f:Lib.strCells s=Lib.byteCells l:=by rw[<-d,Lib.strCells_eq]
 have A:Aside ((⟨l.toArray⟩:ByteArray)=s/\s.size=l.length/\Lib.strCells s=Lib.byteCells l):=⟨d,b,f⟩
 clear d b f;go_enter Tryz.func194,Tryz.ntmps194;go_wp2_with (go_at_call 262;go_fit y;rintro e W2 ⟨rfl,z,u⟩)
 go_loopg [19] k (λg o r=> ∃i:Nat,i+g=k/\o= .int .i64 i/\Lib.IsBuilderF 375 5 w.heap.size w.heap.size (Lib.byteCells (l++C5 n i)) r/\Below w.heap.size w r)
 case atStart=>refine⟨0,o!,rfl,.inr ?_,p.trans u⟩;have:=A.out.2.2;simpa[C5,this]using z
 case round=>
  obtain⟨i,B,rfl,q,a⟩:=hrel;cases gk with
  |zero=>
   obtain rfl:i=k:=o!
   have x:=vY w.heap.size w.heap.size (l++C5 n i) wr q (λh=>by have:=congrArg List.length h;rw[Aa,Aw,Ck]at this;omega);go_wp2_with (go_at_call 264;go_fit x;rintro e t ⟨rfl,m,j⟩)
   go_ret
   exact⟨rfl,a.trans j⟩
  |succ g=>
   have C:(i:Int)<k:=o!
   have v:=λc=>wm w.heap.size w.heap.size _ c wr q (by rw[Lib.byteCells_length,Aa,Aw];omega) a.size;go_wp2_with (go_at_call 263;apply (v _).mono;rintro e t ⟨rfl,m,j⟩)
   go_roundg g
   case measure=>omega
   case rel=>refine⟨i+1,o!,rfl,.inr ?_,a.trans j⟩;rw[ACA n o!]at m;rw[uI,<-A6,Lib.byteCells_append];exact m
def AFG(c:Nat)(h:c<=8000):XP (1,(c:Int))=some (0,(c:Int)):=by
 have e:Int.fdiv (c:Int) 4294967296=0:=by rw[lL _ o!];omega
 have b:BitVec.toNat (BitVec.ofInt 64 (c:Int)&&&BitVec.ofInt 64 4294967295)=c:=by rw[BitVec.toNat_and,show BitVec.toNat (BitVec.ofInt 64 (c:Int))=c by rw[BitVec.toNat_ofInt];omega,show BitVec.toNat (BitVec.ofInt 64 4294967295)=2^32-1 by decide,Nat.and_two_pow_sub_one_eq_mod];omega
 have a:IntKind.wrap .u64 (c:Int)=c:=by rw[XB];omega
 have d:(2:Int)^(min (Int.toNat 32) 64)=4294967296:=g!
 unfold XP VO;dsimp only;rw[d,e,b,a,show Int.fdiv 1 4294967296=0 by decide,show BitVec.toNat (BitVec.ofInt 64 1&&&BitVec.ofInt 64 4294967295)=1 by decide,show IntKind.wrap .u64 ((1:Nat):Int)=1 by decide];simp only[Int.zero_mul,Int.mul_zero,Int.one_mul,a,e,show IntKind.wrap .u64 0=0 by decide,Int.zero_add,Int.add_zero,show Int.fdiv 0 4294967296=0 by decide,AD];exact congrArg (λz=>some (z,(c:Int))) g!
def AG9(c:Nat)(h:c<=8000)(w:World):Calls Tryz.prog 265 #[.int .u64 1,.int .u64 c] w λe n=>e= .returned (.tuple #[.int .u64 0,.int .u64 c])/\Below w.heap.size w n:=by
 have q:EM Tryz.prog 265 [.int .u64 1,.int .u64 c] [] (C6 (.tup [.int .u64 0,.int .u64 c]) []):=oE (1,(c:Int)) (0,(c:Int)) (AFG c h) [];refine(VE q (w:=w) (cargs:= #[.int .u64 1,.int .u64 c]) rfl ?_).mono ?_;intro j v d a f;match j,a,f with
 |0,a,f=>simp at a f;subst a f;exact .int _ _
 |1,a,f=>simp at a f;subst a f;exact .int _ _
 |j+2,a,_=>simp at a
 rintro e n ⟨d,v,x,s,rfl,⟨rfl,_⟩,r,b⟩;cases r with
 |tup h m=>
  rename_i g;have k:g.size=2:=h;have k0:=m 0 (.int .u64 0) g[0] rfl (by simp[k]);have k1:=m 1 (.int .u64 c) g[1] rfl (by simp[k]);have o:=lK k0;have p:=lK k1;refine⟨?_,b⟩;have:g= #[g[0],g[1]]:=by
   apply Array.ext;simp[k];intro i l _;match i,l with
   |0,_=>rfl
   |1,_=>rfl
   |i+2,l=>omega
  rw[this,o,p]
set_option maxHeartbeats 2000000 in
set_option maxRecDepth 100000 in
def AFH(w:World):Calls Tryz.prog 196 #[.string ⟨#[0]⟩,.int .i64 0] w λe a=>e= .returned (.string ⟨#[]⟩)/\Below w.heap.size w a:=by
 go_enter Tryz.func196,Tryz.ntmps196
 go_wp2
 go_ret
 exact⟨rfl,Below.refl _ _⟩
set_option maxHeartbeats 2000000 in
set_option maxRecDepth 100000 in
def AFI(w:World):Calls Tryz.prog 196 #[.string ⟨#[0]⟩,.int .i64 1] w λe a=>e= .returned (.string ⟨#[0]⟩)/\Below w.heap.size w a:=by
 go_enter Tryz.func196,Tryz.ntmps196
 go_wp2
 go_ret
 exact⟨rfl,Below.refl _ _⟩
set_option maxHeartbeats 4000000 in
set_option maxRecDepth 1000000 in
def AHC(c:Nat)(w:World)(T:2≤c)(R:c≤8000):
  Calls Tryz.prog 196 #[.string ⟨#[0]⟩,.int .i64 c] w λe B=>e= .returned (.string ⟨(List.replicate c (0:UInt8)).toArray⟩)/\Below w.heap.size w B:=by
 have i:=AG9 c R w;go_enter Tryz.func196,Tryz.ntmps196;go_upto_block 1 with(go_at_call 265;go_fit i;rintro e f ⟨rfl,j⟩)
 clear i;have m:Below w.heap.size w (f.alloc (.cells #[.pointer none,.slice none 0 0] 375)):=j.alloc j.size _;have E:=AFE w.heap.size f.heap.size c (f.alloc (.cells #[.pointer none,.slice none 0 0] 375)) j.size (heap_alloc_new f _) m.size o!;go_wp2_with (go_at_call 266;go_fit E;rintro e O ⟨rfl,G,p⟩)
 clear E;have F:=Yf w.heap.size f.heap.size [] ⟨#[0]⟩ O (Lib.IsBuilderF.of (Or.inr G)) g! (Cz m.size p.size);go_wp2_with (go_at_call 262;go_fit F;rintro e W2 ⟨rfl,s,D⟩)
 clear F G;have u:Lib.IsBuilderF 375 5 w.heap.size f.heap.size (Lib.byteCells (List.replicate 1 (0:UInt8))) W2:=by rw[Cp,Lib.strCells_eq]at s;exact Or.inr s
 have o:Below w.heap.size w W2:=m.trans (p.trans D);clear s m p D;go_loopg [] (c-1) (λg N=> ∃q:Nat,1<=q/\q+g=c/\Lib.IsBuilderF 375 5 w.heap.size f.heap.size (Lib.byteCells (List.replicate q (0:UInt8))) N/\Below w.heap.size w N)
 case atStart=>exact⟨1,Am _,o!,u,o⟩
 case round=>
  obtain⟨q,U,X,J,k⟩:=hrel;have b:=AG8 w.heap.size f.heap.size _ wr J;rw[Lib.byteCells_length,Fz]at b;have d:=vY w.heap.size f.heap.size (List.replicate q (0:UInt8)) wr J (λh=>by have:=congrArg List.length h;rw[Fz,Ck]at this;omega);cases gk with
  |zero=>
   obtain rfl:q=c:=o!
   go_wp2_with (first
    |(go_at_call 267;go_fit b;rintro e B ⟨rfl,y⟩;rw[y])
    |(go_at_call 264;go_fit d;rintro e C ⟨rfl,H,n⟩))
   go_ret
   exact⟨rfl,k.trans n⟩
  |succ g=>
   obtain⟨a,l⟩: ∃a,min (c-q) q=a:=⟨_,rfl⟩
   have V:(q:Int)<c:=o!
   have x: ∀(M:Array TypeId) (t:TypeId) (W:World),(Builtin.min_ M t #[.int .i64 ((c:Int)-(q:Int)),.int .i64 (q:Int),.int .i64 (c:Int)]).run Tryz.prog W= .ok (.int .i64 (a:Int)) W:=λM t W=>by simp[Builtin.min_,Builtin.min2];omega
   have A:Aside (min (c-q) q=a/\a<=q):=⟨l,o!⟩
   have K:(a:Int)<=q:=o!
   clear l;obtain⟨S,v⟩: ∃S:ByteArray,(⟨(List.replicate q (0:UInt8)).toArray⟩:ByteArray)=S:=⟨_,rfl⟩
   rw[v]at d;have Q:S.size=q:=by rw[<-v];simp[ByteArray.size]
   go_wp2_with (first
    |(go_at_call 267;go_fit b;rintro e B ⟨rfl,y⟩;rw[y])
    |(go_at_call 264;go_fit d;rintro e C ⟨rfl,H,n⟩))
   have L:(S.extract 0 a).data.toList=List.replicate a (0:UInt8):=by rw[Lib.extract_data,<-v];simp only[YL,fJ,List.take_replicate];rw[Q1 A.out.2]
   have z:(S.extract 0 a).size=a:=by rw[Lib.size_eq,L,Fz]
   have r:=Yf w.heap.size f.heap.size _ (S.extract 0 a) C H (by rw[Lib.byteCells_length,Fz,z];have:=A.out.2;omega) (Cz k.size n.size);go_wp2_with (go_at_call 262;go_fit r;rintro e Y ⟨rfl,I,P⟩)
   go_roundg (c-(q+a))
   case measure=>have:=A.out.1;omega
   case rel=>refine⟨q+a,o!,by have:=A.out.1;omega,Or.inr ?_,k.trans (n.trans P)⟩;rw[Lib.strCells_eq,<-Lib.byteCells_append,L,List.replicate_append_replicate]at I;exact I
def tA{a:Type}{b:Bool}{z y:a}(h:(bif b then some z else none)=some y):b=true/\z=y:=by cases b;cases h;exact⟨rfl,Ba h⟩
def ADO{a:Array Value}{l:List Value}(b:a.size=l.length)(h: ∀(j:Nat) (v c:Value),l[j]? =some v->a[j]? =some c->c=v):a=l.toArray:=by apply Array.ext;simpa using b;intro i d e;have:=h i l[i] a[i] k! k!;simpa using this
def ma:(RW.c0 194 [.str,(.int .i64),(.int .i64)] [.str] Om).Ok Tryz.prog:=by
 rintro⟨s,n,k⟩ y i H;obtain⟨h,rfl⟩:=tA i;simp only[BO,decide_eq_true_eq]at h;refine jz (args:=[.str s,.int .i64 n,.int .i64 k]) (v:=.str (s++C5 n k.toNat)) (λw a g hr=>?_) H;have e:a= #[.string ⟨s.toArray⟩,.int .i64 n,.int .i64 k.toNat]:=ADO (l:=[.string ⟨s.toArray⟩,.int .i64 n,.int .i64 k.toNat]) g λj v c d f=>by
  match j,d with
  |0,d=>obtain⟨x,q⟩:=hr 0 _ c rfl f;cases d;exact zi q
  |1,d=>obtain⟨x,q⟩:=hr 1 _ c rfl f;cases d;exact lK q
  |2,d=>obtain⟨x,q⟩:=hr 2 _ c rfl f;cases d;rw[lK q,I1 o!]
 rw[e];apply (AHB s n k.toNat w h.1 o!).mono;rintro e m ⟨rfl,b⟩;exact⟨_,rfl,λx=>.str _ rfl,b⟩
def Te:(RW.c0 196 [.str,(.int .i64)] [.str] Kj).Ok Tryz.prog:=by
 rintro⟨s,n⟩ y o H;obtain⟨h,rfl⟩:=tA o;simp only[BO,decide_eq_true_eq,beq_iff_eq]at h;obtain⟨rfl,h⟩:=h;refine jz (args:=[.str [0],.int .i64 n]) (v:=.str (List.replicate n.toNat 0)) (λw a m hr=>?_) H;have e:a= #[.string ⟨#[0]⟩,.int .i64 n.toNat]:=ADO (l:=[.string ⟨#[0]⟩,.int .i64 n.toNat]) m λj v c d g=>by
  match j,d with
  |0,d=>obtain⟨x,q⟩:=hr 0 _ c rfl g;cases d;exact zi q
  |1,d=>obtain⟨x,q⟩:=hr 1 _ c rfl g;cases d;rw[lK q,I1 o!]
 rw[e];have key: ∀k:Nat,k<=8000->Calls Tryz.prog 196 #[.string ⟨#[0]⟩,.int .i64 k] w λe i=>e= .returned (.string ⟨(List.replicate k (0:UInt8)).toArray⟩)/\Below w.heap.size w i:=λk f=>by
  match k,f with
  |0,_=>exact AFH w
  |1,_=>exact AFI w
  |k+2,f=>exact AHC (k+2) w o! f
 apply (key n.toNat o!).mono;rintro e i ⟨rfl,b⟩;exact⟨_,rfl,λx=>.str _ rfl,b⟩
open Go.Shelf Go.RowKit Go.Lib Go.Sort Go.Ab Go.Pm
def AJq:Ren:=⟨λ|6=>207|14=>271|15=>85|20=>325|21=>326|22=>327|23=>328|24=>329|25=>330|26=>331|27=>332|28=>151|29=>152|46=>359|47=>225|48=>226|49=>360|50=>361|57=>393|n=>n,λ|22=>26|24=>149|25=>298|39=>188|45=>259|46=>260|50=>265|53=>268|55=>270|66=>337|70=>341|76=>402|77=>150|n=>n,λn=>n⟩
def AIS:SlLaysF0.n6 Tryz.prog AJq:=⟨by kernel_rfl,⟨Tryz.f207.name,g!,Tryz.func207.trans (congrArg some (by kernel_rfl))⟩,⟨Tryz.f271.name,g!,Tryz.func271.trans (congrArg some (by kernel_rfl))⟩,Tryz.func85.trans (congrArg some (by kernel_rfl)),⟨Tryz.f325.name,g!,Tryz.func325.trans (congrArg some (by kernel_rfl))⟩,⟨Tryz.f326.name,g!,Tryz.func326.trans (congrArg some (by kernel_rfl))⟩,⟨Tryz.f327.name,g!,Tryz.func327.trans (congrArg some (by kernel_rfl))⟩,⟨Tryz.f328.name,g!,Tryz.func328.trans (congrArg some (by kernel_rfl))⟩,⟨Tryz.f329.name,g!,Tryz.func329.trans (congrArg some (by kernel_rfl))⟩,⟨Tryz.f330.name,g!,Tryz.func330.trans (congrArg some (by kernel_rfl))⟩,⟨Tryz.f331.name,g!,Tryz.func331.trans (congrArg some (by kernel_rfl))⟩,⟨Tryz.f332.name,g!,Tryz.func332.trans (congrArg some (by kernel_rfl))⟩,Tryz.func151.trans (congrArg some (by kernel_rfl)),Tryz.func152.trans (congrArg some (by kernel_rfl)),⟨Tryz.f359.name,g!,Tryz.func359.trans (congrArg some (by kernel_rfl))⟩,Tryz.func225.trans (congrArg some (by kernel_rfl)),Tryz.func226.trans (congrArg some (by kernel_rfl)),⟨Tryz.f360.name,g!,Tryz.func360.trans (congrArg some (by kernel_rfl))⟩,⟨Tryz.f361.name,g!,Tryz.func361.trans (congrArg some (by kernel_rfl))⟩,⟨Tryz.f393.name,g!,Tryz.func393.trans (congrArg some (by kernel_rfl))⟩,Tryz.underlying0,Tryz.isAgg0,Tryz.sizeOf0,Tryz.zeroValue0,Tryz.underlying3,Tryz.isAgg3,Tryz.sizeOf3,Tryz.zeroValue3,Tryz.underlying4,Tryz.isAgg4,Tryz.sizeOf4,Tryz.zeroValue4,Tryz.underlying5,Tryz.isAgg5,Tryz.sizeOf5,Tryz.zeroValue5,Tryz.underlying9,Tryz.isAgg9,Tryz.sizeOf9,Tryz.zeroValue9,Tryz.underlying26,Tryz.isAgg26,Tryz.sizeOf26,Tryz.zeroValue26,Tryz.underlying298,Tryz.isAgg298,Tryz.sizeOf298,Tryz.zeroValue298,Tryz.underlying188,Tryz.isAgg188,Tryz.sizeOf188,Tryz.zeroValue188,Tryz.underlying259,Tryz.isAgg259,Tryz.sizeOf259,Tryz.zeroValue259,Tryz.underlying260,Tryz.isAgg260,Tryz.sizeOf260,Tryz.zeroValue260,Tryz.underlying265,Tryz.isAgg265,Tryz.sizeOf265,Tryz.zeroValue265,Tryz.underlying268,Tryz.isAgg268,Tryz.sizeOf268,Tryz.zeroValue268,Tryz.underlying270,Tryz.isAgg270,Tryz.sizeOf270,Tryz.zeroValue270,Tryz.underlying337,Tryz.isAgg337,Tryz.sizeOf337,Tryz.zeroValue337,Tryz.underlying341,Tryz.isAgg341,Tryz.sizeOf341,Tryz.zeroValue341,Tryz.underlying402,Tryz.isAgg402,Tryz.sizeOf402,Tryz.zeroValue402,Tryz.underlying150,Tryz.isAgg150,Tryz.sizeOf150,Tryz.zeroValue150⟩
def AJr:Ren:=⟨λ|5=>82|7=>138|n=>n,λ|22=>3|n=>n,λn=>n⟩
def AJO:SlLaysC2.n5 Tryz.prog AJr:=⟨by kernel_rfl,⟨Tryz.f82.name,g!,Tryz.func82.trans (congrArg some (by kernel_rfl))⟩,⟨Tryz.f138.name,g!,Tryz.func138.trans (congrArg some (by kernel_rfl))⟩,Tryz.underlying3,Tryz.isAgg3,Tryz.sizeOf3,Tryz.zeroValue3,Tryz.underlying4,Tryz.isAgg4,Tryz.sizeOf4,Tryz.zeroValue4,Tryz.underlying3,Tryz.isAgg3,Tryz.sizeOf3,Tryz.zeroValue3⟩
def ABx{r:List Value}(h:r.length+1=13): ∃d e f g i j k l m a b c,r=[d,e,f,g,i,j,k,l,m,a,b,c]:=by
 match r,h with
 |[d,e,f,g,i,j,k,l,m,a,b,c],_=>exact⟨_,_,_,_,_,_,_,_,_,_,_,_,rfl⟩
set_option maxHeartbeats 2000000 in
def AJH(a b:Int)(r s:List Value)(W:World)(hr:r.length+1=13)(j:s.length+1=13):Calls Tryz.prog 208 #[.agg (Value.int .i64 a::r).toArray,.agg (Value.int .i64 b::s).toArray] W λe i=>e= .returned (.int .i64 (Lib.compareInt a b))/\ ∃q g,i=grow (W.drewN q) g:=by
 obtain⟨t,u,v,w,x,y,z,A,B,k,l,m,rfl⟩:=ABx hr;obtain⟨C,D,E,F,G,H,I,J,K,n,o,p,rfl⟩:=ABx j;have d:=λh=>AnyG.cmp_Compare_int AJO a b h;change∀h,Calls Tryz.prog 82 _ _ _ at d;generalize Lib.compareInt a b=c at d⊢;go_enter Tryz.func208,Tryz.ntmps208;go_wp2_with (go_at_call 82;apply (d _).mono;rintro e i ⟨rfl,rfl⟩)
 go_ret
 exact⟨rfl,0,_,by rw[alloc_eq_grow,alloc_eq_grow,grow_grow];rfl⟩
def Qj:(RW.c2 207 Ah [] [] [.fn (.func 208) [] []] C0).Ok Tryz.prog:=AEi (te:=Ah) (λe:AE=>e.1) (λe=>rfl) AJH (λc m i g k b cap d w a j l f=>AnyQ.slices_SortFunc AIS 13 Tryz.isAgg149 Tryz.sizeOf149 c m i g k 208 #[] b 0 cap d w (enters_of Tryz.func208 (by kernel_rfl) rfl) a j l f) λp cap h w=>AnyF.slices_SortFunc_none AIS p cap h w
end Go.Proofs.YtdjfjcnheopcdaaGreatDoor
