/- Texts of wip, joined and shortened by wip/tools/pack.py; nothing is assumed. -/
import Derived.Test.YtdjfjcnheopcdaaGreatK13
import Derived.Test.YtdjfjcnheopcdaaGreatProg
import Derived.KernelRfl
import Derived.Shelf.SlSortCmp.WholeK
import Derived.Shelf.SlSortCmp.NoneTotal
import Derived.Shelf.SlicesG.Cmp
import Derived.WalkKit
noncomputable section
set_option linter.all false
namespace Go.Proofs.YtdjfjcnheopcdaaGreat
open Go Go.Ab Go.Pm
abbrev A8(c:Pt):Prop:=c.Ok Tryz.prog
abbrev a?(F d r g):=A8 (.c0 F d r g)
abbrev b?(F p b d r g):=A8 (.c1 F p b d r g)
instance{n:Nat}:OfNat Ua n:=⟨.t n i64⟩
instance{n:Nat}:OfNat Exit n:=⟨.exit n⟩
def h?:List Ua->List Ua|[]=>[]|.p n _::r=>.x n::h? r|.u n _::r=>.x n::h? r|.m n _ _::r=>.x n::h? r|.x n::r=>.x n::h? r|_::r=>h? r
abbrev c?(i T):=hn 2 i (h? T) [(.normal,T)]
abbrev d?(i R T):=hn 2 i (h? T) [(.ret,R),(.normal,T)]
abbrev e?(i S a T):=hn 0 i S [(.exit a,T)]
abbrev f?(i S R a T):=hn 0 i S [(.ret,R),(.exit a,T)]
abbrev g?(n b):=Ua.p n [.d b]
set_option maxRecDepth 100000
def iW:a? 160 [(.int .u64),(.int .u64)] [(.int .u64),(.int .u64)] Tk:=k0 [] CN
def kS:a? 118 [(.int .u64),(.int .u64)] [(.int .u64),(.int .u64)] Ve:=k0 [] (A7 iW CN)
open Go.RowKit Go.Ab Go.Pm
def yy(n:Int){i:Nat}(h:i<8):IntKind.wrap .u64 n/2^(8*i)%256=((UInt8.ofNat (n/256^i%256).toNat).toNat:Int):=by
 have e:IntKind.wrap .u64 n/2^(8*i)%256=n/256^i%256:=by
  rw[xH,XY];have:i=0\/i=1\/i=2\/i=3\/i=4\/i=5\/i=6\/i=7:=o!
  rcases this with h|h|h|h|h|h|h|h<;>rw[h];rw[show(256:Int)^0=1 by decide];omega;rw[show(256:Int)^1=256 by decide];omega;rw[show(256:Int)^2=65536 by decide];omega;rw[show(256:Int)^3=16777216 by decide];omega;rw[show(256:Int)^4=4294967296 by decide];omega;rw[show(256:Int)^5=1099511627776 by decide];omega;rw[show(256:Int)^6=281474976710656 by decide];omega;rw[show(256:Int)^7=72057594037927936 by decide];omega
 rw[e,bp];omega
def AEh(w:World):Lib.IsBuilderF 187 5 w.heap.size w.heap.size [] (w.alloc (.cells #[.pointer none,.slice none 0 0] 187)):=.inl ⟨Aq _,_,heap_alloc_new w _,World.ownsRowF_nil _ _ _ _,by simp[Value.ownBlock]⟩
set_option maxHeartbeats 2000000 in
set_option maxRecDepth 100000 in
def AEi(l:List UInt8)(n:Int)(k:Nat)(w:World)(F:l.length≤1099511627776)(E:1≤k∧k≤8):
  Calls Tryz.prog 71 #[.string ⟨l.toArray⟩,.int .i64 n,.int .i64 k] w λe D=>e= .returned (.string ⟨(l++C8 n k).toArray⟩)/\Below w.heap.size w D:=by
 have p:Below w.heap.size w (w.alloc (.cells #[.pointer none,.slice none 0 0] 187)):=(Below.refl _ w).alloc (Aq _) _;obtain⟨s,d⟩: ∃s:ByteArray,(⟨l.toArray⟩:ByteArray)=s:=⟨_,rfl⟩
 have b:s.size=l.length:=by rw[<-d];simp[ByteArray.size]
 have y:=Wm w.heap.size w.heap.size [] s _ (AEh w) (by rw[b,Ba];omega) p.size;rw[d];have f:Lib.strCells s=Lib.byteCells l:=by rw[<-d,Lib.strCells_eq]
 have A:Aside ((⟨l.toArray⟩:ByteArray)=s/\s.size=l.length/\Lib.strCells s=Lib.byteCells l):=⟨d,b,f⟩
 clear d b f;go_enter Tryz.func71,Tryz.ntmps71;go_wp2_with (go_at_call 115;go_fit y;rintro e W2 ⟨rfl,z,u⟩)
 go_loopg [19] k (λg o r=> ∃i:Nat,i+g=k/\o= .int .i64 i/\Lib.IsBuilderF 187 5 w.heap.size w.heap.size (Lib.byteCells (l++C8 n i)) r/\Below w.heap.size w r)
 case atStart=>refine⟨0,o!,rfl,.inr ?_,p.trans u⟩;have:=A.out.2.2;simpa[C8,this]using z
 case round=>
  obtain⟨i,B,rfl,q,a⟩:=hrel;cases gk with
  |zero=>
   obtain rfl:i=k:=o!
   have x:=rL w.heap.size w.heap.size (l++C8 n i) wr q (λh=>by have:=congrArg List.length h;rw[Ag,A0,Ba]at this;omega);go_wp2_with (go_at_call 117;go_fit x;rintro e t ⟨rfl,m,j⟩)
   go_ret
   exact⟨rfl,a.trans j⟩
  |succ g=>
   have C:(i:Int)<k:=o!
   have v:=λc=>sn w.heap.size w.heap.size _ c wr q (by rw[Lib.byteCells_length,Ag,A0];omega) a.size;go_wp2_with (go_at_call 116;apply (v _).mono;rintro e t ⟨rfl,m,j⟩)
   go_roundg g
   case measure=>omega
   case rel=>refine⟨i+1,o!,rfl,.inr ?_,a.trans j⟩;rw[yy n o!]at m;rw[pj,<-A2,Lib.byteCells_append];exact m
def ACa(c:Nat)(h:c<=8000):Ve (1,(c:Int))=some (0,(c:Int)):=by
 have e:Int.fdiv (c:Int) 4294967296=0:=by rw[gl _ o!];omega
 have b:BitVec.toNat (BitVec.ofInt 64 (c:Int)&&&BitVec.ofInt 64 4294967295)=c:=by rw[BitVec.toNat_and,show BitVec.toNat (BitVec.ofInt 64 (c:Int))=c by rw[BitVec.toNat_ofInt];omega,show BitVec.toNat (BitVec.ofInt 64 4294967295)=2^32-1 by decide,Nat.and_two_pow_sub_one_eq_mod];omega
 have a:IntKind.wrap .u64 (c:Int)=c:=by rw[XY];omega
 have d:(2:Int)^(min (Int.toNat 32) 64)=4294967296:=g!
 unfold Ve Tk;dsimp only;rw[d,e,b,a,show Int.fdiv 1 4294967296=0 by decide,show BitVec.toNat (BitVec.ofInt 64 1&&&BitVec.ofInt 64 4294967295)=1 by decide,show IntKind.wrap .u64 ((1:Nat):Int)=1 by decide];simp only[Int.zero_mul,Int.mul_zero,Int.one_mul,a,e,show IntKind.wrap .u64 0=0 by decide,Int.zero_add,Int.add_zero,show Int.fdiv 0 4294967296=0 by decide,AD];exact congrArg (λz=>some (z,(c:Int))) g!
def AEg(c:Nat)(h:c<=8000)(w:World):Calls Tryz.prog 118 #[.int .u64 1,.int .u64 c] w λe n=>e= .returned (.tuple #[.int .u64 0,.int .u64 c])/\Below w.heap.size w n:=by
 have q:EJ Tryz.prog 118 [.int .u64 1,.int .u64 c] [] (C6 (.tup [.int .u64 0,.int .u64 c]) []):=kS (1,(c:Int)) (0,(c:Int)) (ACa c h) [];refine(YI q (w:=w) (cargs:= #[.int .u64 1,.int .u64 c]) rfl ?_).mono ?_;intro j v d a f;match j,a,f with
 |0,a,f=>simp at a f;subst a f;exact .int _ _
 |1,a,f=>simp at a f;subst a f;exact .int _ _
 |j+2,a,_=>simp at a
 rintro e n ⟨d,v,x,s,rfl,⟨rfl,_⟩,r,b⟩;cases r with
 |tup h m=>
  rename_i g;have k:g.size=2:=h;have k0:=m 0 (.int .u64 0) g[0] rfl (by simp[k]);have k1:=m 1 (.int .u64 c) g[1] rfl (by simp[k]);have o:=gg k0;have p:=gg k1;refine⟨?_,b⟩;have:g= #[g[0],g[1]]:=by
   apply Array.ext;simp[k];intro i l _;match i,l with
   |0,_=>rfl
   |1,_=>rfl
   |i+2,l=>omega
  rw[this,o,p]
set_option maxHeartbeats 2000000 in
set_option maxRecDepth 100000 in
def ACb(w:World):Calls Tryz.prog 73 #[.string ⟨#[0]⟩,.int .i64 0] w λe a=>e= .returned (.string ⟨#[]⟩)/\Below w.heap.size w a:=by
 go_enter Tryz.func73,Tryz.ntmps73
 go_wp2
 go_ret
 exact⟨rfl,Below.refl _ _⟩
set_option maxHeartbeats 2000000 in
set_option maxRecDepth 100000 in
def ACc(w:World):Calls Tryz.prog 73 #[.string ⟨#[0]⟩,.int .i64 1] w λe a=>e= .returned (.string ⟨#[0]⟩)/\Below w.heap.size w a:=by
 go_enter Tryz.func73,Tryz.ntmps73
 go_wp2
 go_ret
 exact⟨rfl,Below.refl _ _⟩
set_option maxHeartbeats 4000000 in
set_option maxRecDepth 1000000 in
def AEj(c:Nat)(w:World)(T:2≤c)(R:c≤8000):
  Calls Tryz.prog 73 #[.string ⟨#[0]⟩,.int .i64 c] w λe B=>e= .returned (.string ⟨(List.replicate c (0:UInt8)).toArray⟩)/\Below w.heap.size w B:=by
 have i:=AEg c R w;go_enter Tryz.func73,Tryz.ntmps73;go_upto_block 1 with(go_at_call 118;go_fit i;rintro e f ⟨rfl,j⟩)
 clear i;have m:Below w.heap.size w (f.alloc (.cells #[.pointer none,.slice none 0 0] 187)):=j.alloc j.size _;have E:=ACY w.heap.size f.heap.size c (f.alloc (.cells #[.pointer none,.slice none 0 0] 187)) j.size (heap_alloc_new f _) m.size o!;go_wp2_with (go_at_call 120;go_fit E;rintro e O ⟨rfl,G,p⟩)
 clear E;have F:=Wm w.heap.size f.heap.size [] ⟨#[0]⟩ O (Lib.IsBuilderF.of (Or.inr G)) g! (DH m.size p.size);go_wp2_with (go_at_call 115;go_fit F;rintro e W2 ⟨rfl,s,D⟩)
 clear F G;have u:Lib.IsBuilderF 187 5 w.heap.size f.heap.size (Lib.byteCells (List.replicate 1 (0:UInt8))) W2:=by rw[By,Lib.strCells_eq]at s;exact Or.inr s
 have o:Below w.heap.size w W2:=m.trans (p.trans D);clear s m p D;go_loopg [] (c-1) (λg N=> ∃q:Nat,1<=q/\q+g=c/\Lib.IsBuilderF 187 5 w.heap.size f.heap.size (Lib.byteCells (List.replicate q (0:UInt8))) N/\Below w.heap.size w N)
 case atStart=>exact⟨1,Aq _,o!,u,o⟩
 case round=>
  obtain⟨q,U,X,J,k⟩:=hrel;have b:=AEf w.heap.size f.heap.size _ wr J;rw[Lib.byteCells_length,HD]at b;have d:=rL w.heap.size f.heap.size (List.replicate q (0:UInt8)) wr J (λh=>by have:=congrArg List.length h;rw[HD,Ba]at this;omega);cases gk with
  |zero=>
   obtain rfl:q=c:=o!
   go_wp2_with (first
    |(go_at_call 121;go_fit b;rintro e B ⟨rfl,y⟩;rw[y])
    |(go_at_call 117;go_fit d;rintro e C ⟨rfl,H,n⟩))
   go_ret
   exact⟨rfl,k.trans n⟩
  |succ g=>
   obtain⟨a,l⟩: ∃a,min (c-q) q=a:=⟨_,rfl⟩
   have V:(q:Int)<c:=o!
   have x: ∀(M:Array TypeId) (t:TypeId) (W:World),(Builtin.min_ M t #[.int .i64 ((c:Int)-(q:Int)),.int .i64 (q:Int),.int .i64 (c:Int)]).run Tryz.prog W= .ok (.int .i64 (a:Int)) W:=λM t W=>by simp[Builtin.min_,Builtin.min2];omega
   have A:Aside (min (c-q) q=a/\a<=q):=⟨l,o!⟩
   have K:(a:Int)<=q:=o!
   clear l;obtain⟨S,v⟩: ∃S:ByteArray,(⟨(List.replicate q (0:UInt8)).toArray⟩:ByteArray)=S:=⟨_,rfl⟩
   rw[v]at d;have Q:S.size=q:=by rw[<-v];simp[ByteArray.size]
   go_wp2_with (first
    |(go_at_call 121;go_fit b;rintro e B ⟨rfl,y⟩;rw[y])
    |(go_at_call 117;go_fit d;rintro e C ⟨rfl,H,n⟩))
   have L:(S.extract 0 a).data.toList=List.replicate a (0:UInt8):=by rw[Lib.extract_data,<-v];simp only[gr,Nat.sub_zero,List.take_replicate];rw[P2 A.out.2]
   have z:(S.extract 0 a).size=a:=by rw[Lib.size_eq,L,HD]
   have r:=Wm w.heap.size f.heap.size _ (S.extract 0 a) C H (by rw[Lib.byteCells_length,HD,z];have:=A.out.2;omega) (DH k.size n.size);go_wp2_with (go_at_call 115;go_fit r;rintro e Y ⟨rfl,I,P⟩)
   go_roundg (c-(q+a))
   case measure=>have:=A.out.1;omega
   case rel=>refine⟨q+a,o!,by have:=A.out.1;omega,Or.inr ?_,k.trans (n.trans P)⟩;rw[Lib.strCells_eq,<-Lib.byteCells_append,L,List.replicate_append_replicate]at I;exact I
def ud{a:Type}{b:Bool}{z y:a}(h:(bif b then some z else none)=some y):b=true/\z=y:=by cases b;cases h;exact⟨rfl,BV h⟩
def AAZ{a:Array Value}{l:List Value}(b:a.size=l.length)(h: ∀(j:Nat) (v c:Value),l[j]? =some v->a[j]? =some c->c=v):a=l.toArray:=by apply Array.ext;simpa using b;intro i d e;have:=h i l[i] a[i] k! k!;simpa using this
def jD:(Pt.c0 71 [.str,(.int .i64),(.int .i64)] [.str] OI).Ok Tryz.prog:=by
 rintro⟨s,n,k⟩ y i H;obtain⟨h,rfl⟩:=ud i;simp only[BU,decide_eq_true_eq]at h;refine nE (args:=[.str s,.int .i64 n,.int .i64 k]) (v:=.str (s++C8 n k.toNat)) (λw a g hr=>?_) H;have e:a= #[.string ⟨s.toArray⟩,.int .i64 n,.int .i64 k.toNat]:=AAZ (l:=[.string ⟨s.toArray⟩,.int .i64 n,.int .i64 k.toNat]) g λj v c d f=>by
  match j,d with
  |0,d=>obtain⟨x,q⟩:=hr 0 _ c rfl f;cases d;exact vw q
  |1,d=>obtain⟨x,q⟩:=hr 1 _ c rfl f;cases d;exact gg q
  |2,d=>obtain⟨x,q⟩:=hr 2 _ c rfl f;cases d;rw[gg q,JO o!]
 rw[e];apply (AEi s n k.toNat w h.1 o!).mono;rintro e m ⟨rfl,b⟩;exact⟨_,rfl,λx=>.str _ rfl,b⟩
def SH:(Pt.c0 73 [.str,(.int .i64)] [.str] Kf).Ok Tryz.prog:=by
 rintro⟨s,n⟩ y o H;obtain⟨h,rfl⟩:=ud o;simp only[BU,decide_eq_true_eq,beq_iff_eq]at h;obtain⟨rfl,h⟩:=h;refine nE (args:=[.str [0],.int .i64 n]) (v:=.str (List.replicate n.toNat 0)) (λw a m hr=>?_) H;have e:a= #[.string ⟨#[0]⟩,.int .i64 n.toNat]:=AAZ (l:=[.string ⟨#[0]⟩,.int .i64 n.toNat]) m λj v c d g=>by
  match j,d with
  |0,d=>obtain⟨x,q⟩:=hr 0 _ c rfl g;cases d;exact vw q
  |1,d=>obtain⟨x,q⟩:=hr 1 _ c rfl g;cases d;rw[gg q,JO o!]
 rw[e];have key: ∀k:Nat,k<=8000->Calls Tryz.prog 73 #[.string ⟨#[0]⟩,.int .i64 k] w λe i=>e= .returned (.string ⟨(List.replicate k (0:UInt8)).toArray⟩)/\Below w.heap.size w i:=λk f=>by
  match k,f with
  |0,_=>exact ACb w
  |1,_=>exact ACc w
  |k+2,f=>exact AEj (k+2) w o! f
 apply (key n.toNat o!).mono;rintro e i ⟨rfl,b⟩;exact⟨_,rfl,λx=>.str _ rfl,b⟩
open Go.Shelf Go.RowKit Go.Lib Go.Sort Go.Ab Go.Pm
def AGn:Ren:=⟨λ|6=>85|14=>129|15=>130|20=>170|21=>171|22=>172|23=>173|24=>174|25=>175|26=>176|27=>177|28=>178|29=>179|46=>205|47=>206|48=>207|49=>208|50=>209|57=>232|n=>n,λ|22=>30|24=>61|25=>149|39=>182|45=>255|46=>256|50=>244|53=>121|55=>181|66=>289|70=>293|76=>315|77=>161|n=>n,λn=>n⟩
def AFy:SlLaysF0.n6 Tryz.prog AGn:=⟨by kernel_rfl,⟨Tryz.f85.name,g!,Tryz.func85.trans (congrArg some (by kernel_rfl))⟩,⟨Tryz.f129.name,g!,Tryz.func129.trans (congrArg some (by kernel_rfl))⟩,Tryz.func130.trans (congrArg some (by kernel_rfl)),⟨Tryz.f170.name,g!,Tryz.func170.trans (congrArg some (by kernel_rfl))⟩,⟨Tryz.f171.name,g!,Tryz.func171.trans (congrArg some (by kernel_rfl))⟩,⟨Tryz.f172.name,g!,Tryz.func172.trans (congrArg some (by kernel_rfl))⟩,⟨Tryz.f173.name,g!,Tryz.func173.trans (congrArg some (by kernel_rfl))⟩,⟨Tryz.f174.name,g!,Tryz.func174.trans (congrArg some (by kernel_rfl))⟩,⟨Tryz.f175.name,g!,Tryz.func175.trans (congrArg some (by kernel_rfl))⟩,⟨Tryz.f176.name,g!,Tryz.func176.trans (congrArg some (by kernel_rfl))⟩,⟨Tryz.f177.name,g!,Tryz.func177.trans (congrArg some (by kernel_rfl))⟩,Tryz.func178.trans (congrArg some (by kernel_rfl)),Tryz.func179.trans (congrArg some (by kernel_rfl)),⟨Tryz.f205.name,g!,Tryz.func205.trans (congrArg some (by kernel_rfl))⟩,Tryz.func206.trans (congrArg some (by kernel_rfl)),Tryz.func207.trans (congrArg some (by kernel_rfl)),⟨Tryz.f208.name,g!,Tryz.func208.trans (congrArg some (by kernel_rfl))⟩,⟨Tryz.f209.name,g!,Tryz.func209.trans (congrArg some (by kernel_rfl))⟩,⟨Tryz.f232.name,g!,Tryz.func232.trans (congrArg some (by kernel_rfl))⟩,Tryz.underlying0,Tryz.isAgg0,Tryz.sizeOf0,Tryz.zeroValue0,Tryz.underlying3,Tryz.isAgg3,Tryz.sizeOf3,Tryz.zeroValue3,Tryz.underlying4,Tryz.isAgg4,Tryz.sizeOf4,Tryz.zeroValue4,Tryz.underlying5,Tryz.isAgg5,Tryz.sizeOf5,Tryz.zeroValue5,Tryz.underlying9,Tryz.isAgg9,Tryz.sizeOf9,Tryz.zeroValue9,Tryz.underlying30,Tryz.isAgg30,Tryz.sizeOf30,Tryz.zeroValue30,Tryz.underlying149,Tryz.isAgg149,Tryz.sizeOf149,Tryz.zeroValue149,Tryz.underlying182,Tryz.isAgg182,Tryz.sizeOf182,Tryz.zeroValue182,Tryz.underlying255,Tryz.isAgg255,Tryz.sizeOf255,Tryz.zeroValue255,Tryz.underlying256,Tryz.isAgg256,Tryz.sizeOf256,Tryz.zeroValue256,Tryz.underlying244,Tryz.isAgg244,Tryz.sizeOf244,Tryz.zeroValue244,Tryz.underlying121,Tryz.isAgg121,Tryz.sizeOf121,Tryz.zeroValue121,Tryz.underlying181,Tryz.isAgg181,Tryz.sizeOf181,Tryz.zeroValue181,Tryz.underlying289,Tryz.isAgg289,Tryz.sizeOf289,Tryz.zeroValue289,Tryz.underlying293,Tryz.isAgg293,Tryz.sizeOf293,Tryz.zeroValue293,Tryz.underlying315,Tryz.isAgg315,Tryz.sizeOf315,Tryz.zeroValue315,Tryz.underlying161,Tryz.isAgg161,Tryz.sizeOf161,Tryz.zeroValue161⟩
def AGo:Ren:=⟨λ|5=>87|7=>131|n=>n,λ|22=>3|n=>n,λn=>n⟩
def AGi:SlLaysC2.n5 Tryz.prog AGo:=⟨by kernel_rfl,⟨Tryz.f87.name,g!,Tryz.func87.trans (congrArg some (by kernel_rfl))⟩,⟨Tryz.f131.name,g!,Tryz.func131.trans (congrArg some (by kernel_rfl))⟩,Tryz.underlying3,Tryz.isAgg3,Tryz.sizeOf3,Tryz.zeroValue3,Tryz.underlying4,Tryz.isAgg4,Tryz.sizeOf4,Tryz.zeroValue4,Tryz.underlying3,Tryz.isAgg3,Tryz.sizeOf3,Tryz.zeroValue3⟩
def yg{r:List Value}(h:r.length+1=13): ∃d e f g i j k l m a b c,r=[d,e,f,g,i,j,k,l,m,a,b,c]:=by
 match r,h with
 |[d,e,f,g,i,j,k,l,m,a,b,c],_=>exact⟨_,_,_,_,_,_,_,_,_,_,_,_,rfl⟩
set_option maxHeartbeats 2000000 in
def AGd(a b:Int)(r s:List Value)(W:World)(hr:r.length+1=13)(j:s.length+1=13):Calls Tryz.prog 86 #[.agg (Value.int .i64 a::r).toArray,.agg (Value.int .i64 b::s).toArray] W λe i=>e= .returned (.int .i64 (Lib.compareInt a b))/\ ∃q g,i=grow (W.drewN q) g:=by
 obtain⟨t,u,v,w,x,y,z,A,B,k,l,m,rfl⟩:=yg hr;obtain⟨C,D,E,F,G,H,I,J,K,n,o,p,rfl⟩:=yg j;have d:=λh=>AnyG.cmp_Compare_int AGi a b h;change∀h,Calls Tryz.prog 87 _ _ _ at d;generalize Lib.compareInt a b=c at d⊢;go_enter Tryz.func86,Tryz.ntmps86;go_wp2_with (go_at_call 87;apply (d _).mono;rintro e i ⟨rfl,rfl⟩)
 go_ret
 exact⟨rfl,0,_,by rw[alloc_eq_grow,alloc_eq_grow,grow_grow];rfl⟩
def Pq:(Pt.c2 85 Ai [] [] [.fn (.func 86) [] []] C7).Ok Tryz.prog:=ABz (te:=Ai) (λe:AE=>e.1) (λe=>rfl) AGd (λc m i g k b cap d w a j l f=>AnyQ.slices_SortFunc AFy 13 Tryz.isAgg61 Tryz.sizeOf61 c m i g k 86 #[] b 0 cap d w (enters_of Tryz.func86 (by kernel_rfl) rfl) a j l f) λp cap h w=>AnyF.slices_SortFunc_none AFy p cap h w
end Go.Proofs.YtdjfjcnheopcdaaGreat
