import Derived.Test.YtdbincbpjobdpaaGreatK11
import Derived.Test.YtdbincbpjobdpaaGreatProg
import Derived.KernelRfl
import Derived.Shelf.SlSortCmp.WholeK
import Derived.Shelf.SlSortCmp.NoneTotal
import Derived.Shelf.SlicesG.Cmp
import Derived.WalkKit
noncomputable section
set_option linter.all false
set_option maxHeartbeats 4000000
set_option maxRecDepth 100000
open Option renaming some->Y
open List renaming length->W
open Go renaming Ψ->S
open Bool renaming true->E
open Option renaming none->D
open Option renaming some->δ,none->ε
open Bool renaming true->ζ
open List renaming length->θ,replicate->ς
open Go.IntKind renaming wrap->ι
open BitVec renaming ofInt->κ,toNat->π
open Int renaming toNat->ο
open _root_ renaming Int->Z
namespace Go.Proofs.YtdbincbpjobdpaaGreat
open Go Go.Ab Go.Pm
abbrev A5(c:Qd):Prop:=c.Ok Tryz.prog
abbrev a?(F d r g):=A5 (.c0 F d r g)
abbrev b?(F p b d r g):=A5 (.c1 F p b d r g)
instance{n:Nat}:OfNat PD n:=⟨.t n i64⟩
instance{n:Nat}:OfNat Exit n:=⟨.exit n⟩
def h?:List PD->List PD|[]=>[]|.p n _::r=>.x n::h? r|.u n _::r=>.x n::h? r|.m n _ _::r=>.x n::h? r|.x n::r=>.x n::h? r|_::r=>h? r
abbrev c?(i T):=hn 2 i (h? T) [(.normal,T)]
abbrev d?(i R T):=hn 2 i (h? T) [(.ret,R),(.normal,T)]
abbrev e?(i S a T):=hn 0 i S [(.exit a,T)]
abbrev f?(i S R a T):=hn 0 i S [(.ret,R),(.exit a,T)]
abbrev g?(n b):=PD.p n [.d b]
abbrev e!:List Part:=[.o 4,.d i64,.d (.list i64),.d .bool,.o 6]
abbrev i?:List Part:=[.o 4,.d i64,.d (.list i64),.d .bool,.o 9]
abbrev l?:List Part:=[.d i64,.d i64,.d (.list B9),.o 3,.d ES]
abbrev o?:List Part:=[.d (.list i64),.d i64,.o 4,.d i64,.d i64]
abbrev Q!:List Part:=[.d A7,.o 4,.o 5,.d .bool]
abbrev Q?:List Part:=[.o 4,.d i64,.o 5,.d .bool,.o 6]
abbrev W!:List Part:=[.d i64,.d i64,.o 2]
def ms:a? 278 [(.int .u64),(.int .u64)] [(.int .u64),(.int .u64)] VV:=k0 [] CA
def o0:a? 217 [(.int .u64),(.int .u64)] [(.int .u64),(.int .u64)] Xo:=k0 [] (A8 ms CA)
open Go.RowKit Go.Ab Go.Pm
def ADA(n:Z){i:Nat}(h:i<8):IntKind.wrap .u64 n/2^(8*i)%256=((UInt8.ofNat (n/256^i%256).toNat).toNat:Z):=by
 have e:IntKind.wrap .u64 n/2^(8*i)%256=n/256^i%256:=by
  rw[ABf,Xa];have:i=0\/i=1\/i=2\/i=3\/i=4\/i=5\/i=6\/i=7:=o!
  rcases this with h|h|h|h|h|h|h|h<;>rw[h];rw[show(256:Z)^0=1 by decide];omega;rw[show(256:Z)^1=256 by decide];omega;rw[show(256:Z)^2=65536 by decide];omega;rw[show(256:Z)^3=16777216 by decide];omega;rw[show(256:Z)^4=4294967296 by decide];omega;rw[show(256:Z)^5=1099511627776 by decide];omega;rw[show(256:Z)^6=281474976710656 by decide];omega;rw[show(256:Z)^7=72057594037927936 by decide];omega
 rw[e,fx];omega
def AIy(w:World):Lib.IsBuilderF 301 5 w.heap.size w.heap.size [] (w.alloc (.cells #[.pointer none,.slice none 0 0] 301)):=.inl ⟨Al _,_,heap_alloc_new w _,World.ownsRowF_nil _ _ _ _,by simp[Value.ownBlock]⟩
def AIz(l:List UInt8)(n:Z)(k:Nat)(w:World)(F:l.length≤1099511627776)(E_:1≤k∧k≤8):
  Calls Tryz.prog 141 #[.string ⟨l.toArray⟩,.int .i64 n,.int .i64 k] w λe D_=>e= .returned (.string ⟨(l++C6 n k).toArray⟩)/\Below w.heap.size w D_:=by
 have p:Below w.heap.size w (w.alloc (.cells #[.pointer none,.slice none 0 0] 301)):=(Below.refl _ w).alloc (Al _) _;obtain⟨s,d⟩: ∃s:ByteArray,(⟨l.toArray⟩:ByteArray)=s:=⟨_,rfl⟩
 have b:s.size=l.length:=by rw[<-d];simp[ByteArray.size]
 have y:=Yy w.heap.size w.heap.size [] s _ (AIy w) (by rw[b,Bj];omega) p.size;rw[d];have f:Lib.strCells s=Lib.byteCells l:=by rw[<-d,Lib.strCells_eq]
 have A:Aside ((⟨l.toArray⟩:ByteArray)=s/\s.size=l.length/\Lib.strCells s=Lib.byteCells l):=⟨d,b,f⟩
 clear d b f;go_enter Tryz.func141,Tryz.ntmps141;go_wp2_with (go_at_call 214;go_fit y;rintro e W2 ⟨rfl,z,u⟩)
 go_loopg [19] k (λg o r=> ∃i:Nat,i+g=k/\o= .int .i64 i/\Lib.IsBuilderF 301 5 w.heap.size w.heap.size (Lib.byteCells (l++C6 n i)) r/\Below w.heap.size w r)
 case atStart=>refine⟨0,o!,rfl,.inr ?_,p.trans u⟩;have:=A.out.2.2;simpa[C6,this]using z
 case round=>
  obtain⟨i,B,rfl,q,a⟩:=hrel;cases gk with
  |zero=>
   obtain rfl:i=k:=o!
   have x:=wT w.heap.size w.heap.size (l++C6 n i) wr q (λh=>by have:=congrArg List.length h;rw[AZ,Ay,Bj]at this;omega);go_wp2_with (go_at_call 216;go_fit x;rintro e t ⟨rfl,m,j⟩)
   go_ret
   exact⟨rfl,a.trans j⟩
  |succ g=>
   have C:(i:Z)<k:=o!
   have v:=λc=>xn w.heap.size w.heap.size _ c wr q (by rw[Lib.byteCells_length,AZ,Ay];omega) a.size;go_wp2_with (go_at_call 215;apply (v _).mono;rintro e t ⟨rfl,m,j⟩)
   go_roundg g
   case measure=>omega
   case rel=>refine⟨i+1,o!,rfl,.inr ?_,a.trans j⟩;rw[ADA n o!]at m;rw[uz,<-A2,Lib.byteCells_append];exact m
def AGn(c:Nat)(h:c<=8000):Xo (1,(c:Z))=some (0,(c:Z)):=by
 have e:Int.fdiv (c:Z) 4294967296=0:=by rw[mA _ o!];omega
 have b:BitVec.toNat (BitVec.ofInt 64 (c:Z)&&&BitVec.ofInt 64 4294967295)=c:=by rw[BitVec.toNat_and,show BitVec.toNat (BitVec.ofInt 64 (c:Z))=c by rw[BitVec.toNat_ofInt];omega,show BitVec.toNat (BitVec.ofInt 64 4294967295)=2^32-1 by decide,Nat.and_two_pow_sub_one_eq_mod];omega
 have a:IntKind.wrap .u64 (c:Z)=c:=by rw[Xa];omega
 have d:(2:Z)^(min (Int.toNat 32) 64)=4294967296:=g!
 unfold Xo VV;dsimp only;rw[d,e,b,a,show Int.fdiv 1 4294967296=0 by decide,show BitVec.toNat (BitVec.ofInt 64 1&&&BitVec.ofInt 64 4294967295)=1 by decide,show IntKind.wrap .u64 ((1:Nat):Z)=1 by decide];simp only[Int.zero_mul,Int.mul_zero,Int.one_mul,a,e,show IntKind.wrap .u64 0=0 by decide,Int.zero_add,Int.add_zero,show Int.fdiv 0 4294967296=0 by decide,AD];exact congrArg (λz=>some (z,(c:Z))) g!
def AIx(c:Nat)(h:c<=8000)(w:World):Calls Tryz.prog 217 #[.int .u64 1,.int .u64 c] w λe n=>e= .returned (.tuple #[.int .u64 0,.int .u64 c])/\Below w.heap.size w n:=by
 have q:Ej Tryz.prog 217 [.int .u64 1,.int .u64 c] [] (DW (.tup [.int .u64 0,.int .u64 c]) []):=o0 (1,(c:Z)) (0,(c:Z)) (AGn c h) [];refine(aW q (w:=w) (cargs:= #[.int .u64 1,.int .u64 c]) rfl ?_).mono ?_;intro j v d a f;match j,a,f with
 |0,a,f=>simp at a f;subst a f;exact .int _ _
 |1,a,f=>simp at a f;subst a f;exact .int _ _
 |j+2,a,_=>simp at a
 rintro e n ⟨d,v,x,s,rfl,⟨rfl,_⟩,r,b⟩;cases r with
 |tup h m=>
  rename_i g;have k:g.size=2:=h;have k0:=m 0 (.int .u64 0) g[0] rfl (by simp[k]);have k1:=m 1 (.int .u64 c) g[1] rfl (by simp[k]);have o:=lw k0;have p:=lw k1;refine⟨?_,b⟩;have:g= #[g[0],g[1]]:=by
   apply Array.ext;simp[k];intro i l _;match i,l with
   |0,_=>rfl
   |1,_=>rfl
   |i+2,l=>omega
  rw[this,o,p]
def AGo(w:World):Calls Tryz.prog 143 #[.string ⟨#[0]⟩,.int .i64 0] w λe a=>e= .returned (.string ⟨#[]⟩)/\Below w.heap.size w a:=by
 go_enter Tryz.func143,Tryz.ntmps143
 go_wp2
 go_ret
 exact⟨rfl,Below.refl _ _⟩
def AGp(w:World):Calls Tryz.prog 143 #[.string ⟨#[0]⟩,.int .i64 1] w λe a=>e= .returned (.string ⟨#[0]⟩)/\Below w.heap.size w a:=by
 go_enter Tryz.func143,Tryz.ntmps143
 go_wp2
 go_ret
 exact⟨rfl,Below.refl _ _⟩
set_option maxRecDepth 1000000 in
def AI0(c:Nat)(w:World)(T:2≤c)(R:c≤8000):
  Calls Tryz.prog 143 #[.string ⟨#[0]⟩,.int .i64 c] w λe B=>e= .returned (.string ⟨(List.replicate c (0:UInt8)).toArray⟩)/\Below w.heap.size w B:=by
 have i:=AIx c R w;go_enter Tryz.func143,Tryz.ntmps143;go_upto_block 1 with(go_at_call 217;go_fit i;rintro e f ⟨rfl,j⟩)
 clear i;have m:Below w.heap.size w (f.alloc (.cells #[.pointer none,.slice none 0 0] 301)):=j.alloc j.size _;have E_:=AGl w.heap.size f.heap.size c (f.alloc (.cells #[.pointer none,.slice none 0 0] 301)) j.size (heap_alloc_new f _) m.size o!;go_wp2_with (go_at_call 218;go_fit E_;rintro e O ⟨rfl,G,p⟩)
 clear E_;have F:=Yy w.heap.size f.heap.size [] ⟨#[0]⟩ O (Lib.IsBuilderF.of (Or.inr G)) g! (Cq m.size p.size);go_wp2_with (go_at_call 214;go_fit F;rintro e W2 ⟨rfl,s,D_⟩)
 clear F G;have u:Lib.IsBuilderF 301 5 w.heap.size f.heap.size (Lib.byteCells (List.replicate 1 (0:UInt8))) W2:=by rw[B7,Lib.strCells_eq]at s;exact Or.inr s
 have o:Below w.heap.size w W2:=m.trans (p.trans D_);clear s m p D_;go_loopg [] (c-1) (λg N=> ∃q:Nat,1<=q/\q+g=c/\Lib.IsBuilderF 301 5 w.heap.size f.heap.size (Lib.byteCells (List.replicate q (0:UInt8))) N/\Below w.heap.size w N)
 case atStart=>exact⟨1,Al _,o!,u,o⟩
 case round=>
  obtain⟨q,U,X_,J,k⟩:=hrel;have b:=AIw w.heap.size f.heap.size _ wr J;rw[Lib.byteCells_length,Hh]at b;have d:=wT w.heap.size f.heap.size (List.replicate q (0:UInt8)) wr J (λh=>by have:=congrArg List.length h;rw[Hh,Bj]at this;omega);cases gk with
  |zero=>
   obtain rfl:q=c:=o!
   go_wp2_with (first
    |(go_at_call 219;go_fit b;rintro e B ⟨rfl,y⟩;rw[y])
    |(go_at_call 216;go_fit d;rintro e C ⟨rfl,H,n⟩))
   go_ret
   exact⟨rfl,k.trans n⟩
  |succ g=>
   obtain⟨a,l⟩: ∃a,min (c-q) q=a:=⟨_,rfl⟩
   have V:(q:Z)<c:=o!
   have x: ∀(M:Array TypeId) (t:TypeId) (W:World),(Builtin.min_ M t #[.int .i64 ((c:Z)-(q:Z)),.int .i64 (q:Z),.int .i64 (c:Z)]).run Tryz.prog W= .ok (.int .i64 (a:Z)) W:=λM t W=>by simp[Builtin.min_,Builtin.min2];omega
   have A:Aside (min (c-q) q=a/\a<=q):=⟨l,o!⟩
   have K:(a:Z)<=q:=o!
   clear l;obtain⟨S,v⟩: ∃S:ByteArray,(⟨(List.replicate q (0:UInt8)).toArray⟩:ByteArray)=S:=⟨_,rfl⟩
   rw[v]at d;have Q:S.size=q:=by rw[<-v];simp[ByteArray.size]
   go_wp2_with (first
    |(go_at_call 219;go_fit b;rintro e B ⟨rfl,y⟩;rw[y])
    |(go_at_call 216;go_fit d;rintro e C ⟨rfl,H,n⟩))
   have L:(S.extract 0 a).data.toList=List.replicate a (0:UInt8):=by rw[Lib.extract_data,<-v];simp only[Wc,WZ,List.take_replicate];rw[RD A.out.2]
   have z:(S.extract 0 a).size=a:=by rw[Lib.size_eq,L,Hh]
   have r:=Yy w.heap.size f.heap.size _ (S.extract 0 a) C H (by rw[Lib.byteCells_length,Hh,z];have:=A.out.2;omega) (Cq k.size n.size);go_wp2_with (go_at_call 214;go_fit r;rintro e Y_ ⟨rfl,I,P⟩)
   go_roundg (c-(q+a))
   case measure=>have:=A.out.1;omega
   case rel=>refine⟨q+a,o!,by have:=A.out.1;omega,Or.inr ?_,k.trans (n.trans P)⟩;rw[Lib.strCells_eq,<-Lib.byteCells_append,L,List.replicate_append_replicate]at I;exact I
def zL{a:Type}{b:Bool}{z y:a}(h:(bif b then some z else none)=some y):b=true/\z=y:=by cases b;cases h;exact⟨rfl,BW h⟩
def AEV{a:Array Value}{l:List Value}(b:a.size=l.length)(h: ∀(j:Nat) (v c:Value),l[j]? =some v->a[j]? =some c->c=v):a=l.toArray:=by apply Array.ext;simpa using b;intro i d e;have:=h i l[i] a[i] q! q!;simpa using this
def nJ:(Qd.c0 141 [.str,(.int .i64),(.int .i64)] [.str] O4).Ok Tryz.prog:=by
 rintro⟨s,n,k⟩ y i H;obtain⟨h,rfl⟩:=zL i;simp only[BZ,decide_eq_true_eq]at h;refine rY (args:=[.str s,.int .i64 n,.int .i64 k]) (v:=.str (s++C6 n k.toNat)) (λw a g hr=>?_) H;have e:a= #[.string ⟨s.toArray⟩,.int .i64 n,.int .i64 k.toNat]:=AEV (l:=[.string ⟨s.toArray⟩,.int .i64 n,.int .i64 k.toNat]) g λj v c d f=>by
  match j,d with
  |0,d=>obtain⟨x,q⟩:=hr 0 _ c rfl f;cases d;exact AAj q
  |1,d=>obtain⟨x,q⟩:=hr 1 _ c rfl f;cases d;exact lw q
  |2,d=>obtain⟨x,q⟩:=hr 2 _ c rfl f;cases d;rw[lw q,Ig o!]
 rw[e];apply (AIz s n k.toNat w h.1 o!).mono;rintro e m ⟨rfl,b⟩;exact⟨_,rfl,λx=>.str _ rfl,b⟩
def Tx:(Qd.c0 143 [.str,(.int .i64)] [.str] LO).Ok Tryz.prog:=by
 rintro⟨s,n⟩ y o H;obtain⟨h,rfl⟩:=zL o;simp only[BZ,decide_eq_true_eq,beq_iff_eq]at h;obtain⟨rfl,h⟩:=h;refine rY (args:=[.str [0],.int .i64 n]) (v:=.str (List.replicate n.toNat 0)) (λw a m hr=>?_) H;have e:a= #[.string ⟨#[0]⟩,.int .i64 n.toNat]:=AEV (l:=[.string ⟨#[0]⟩,.int .i64 n.toNat]) m λj v c d g=>by
  match j,d with
  |0,d=>obtain⟨x,q⟩:=hr 0 _ c rfl g;cases d;exact AAj q
  |1,d=>obtain⟨x,q⟩:=hr 1 _ c rfl g;cases d;rw[lw q,Ig o!]
 rw[e];have key: ∀k:Nat,k<=8000->Calls Tryz.prog 143 #[.string ⟨#[0]⟩,.int .i64 k] w λe i=>e= .returned (.string ⟨(List.replicate k (0:UInt8)).toArray⟩)/\Below w.heap.size w i:=λk f=>by
  match k,f with
  |0,_=>exact AGo w
  |1,_=>exact AGp w
  |k+2,f=>exact AI0 (k+2) w o! f
 apply (key n.toNat o!).mono;rintro e i ⟨rfl,b⟩;exact⟨_,rfl,λx=>.str _ rfl,b⟩
open Go.Shelf Go.RowKit Go.Lib Go.Sort Go.Ab Go.Pm
def ALJ:Ren:=⟨λ|6=>61|14=>114|15=>115|20=>177|21=>178|22=>179|23=>180|24=>181|25=>182|26=>183|27=>184|28=>185|29=>186|46=>254|47=>255|48=>256|49=>257|50=>258|57=>292|n=>n,λ|22=>30|24=>70|25=>126|39=>190|45=>268|46=>269|50=>250|53=>232|55=>276|66=>332|70=>336|76=>373|77=>206|n=>n,λn=>n⟩
def AHJ:SlLaysF0.n6 Tryz.prog ALJ:=⟨h!,⟨Tryz.f61.name,g!,Tryz.func61.trans (congrArg some h!)⟩,⟨Tryz.f114.name,g!,Tryz.func114.trans (congrArg some h!)⟩,Tryz.func115.trans (congrArg some h!),⟨Tryz.f177.name,g!,Tryz.func177.trans (congrArg some h!)⟩,⟨Tryz.f178.name,g!,Tryz.func178.trans (congrArg some h!)⟩,⟨Tryz.f179.name,g!,Tryz.func179.trans (congrArg some h!)⟩,⟨Tryz.f180.name,g!,Tryz.func180.trans (congrArg some h!)⟩,⟨Tryz.f181.name,g!,Tryz.func181.trans (congrArg some h!)⟩,⟨Tryz.f182.name,g!,Tryz.func182.trans (congrArg some h!)⟩,⟨Tryz.f183.name,g!,Tryz.func183.trans (congrArg some h!)⟩,⟨Tryz.f184.name,g!,Tryz.func184.trans (congrArg some h!)⟩,Tryz.func185.trans (congrArg some h!),Tryz.func186.trans (congrArg some h!),⟨Tryz.f254.name,g!,Tryz.func254.trans (congrArg some h!)⟩,Tryz.func255.trans (congrArg some h!),Tryz.func256.trans (congrArg some h!),⟨Tryz.f257.name,g!,Tryz.func257.trans (congrArg some h!)⟩,⟨Tryz.f258.name,g!,Tryz.func258.trans (congrArg some h!)⟩,⟨Tryz.f292.name,g!,Tryz.func292.trans (congrArg some h!)⟩,Tryz.underlying0,Tryz.isAgg0,Tryz.sizeOf0,Tryz.zeroValue0,Tryz.underlying3,Tryz.isAgg3,Tryz.sizeOf3,Tryz.zeroValue3,Tryz.underlying4,Tryz.isAgg4,Tryz.sizeOf4,Tryz.zeroValue4,Tryz.underlying5,Tryz.isAgg5,Tryz.sizeOf5,Tryz.zeroValue5,Tryz.underlying9,Tryz.isAgg9,Tryz.sizeOf9,Tryz.zeroValue9,Tryz.underlying30,Tryz.isAgg30,Tryz.sizeOf30,Tryz.zeroValue30,Tryz.underlying126,Tryz.isAgg126,Tryz.sizeOf126,Tryz.zeroValue126,Tryz.underlying190,Tryz.isAgg190,Tryz.sizeOf190,Tryz.zeroValue190,Tryz.underlying268,Tryz.isAgg268,Tryz.sizeOf268,Tryz.zeroValue268,Tryz.underlying269,Tryz.isAgg269,Tryz.sizeOf269,Tryz.zeroValue269,Tryz.underlying250,Tryz.isAgg250,Tryz.sizeOf250,Tryz.zeroValue250,Tryz.underlying232,Tryz.isAgg232,Tryz.sizeOf232,Tryz.zeroValue232,Tryz.underlying276,Tryz.isAgg276,Tryz.sizeOf276,Tryz.zeroValue276,Tryz.underlying332,Tryz.isAgg332,Tryz.sizeOf332,Tryz.zeroValue332,Tryz.underlying336,Tryz.isAgg336,Tryz.sizeOf336,Tryz.zeroValue336,Tryz.underlying373,Tryz.isAgg373,Tryz.sizeOf373,Tryz.zeroValue373,Tryz.underlying206,Tryz.isAgg206,Tryz.sizeOf206,Tryz.zeroValue206⟩
def ALK:Ren:=⟨λ|5=>63|7=>116|n=>n,λ|22=>3|n=>n,λn=>n⟩
def AKL:SlLaysC2.n5 Tryz.prog ALK:=⟨h!,⟨Tryz.f63.name,g!,Tryz.func63.trans (congrArg some h!)⟩,⟨Tryz.f116.name,g!,Tryz.func116.trans (congrArg some h!)⟩,Tryz.underlying3,Tryz.isAgg3,Tryz.sizeOf3,Tryz.zeroValue3,Tryz.underlying4,Tryz.isAgg4,Tryz.sizeOf4,Tryz.zeroValue4,Tryz.underlying3,Tryz.isAgg3,Tryz.sizeOf3,Tryz.zeroValue3⟩
def tU{r:List Value}(h:r.length+1=13): ∃d e f g i j k l m a b c,r=[d,e,f,g,i,j,k,l,m,a,b,c]:=by
 match r,h with
 |[d,e,f,g,i,j,k,l,m,a,b,c],_=>exact⟨_,_,_,_,_,_,_,_,_,_,_,_,rfl⟩
def AK8(a b:Z)(r s:List Value)(W:World)(hr:r.length+1=13)(j:s.length+1=13):Calls Tryz.prog 153 #[.agg (Value.int .i64 a::r).toArray,.agg (Value.int .i64 b::s).toArray] W λe i=>e= .returned (.int .i64 (Lib.compareInt a b))/\ ∃q g,i=grow (W.drewN q) g:=by
 obtain⟨t,u,v,w,x,y,z,A,B,k,l,m,rfl⟩:=tU hr;obtain⟨C,D,E,F,G,H,I,J,K,n,o,p,rfl⟩:=tU j;have d:=λh=>AnyG.cmp_Compare_int AKL a b h;change∀h,Calls Tryz.prog 63 _ _ _ at d;generalize Lib.compareInt a b=c at d⊢;go_enter Tryz.func153,Tryz.ntmps153;go_wp2_with (go_at_call 63;apply (d _).mono;rintro e i ⟨rfl,rfl⟩)
 go_ret
 exact⟨rfl,0,_,by rw[alloc_eq_grow,alloc_eq_grow,grow_grow];rfl⟩
def Qt:(Qd.c2 61 Af [] [] [.fn (.func 153) [] []] DD).Ok Tryz.prog:=AF0 (te:=Af) (λe:AE=>e.1) (λe=>rfl) AK8 (λc m i g k b cap d w a j l f=>AnyQ.slices_SortFunc AHJ 13 Tryz.isAgg70 Tryz.sizeOf70 c m i g k 153 #[] b 0 cap d w (enters_of Tryz.func153 h! rfl) a j l f) λp cap h w=>AnyF.slices_SortFunc_none AHJ p cap h w
def AK9(a b:Z)(r s:List Value)(W:World)(hr:r.length+1=13)(j:s.length+1=13):Calls Tryz.prog 62 #[.agg (Value.int .i64 a::r).toArray,.agg (Value.int .i64 b::s).toArray] W λe i=>e= .returned (.int .i64 (Lib.compareInt a b))/\ ∃q g,i=grow (W.drewN q) g:=by
 obtain⟨t,u,v,w,x,y,z,A,B,k,l,m,rfl⟩:=tU hr;obtain⟨C,D,E,F,G,H,I,J,K,n,o,p,rfl⟩:=tU j;have d:=λh=>AnyG.cmp_Compare_int AKL a b h;change∀h,Calls Tryz.prog 63 _ _ _ at d;generalize Lib.compareInt a b=c at d⊢;go_enter Tryz.func62,Tryz.ntmps62;go_wp2_with (go_at_call 63;apply (d _).mono;rintro e i ⟨rfl,rfl⟩)
 go_ret
 exact⟨rfl,0,_,by rw[alloc_eq_grow,alloc_eq_grow,grow_grow];rfl⟩
def Y2:(Qd.c2 61 Af [] [] [.fn (.func 62) [] []] F5).Ok Tryz.prog:=AFz (te:=Af) (λe:AE=>e.1) (λe=>rfl) AK9 (λc m i g k b cap d w a j l f=>AnyQ.slices_SortFunc AHJ 13 Tryz.isAgg70 Tryz.sizeOf70 c m i g k 62 #[] b 0 cap d w (enters_of Tryz.func62 h! rfl) a j l f) λp cap h w=>AnyF.slices_SortFunc_none AHJ p cap h w
end Go.Proofs.YtdbincbpjobdpaaGreat
