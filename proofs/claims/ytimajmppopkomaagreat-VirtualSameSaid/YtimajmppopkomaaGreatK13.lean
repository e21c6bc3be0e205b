/- Texts of wip, joined and shortened by wip/tools/pack.py; nothing is assumed. -/
import Derived.Test.YtimajmppopkomaaGreatK12
import Derived.Test.YtimajmppopkomaaGreatProg
import Derived.KernelRfl
noncomputable section
set_option linter.all false
namespace Go.Proofs.YtimajmppopkomaaGreat
open Go Go.Ab Go.Pm
abbrev A4(c:RV):Prop:=c.Ok Tryz.prog
set_option maxRecDepth 100000
def jN:A4 (.c0 170 [(.int .u64),(.int .u64)] [(.int .u64),(.int .u64)] Tx):=k0 [] CA
def lI:A4 (.c0 127 [(.int .u64),(.int .u64)] [(.int .u64),(.int .u64)] Vx):=k0 [] (A6 jN CA)
open Go.RowKit Go.Ab Go.Pm
def zH(n:Int){i:Nat}(h:i<8):IntKind.wrap .u64 n/2^(8*i)%256=((UInt8.ofNat (n/256^i%256).toNat).toNat:Int):=by
 have e:IntKind.wrap .u64 n/2^(8*i)%256=n/256^i%256:=by
  rw[xU,TZ];have:i=0\/i=1\/i=2\/i=3\/i=4\/i=5\/i=6\/i=7:=o!
  rcases this with h|h|h|h|h|h|h|h<;>rw[h];rw[show(256:Int)^0=1 by decide];omega;rw[show(256:Int)^1=256 by decide];omega;rw[show(256:Int)^2=65536 by decide];omega;rw[show(256:Int)^3=16777216 by decide];omega;rw[show(256:Int)^4=4294967296 by decide];omega;rw[show(256:Int)^5=1099511627776 by decide];omega;rw[show(256:Int)^6=281474976710656 by decide];omega;rw[show(256:Int)^7=72057594037927936 by decide];omega
 rw[e,UInt8.toNat_ofNat'];omega
def AEh(w:World):Lib.IsBuilderF 199 5 w.heap.size w.heap.size [] (w.alloc (.cells #[.pointer none,.slice none 0 0] 199)):=.inl ⟨Ai _,_,heap_alloc_new w _,World.ownsRowF_nil _ _ _ _,by simp[Value.ownBlock]⟩
set_option maxHeartbeats 2000000 in
set_option maxRecDepth 100000 in
def AEi(l:List UInt8)(n:Int)(k:Nat)(w:World)(G:l.length≤1099511627776)(F:1≤k∧k≤8):
  Calls Tryz.prog 78 #[.string ⟨l.toArray⟩,.int .i64 n,.int .i64 k] w λe D=>e= .returned (.string ⟨(l++Df n k).toArray⟩)/\Below w.heap.size w D:=by
 have p:Below w.heap.size w (w.alloc (.cells #[.pointer none,.slice none 0 0] 199)):=(Below.refl _ w).alloc (Ai _) _;obtain⟨s,d⟩: ∃s:ByteArray,(⟨l.toArray⟩:ByteArray)=s:=⟨_,rfl⟩
 have b:s.size=l.length:=by rw[<-d];simp[ByteArray.size]
 have y:=W7 w.heap.size w.heap.size [] s _ (AEh w) (by rw[b,Bs];omega) p.size;rw[d];have f:Lib.strCells s=Lib.byteCells l:=by rw[<-d,Lib.strCells_eq]
 have A:Aside ((⟨l.toArray⟩:ByteArray)=s/\s.size=l.length/\Lib.strCells s=Lib.byteCells l):=⟨d,b,f⟩
 clear d b f;go_enter Tryz.func78,Tryz.ntmps78;go_wp2_with (go_at_call 124;go_fit y;rintro e E ⟨rfl,z,u⟩)
 go_loopg [19] k (λg o r=> ∃i:Nat,i+g=k/\o= .int .i64 i/\Lib.IsBuilderF 199 5 w.heap.size w.heap.size (Lib.byteCells (l++Df n i)) r/\Below w.heap.size w r)
 case atStart=>refine⟨0,o!,rfl,.inr ?_,p.trans u⟩;have:=A.out.2.2;simpa[Df,this]using z
 case round=>
  obtain⟨i,B,rfl,q,a⟩:=hrel;cases gk with
  |zero=>
   obtain rfl:i=k:=o!
   have x:=sB w.heap.size w.heap.size (l++Df n i) wr q (λh=>by have:=congrArg List.length h;rw[Ad,A0,Bs]at this;omega);go_wp2_with (go_at_call 126;go_fit x;rintro e t ⟨rfl,m,j⟩)
   go_ret
   exact⟨rfl,a.trans j⟩
  |succ g=>
   have C:(i:Int)<k:=o!
   have v:=λc=>tM w.heap.size w.heap.size _ c wr q (by rw[Lib.byteCells_length,Ad,A0];omega) a.size;go_wp2_with (go_at_call 125;apply (v _).mono;rintro e t ⟨rfl,m,j⟩)
   go_roundg g
   case measure=>omega
   case rel=>refine⟨i+1,o!,rfl,.inr ?_,a.trans j⟩;rw[zH n o!]at m;rw[qI,<-Ay,Lib.byteCells_append];exact m
def ACc(c:Nat)(h:c<=8000):Vx (1,(c:Int))=some (0,(c:Int)):=by
 have e:Int.fdiv (c:Int) 4294967296=0:=by rw[iO _ o!];omega
 have b:BitVec.toNat (BitVec.ofInt 64 (c:Int)&&&BitVec.ofInt 64 4294967295)=c:=by rw[BitVec.toNat_and,show BitVec.toNat (BitVec.ofInt 64 (c:Int))=c by rw[BitVec.toNat_ofInt];omega,show BitVec.toNat (BitVec.ofInt 64 4294967295)=2^32-1 by decide,Nat.and_two_pow_sub_one_eq_mod];omega
 have a:IntKind.wrap .u64 (c:Int)=c:=by rw[TZ];omega
 have d:(2:Int)^(min (Int.toNat 32) 64)=4294967296:=g!
 unfold Vx Tx;dsimp only;rw[d,e,b,a,show Int.fdiv 1 4294967296=0 by decide,show BitVec.toNat (BitVec.ofInt 64 1&&&BitVec.ofInt 64 4294967295)=1 by decide,show IntKind.wrap .u64 ((1:Nat):Int)=1 by decide];simp only[Int.zero_mul,Int.mul_zero,Int.one_mul,a,e,show IntKind.wrap .u64 0=0 by decide,Int.zero_add,Int.add_zero,show Int.fdiv 0 4294967296=0 by decide,AE];exact congrArg (λz=>some (z,(c:Int))) g!
def AEg(c:Nat)(h:c<=8000)(w:World):Calls Tryz.prog 127 #[.int .u64 1,.int .u64 c] w λe n=>e= .returned (.tuple #[.int .u64 0,.int .u64 c])/\Below w.heap.size w n:=by
 have q:Ee Tryz.prog 127 [.int .u64 1,.int .u64 c] [] (C4 (.tup [.int .u64 0,.int .u64 c]) []):=lI (1,(c:Int)) (0,(c:Int)) (ACc c h) [];refine(Yc q (w:=w) (cargs:= #[.int .u64 1,.int .u64 c]) rfl ?_).mono ?_;intro j v d a f;match j,a,f with
 |0,a,f=>simp at a f;subst a f;exact .int _ _
 |1,a,f=>simp at a f;subst a f;exact .int _ _
 |j+2,a,_=>simp at a
 rintro e n ⟨d,v,x,s,rfl,⟨rfl,_⟩,r,b⟩;cases r with
 |tup h m=>
  rename_i g;have k:g.size=2:=h;have k0:=m 0 (.int .u64 0) g[0] rfl (by simp[k]);have k1:=m 1 (.int .u64 c) g[1] rfl (by simp[k]);have o:=iK k0;have p:=iK k1;refine⟨?_,b⟩;have:g= #[g[0],g[1]]:=by
   apply Array.ext;simp[k];intro i l _;match i,l with
   |0,_=>rfl
   |1,_=>rfl
   |i+2,l=>omega
  rw[this,o,p]
set_option maxHeartbeats 2000000 in
set_option maxRecDepth 100000 in
def ACd(w:World):Calls Tryz.prog 80 #[.string ⟨#[0]⟩,.int .i64 0] w λe a=>e= .returned (.string ⟨#[]⟩)/\Below w.heap.size w a:=by
 go_enter Tryz.func80,Tryz.ntmps80
 go_wp2
 go_ret
 exact⟨rfl,Below.refl _ _⟩
set_option maxHeartbeats 2000000 in
set_option maxRecDepth 100000 in
def ACe(w:World):Calls Tryz.prog 80 #[.string ⟨#[0]⟩,.int .i64 1] w λe a=>e= .returned (.string ⟨#[0]⟩)/\Below w.heap.size w a:=by
 go_enter Tryz.func80,Tryz.ntmps80
 go_wp2
 go_ret
 exact⟨rfl,Below.refl _ _⟩
set_option maxHeartbeats 4000000 in
set_option maxRecDepth 1000000 in
def AEj(c:Nat)(w:World)(U:2≤c)(T:c≤8000):
  Calls Tryz.prog 80 #[.string ⟨#[0]⟩,.int .i64 c] w λe B=>e= .returned (.string ⟨(List.replicate c (0:UInt8)).toArray⟩)/\Below w.heap.size w B:=by
 have i:=AEg c T w;go_enter Tryz.func80,Tryz.ntmps80;go_upto_block 1 with(go_at_call 127;go_fit i;rintro e f ⟨rfl,j⟩)
 clear i;have m:Below w.heap.size w (f.alloc (.cells #[.pointer none,.slice none 0 0] 199)):=j.alloc j.size _;have F:=ACa w.heap.size f.heap.size c (f.alloc (.cells #[.pointer none,.slice none 0 0] 199)) j.size (heap_alloc_new f _) m.size o!;go_wp2_with (go_at_call 129;go_fit F;rintro e P ⟨rfl,H,p⟩)
 clear F;have G:=W7 w.heap.size f.heap.size [] ⟨#[0]⟩ P (Lib.IsBuilderF.of (Or.inr H)) g! (EB m.size p.size);go_wp2_with (go_at_call 124;go_fit G;rintro e C ⟨rfl,s,E⟩)
 clear G H;have u:Lib.IsBuilderF 199 5 w.heap.size f.heap.size (Lib.byteCells (List.replicate 1 (0:UInt8))) C:=by rw[Cn,Lib.strCells_eq]at s;exact Or.inr s
 have o:Below w.heap.size w C:=m.trans (p.trans E);clear s m p E;go_loopg [] (c-1) (λg O=> ∃q:Nat,1<=q/\q+g=c/\Lib.IsBuilderF 199 5 w.heap.size f.heap.size (Lib.byteCells (List.replicate q (0:UInt8))) O/\Below w.heap.size w O)
 case atStart=>exact⟨1,Ai _,o!,u,o⟩
 case round=>
  obtain⟨q,V,Y,K,k⟩:=hrel;have b:=AEf w.heap.size f.heap.size _ wr K;rw[Lib.byteCells_length,I6]at b;have d:=sB w.heap.size f.heap.size (List.replicate q (0:UInt8)) wr K (λh=>by have:=congrArg List.length h;rw[I6,Bs]at this;omega);cases gk with
  |zero=>
   obtain rfl:q=c:=o!
   go_wp2_with (first
    |(go_at_call 130;go_fit b;rintro e B ⟨rfl,y⟩;rw[y])
    |(go_at_call 126;go_fit d;rintro e D ⟨rfl,I,n⟩))
   go_ret
   exact⟨rfl,k.trans n⟩
  |succ g=>
   obtain⟨a,l⟩: ∃a,min (c-q) q=a:=⟨_,rfl⟩
   have X:(q:Int)<c:=o!
   have x: ∀(N:Array TypeId) (t:TypeId) (W:World),(Builtin.min_ N t #[.int .i64 ((c:Int)-(q:Int)),.int .i64 (q:Int),.int .i64 (c:Int)]).run Tryz.prog W= .ok (.int .i64 (a:Int)) W:=λN t W=>by simp[Builtin.min_,Builtin.min2];omega
   have A:Aside (min (c-q) q=a/\a<=q):=⟨l,o!⟩
   have L:(a:Int)<=q:=o!
   clear l;obtain⟨S,v⟩: ∃S:ByteArray,(⟨(List.replicate q (0:UInt8)).toArray⟩:ByteArray)=S:=⟨_,rfl⟩
   rw[v]at d;have R:S.size=q:=by rw[<-v];simp[ByteArray.size]
   go_wp2_with (first
    |(go_at_call 130;go_fit b;rintro e B ⟨rfl,y⟩;rw[y])
    |(go_at_call 126;go_fit d;rintro e D ⟨rfl,I,n⟩))
   have M:(S.extract 0 a).data.toList=List.replicate a (0:UInt8):=by rw[Lib.extract_data,<-v];simp only[iS,Nat.sub_zero,List.take_replicate];rw[P8 A.out.2]
   have z:(S.extract 0 a).size=a:=by rw[Lib.size_eq,M,I6]
   have r:=W7 w.heap.size f.heap.size _ (S.extract 0 a) D I (by rw[Lib.byteCells_length,I6,z];have:=A.out.2;omega) (EB k.size n.size);go_wp2_with (go_at_call 124;go_fit r;rintro e Z ⟨rfl,J,Q⟩)
   go_roundg (c-(q+a))
   case measure=>have:=A.out.1;omega
   case rel=>refine⟨q+a,o!,by have:=A.out.1;omega,Or.inr ?_,k.trans (n.trans Q)⟩;rw[Lib.strCells_eq,<-Lib.byteCells_append,M,List.replicate_append_replicate]at J;exact J
def uw{a:Type}{b:Bool}{z y:a}(h:(bif b then some z else none)=some y):b=true/\z=y:=by cases b;cases h;exact⟨rfl,Bg h⟩
def AAe{a:Array Value}{l:List Value}(b:a.size=l.length)(h: ∀(j:Nat) (v c:Value),l[j]? =some v->a[j]? =some c->c=v):a=l.toArray:=by apply Array.ext;simpa using b;intro i d e;have:=h i l[i] a[i] k! k!;simpa using this
def jh:(RV.c0 78 [.str,(.int .i64),(.int .i64)] [.str] OH).Ok Tryz.prog:=by
 rintro⟨s,n,k⟩ y i H;obtain⟨h,rfl⟩:=uw i;simp only[BP,decide_eq_true_eq]at h;refine nY (args:=[.str s,.int .i64 n,.int .i64 k]) (v:=.str (s++Df n k.toNat)) (λw a g hr=>?_) H;have e:a= #[.string ⟨s.toArray⟩,.int .i64 n,.int .i64 k.toNat]:=AAe (l:=[.string ⟨s.toArray⟩,.int .i64 n,.int .i64 k.toNat]) g λj v c d f=>by
  match j,d with
  |0,d=>obtain⟨x,q⟩:=hr 0 _ c rfl f;cases d;exact wO q
  |1,d=>obtain⟨x,q⟩:=hr 1 _ c rfl f;cases d;exact iK q
  |2,d=>obtain⟨x,q⟩:=hr 2 _ c rfl f;cases d;rw[iK q,IH o!]
 rw[e];apply (AEi s n k.toNat w h.1 o!).mono;rintro e m ⟨rfl,b⟩;exact⟨_,rfl,λx=>.str _ rfl,b⟩
def SX:(RV.c0 80 [.str,(.int .i64)] [.str] Kj).Ok Tryz.prog:=by
 rintro⟨s,n⟩ y o H;obtain⟨h,rfl⟩:=uw o;simp only[BP,decide_eq_true_eq,beq_iff_eq]at h;obtain⟨rfl,h⟩:=h;refine nY (args:=[.str [0],.int .i64 n]) (v:=.str (List.replicate n.toNat 0)) (λw a m hr=>?_) H;have e:a= #[.string ⟨#[0]⟩,.int .i64 n.toNat]:=AAe (l:=[.string ⟨#[0]⟩,.int .i64 n.toNat]) m λj v c d g=>by
  match j,d with
  |0,d=>obtain⟨x,q⟩:=hr 0 _ c rfl g;cases d;exact wO q
  |1,d=>obtain⟨x,q⟩:=hr 1 _ c rfl g;cases d;rw[iK q,IH o!]
 rw[e];have key: ∀k:Nat,k<=8000->Calls Tryz.prog 80 #[.string ⟨#[0]⟩,.int .i64 k] w λe i=>e= .returned (.string ⟨(List.replicate k (0:UInt8)).toArray⟩)/\Below w.heap.size w i:=λk f=>by
  match k,f with
  |0,_=>exact ACd w
  |1,_=>exact ACe w
  |k+2,f=>exact AEj (k+2) w o! f
 apply (key n.toNat o!).mono;rintro e i ⟨rfl,b⟩;exact⟨_,rfl,λx=>.str _ rfl,b⟩
end Go.Proofs.YtimajmppopkomaaGreat
