/- That the code computes these functions; A layer over the model in which values are trees: its laws and a typed interpreter, part 12. Texts of the folder wip, laid in few files with shorter names by a program (wip/tools/pack.py); nothing is assumed. -/
import Derived.Test.YtimajmppopkomaaGreatK11
import Derived.Test.YtimajmppopkomaaGreatProg
import Derived.KernelRfl
noncomputable section
set_option linter.unusedVariables false
set_option linter.unusedSimpArgs false
set_option linter.unusedSectionVars false
set_option linter.defProp false
set_option linter.unnecessarySimpa false
set_option linter.deprecated false
namespace Go.Proofs.YtimajmppopkomaaGreat
open Go Go.Ab Go.Pm
abbrev A5(c:QY):Prop:=c.Ok Tryz.prog
set_option maxRecDepth 100000
def fu:A5 (.c0 170 [(.int .u64),(.int .u64)] [(.int .u64),(.int .u64)] Sp):=k0 [] B8
def ik:A5 (.c0 127 [(.int .u64),(.int .u64)] [(.int .u64),(.int .u64)] Ui):=k0 [] (A8 fu B8)
open Go.RowKit Go.Ab Go.Pm
def wa(n:Int){i:Nat}(h:i<8):IntKind.wrap .u64 n/2^(8*i)%256=((UInt8.ofNat (n/256^i%256).toNat).toNat:Int):=by
 have e:IntKind.wrap .u64 n/2^(8*i)%256=n/256^i%256:=by
  rw[u5,SN];have:i=0\/i=1\/i=2\/i=3\/i=4\/i=5\/i=6\/i=7:=by omega
  rcases this with h|h|h|h|h|h|h|h<;>rw[h];rw[show(256:Int)^0=1 by decide];omega;rw[show(256:Int)^1=256 by decide];omega;rw[show(256:Int)^2=65536 by decide];omega;rw[show(256:Int)^3=16777216 by decide];omega;rw[show(256:Int)^4=4294967296 by decide];omega;rw[show(256:Int)^5=1099511627776 by decide];omega;rw[show(256:Int)^6=281474976710656 by decide];omega;rw[show(256:Int)^7=72057594037927936 by decide];omega
 rw[e,UInt8.toNat_ofNat'];omega
def ACX(w:World):Lib.IsBuilderF 199 5 w.heap.size w.heap.size [] (w.alloc (.cells #[.pointer none,.slice none 0 0] 199)):=.inl ⟨Ag _,_,heap_alloc_new w _,World.ownsRowF_nil _ _ _ _,by simp[Value.ownBlock]⟩
set_option maxHeartbeats 2000000 in
set_option maxRecDepth 100000 in
def ACY(l:List UInt8)(n:Int)(k:Nat)(w:World)(G:l.length≤1099511627776)(F:1≤k∧k≤8):
  Calls Tryz.prog 78 #[.string ⟨l.toArray⟩,.int .i64 n,.int .i64 k] w λe D=>e= .returned (.string ⟨(l++D9 n k).toArray⟩)/\Below w.heap.size w D:=by
 have p:Below w.heap.size w (w.alloc (.cells #[.pointer none,.slice none 0 0] 199)):=(Below.refl _ w).alloc (Ag _) _;obtain⟨s,d⟩: ∃s:ByteArray,(⟨l.toArray⟩:ByteArray)=s:=⟨_,rfl⟩
 have b:s.size=l.length:=by rw[<-d];simp[ByteArray.size]
 have y:=Vs w.heap.size w.heap.size [] s _ (ACX w) (by rw[b,CT];omega) p.size;rw[d];have f:Lib.strCells s=Lib.byteCells l:=by rw[<-d,Lib.strCells_eq]
 have A:Aside ((⟨l.toArray⟩:ByteArray)=s/\s.size=l.length/\Lib.strCells s=Lib.byteCells l):=⟨d,b,f⟩
 clear d b f;go_enter Tryz.func78,Tryz.ntmps78;go_wp2_with (go_at_call 124;go_fit y;rintro e E ⟨rfl,z,u⟩)
 go_loopg [19] k (λg o r=> ∃i:Nat,i+g=k/\o= .int .i64 i/\Lib.IsBuilderF 199 5 w.heap.size w.heap.size (Lib.byteCells (l++D9 n i)) r/\Below w.heap.size w r)
 case atStart=>refine⟨0,by omega,rfl,.inr ?_,p.trans u⟩;have:=A.out.2.2;simpa[D9,this]using z
 case round=>
  obtain⟨i,B,rfl,q,a⟩:=hrel;cases gk with
  |zero=>
   obtain rfl:i=k:=by omega
   have x:=pL w.heap.size w.heap.size (l++D9 n i) wr q (λh=>by have:=congrArg List.length h;rw[Af,BB,CT]at this;omega);go_wp2_with (go_at_call 126;go_fit x;rintro e t ⟨rfl,m,j⟩)
   go_ret
   exact⟨rfl,a.trans j⟩
  |succ g=>
   have C:(i:Int)<k:=by omega
   have v:=λc=>qR w.heap.size w.heap.size _ c wr q (by rw[Lib.byteCells_length,Af,BB];omega) a.size;go_wp2_with (go_at_call 125;apply (v _).mono;rintro e t ⟨rfl,m,j⟩)
   go_roundg g
   case measure=>omega
   case rel=>refine⟨i+1,by omega,rfl,.inr ?_,a.trans j⟩;rw[wa n (by omega)]at m;rw[nk,<-A0,Lib.byteCells_append];exact m
def AAX(c:Nat)(h:c<=8000):Ui (1,(c:Int))=some (0,(c:Int)):=by
 have e:Int.fdiv (c:Int) 4294967296=0:=by rw[eZ _ (by omega)];omega
 have b:BitVec.toNat (BitVec.ofInt 64 (c:Int)&&&BitVec.ofInt 64 4294967295)=c:=by rw[BitVec.toNat_and,show BitVec.toNat (BitVec.ofInt 64 (c:Int))=c by rw[BitVec.toNat_ofInt];omega,show BitVec.toNat (BitVec.ofInt 64 4294967295)=2^32-1 by decide,Nat.and_two_pow_sub_one_eq_mod];omega
 have a:IntKind.wrap .u64 (c:Int)=c:=by rw[SN];omega
 have d:(2:Int)^(min (Int.toNat 32) 64)=4294967296:=by decide
 unfold Ui Sp;dsimp only;rw[d,e,b,a,show Int.fdiv 1 4294967296=0 by decide,show BitVec.toNat (BitVec.ofInt 64 1&&&BitVec.ofInt 64 4294967295)=1 by decide,show IntKind.wrap .u64 ((1:Nat):Int)=1 by decide];simp only[Int.zero_mul,Int.mul_zero,Int.one_mul,a,e,show IntKind.wrap .u64 0=0 by decide,Int.zero_add,Int.add_zero,show Int.fdiv 0 4294967296=0 by decide,AE];exact congrArg (λz=>some (z,(c:Int))) (by decide)
def ACW(c:Nat)(h:c<=8000)(w:World):Calls Tryz.prog 127 #[.int .u64 1,.int .u64 c] w λe n=>e= .returned (.tuple #[.int .u64 0,.int .u64 c])/\Below w.heap.size w n:=by
 have q:EQ Tryz.prog 127 [.int .u64 1,.int .u64 c] [] (Cr (.tup [.int .u64 0,.int .u64 c]) []):=ik (1,(c:Int)) (0,(c:Int)) (AAX c h) [];refine(XT q (w:=w) (cargs:= #[.int .u64 1,.int .u64 c]) rfl ?_).mono ?_;intro j v d a f;match j,a,f with
 |0,a,f=>simp at a f;subst a f;exact .int _ _
 |1,a,f=>simp at a f;subst a f;exact .int _ _
 |j+2,a,_=>simp at a
 rintro e n ⟨d,v,x,s,rfl,⟨rfl,_⟩,r,b⟩;cases r with
 |tup h m=>
  rename_i g;have k:g.size=2:=h;have k0:=m 0 (.int .u64 0) g[0] rfl (by simp[k]);have k1:=m 1 (.int .u64 c) g[1] rfl (by simp[k]);have o:=eV k0;have p:=eV k1;refine⟨?_,b⟩;have:g= #[g[0],g[1]]:=by
   apply Array.ext;simp[k];intro i l _;match i,l with
   |0,_=>rfl
   |1,_=>rfl
   |i+2,l=>omega
  rw[this,o,p]
set_option maxHeartbeats 2000000 in
set_option maxRecDepth 100000 in
def AAY(w:World):Calls Tryz.prog 80 #[.string ⟨#[0]⟩,.int .i64 0] w λe a=>e= .returned (.string ⟨#[]⟩)/\Below w.heap.size w a:=by
 go_enter Tryz.func80,Tryz.ntmps80
 go_wp2
 go_ret
 exact⟨rfl,Below.refl _ _⟩
set_option maxHeartbeats 2000000 in
set_option maxRecDepth 100000 in
def AAZ(w:World):Calls Tryz.prog 80 #[.string ⟨#[0]⟩,.int .i64 1] w λe a=>e= .returned (.string ⟨#[0]⟩)/\Below w.heap.size w a:=by
 go_enter Tryz.func80,Tryz.ntmps80
 go_wp2
 go_ret
 exact⟨rfl,Below.refl _ _⟩
set_option maxHeartbeats 4000000 in
set_option maxRecDepth 1000000 in
def ACZ(c:Nat)(w:World)(X:2≤c)(V:c≤8000):
  Calls Tryz.prog 80 #[.string ⟨#[0]⟩,.int .i64 c] w λe D=>e= .returned (.string ⟨(List.replicate c (0:UInt8)).toArray⟩)/\Below w.heap.size w D:=by
 have k:=ACW c V w;go_enter Tryz.func80,Tryz.ntmps80;go_upto_block 1 with(go_at_call 127;go_fit k;rintro e j ⟨rfl,l⟩)
 clear k;have o:Below w.heap.size w (j.alloc (.cells #[.pointer none,.slice none 0 0] 199)):=l.alloc l.size _;have H:=AAV w.heap.size j.heap.size c (j.alloc (.cells #[.pointer none,.slice none 0 0] 199)) l.size (heap_alloc_new j _) o.size (by omega);go_wp2_with (go_at_call 129;go_fit H;rintro e R ⟨rfl,J,s⟩)
 clear H;have I:=Vs w.heap.size j.heap.size [] ⟨#[0]⟩ R (Lib.IsBuilderF.of (Or.inr J)) (by decide) (EC o.size s.size);go_wp2_with (go_at_call 124;go_fit I;rintro e E ⟨rfl,v,G⟩)
 clear I J;have x:Lib.IsBuilderF 199 5 w.heap.size j.heap.size (Lib.byteCells (List.replicate 1 (0:UInt8))) E:=by rw[Cy,Lib.strCells_eq]at v;exact Or.inr v
 have r:Below w.heap.size w E:=o.trans (s.trans G);clear v o s G;go_loopg [] (c-1) (λg Q=> ∃q:Nat,1<=q/\q+g=c/\Lib.IsBuilderF 199 5 w.heap.size j.heap.size (Lib.byteCells (List.replicate q (0:UInt8))) Q/\Below w.heap.size w Q)
 case atStart=>exact⟨1,Ag _,by omega,x,r⟩
 case round=>
  obtain⟨q,Y,ad,M,m⟩:=hrel;have f:=ACV w.heap.size j.heap.size _ wr M;rw[Lib.byteCells_length,I6]at f;have i:=pL w.heap.size j.heap.size (List.replicate q (0:UInt8)) wr M (λh=>by have:=congrArg List.length h;rw[I6,CT]at this;omega);cases gk with
  |zero=>
   obtain rfl:q=c:=by omega
   go_wp2_with (first
    |(go_at_call 130;go_fit f;rintro e D ⟨rfl,B⟩;rw[B])
    |(go_at_call 126;go_fit i;rintro e F ⟨rfl,K,p⟩))
   go_ret
   exact⟨rfl,m.trans p⟩
  |succ g=>
   obtain⟨d,n⟩: ∃d,min (c-q) q=d:=⟨_,rfl⟩
   have Z:(q:Int)<c:=by omega
   have z: ∀(P:Array TypeId) (t:TypeId) (W:World),(Builtin.min_ P t #[.int .i64 ((c:Int)-(q:Int)),.int .i64 (q:Int),.int .i64 (c:Int)]).run Tryz.prog W= .ok (.int .i64 (d:Int)) W:=λP t W=>by simp[Builtin.min_,Builtin.min2];omega
   have A:Aside (min (c-q) q=d/\d<=q):=⟨n,by omega⟩
   have N:(d:Int)<=q:=by omega
   clear n;obtain⟨S,y⟩: ∃S:ByteArray,(⟨(List.replicate q (0:UInt8)).toArray⟩:ByteArray)=S:=⟨_,rfl⟩
   rw[y]at i;have U:S.size=q:=by rw[<-y];simp[ByteArray.size]
   go_wp2_with (first
    |(go_at_call 130;go_fit f;rintro e D ⟨rfl,B⟩;rw[B])
    |(go_at_call 126;go_fit i;rintro e F ⟨rfl,K,p⟩))
   have O:(S.extract 0 d).data.toList=List.replicate d (0:UInt8):=by rw[Lib.extract_data,<-y];simp only[fC,Nat.sub_zero,List.take_replicate];rw[PK A.out.2]
   have C:(S.extract 0 d).size=d:=by rw[Lib.size_eq,O,I6]
   have u:=Vs w.heap.size j.heap.size _ (S.extract 0 d) F K (by rw[Lib.byteCells_length,I6,C];have:=A.out.2;omega) (EC m.size p.size);go_wp2_with (go_at_call 124;go_fit u;rintro e W4 ⟨rfl,L,T⟩)
   go_roundg (c-(q+d))
   case measure=>have:=A.out.1;omega
   case rel=>refine⟨q+d,by omega,by have:=A.out.1;omega,Or.inr ?_,m.trans (p.trans T)⟩;rw[Lib.strCells_eq,<-Lib.byteCells_append,O,List.replicate_append_replicate]at L;exact L
def sD{a:Type}{b:Bool}{z y:a}(h:(bif b then some z else none)=some y):b=true/\z=y:=by cases b;cases h;exact⟨rfl,Cl h⟩
def yJ{a:Array Value}{l:List Value}(b:a.size=l.length)(h: ∀(j:Nat) (v c:Value),l[j]? =some v->a[j]? =some c->c=v):a=l.toArray:=by apply Array.ext;simpa using b;intro i d e;have:=h i l[i] a[i] (by simp) (by simp);simpa using this
def gM:(QY.c0 78 [.str,(.int .i64),(.int .i64)] [.str] Nl).Ok Tryz.prog:=by
 rintro⟨s,n,k⟩ y i H;obtain⟨h,rfl⟩:=sD i;simp only[BN,decide_eq_true_eq]at h;refine lG (args:=[.str s,.int .i64 n,.int .i64 k]) (v:=.str (s++D9 n k.toNat)) (λw a g hr=>?_) H;have e:a= #[.string ⟨s.toArray⟩,.int .i64 n,.int .i64 k.toNat]:=yJ (l:=[.string ⟨s.toArray⟩,.int .i64 n,.int .i64 k.toNat]) g λj v c d f=>by
  match j,d with
  |0,d=>obtain⟨x,q⟩:=hr 0 _ c rfl f;cases d;exact tn q
  |1,d=>obtain⟨x,q⟩:=hr 1 _ c rfl f;cases d;exact eV q
  |2,d=>obtain⟨x,q⟩:=hr 2 _ c rfl f;cases d;rw[eV q,LV (by omega)]
 rw[e];apply (ACY s n k.toNat w h.1 (by omega)).mono;rintro e m ⟨rfl,b⟩;exact⟨_,rfl,λx=>.str _ rfl,b⟩
def RV:(QY.c0 80 [.str,(.int .i64)] [.str] J9).Ok Tryz.prog:=by
 rintro⟨s,n⟩ y o H;obtain⟨h,rfl⟩:=sD o;simp only[BN,decide_eq_true_eq,beq_iff_eq]at h;obtain⟨rfl,h⟩:=h;refine lG (args:=[.str [0],.int .i64 n]) (v:=.str (List.replicate n.toNat 0)) (λw a m hr=>?_) H;have e:a= #[.string ⟨#[0]⟩,.int .i64 n.toNat]:=yJ (l:=[.string ⟨#[0]⟩,.int .i64 n.toNat]) m λj v c d g=>by
  match j,d with
  |0,d=>obtain⟨x,q⟩:=hr 0 _ c rfl g;cases d;exact tn q
  |1,d=>obtain⟨x,q⟩:=hr 1 _ c rfl g;cases d;rw[eV q,LV (by omega)]
 rw[e];have key: ∀k:Nat,k<=8000->Calls Tryz.prog 80 #[.string ⟨#[0]⟩,.int .i64 k] w λe i=>e= .returned (.string ⟨(List.replicate k (0:UInt8)).toArray⟩)/\Below w.heap.size w i:=λk f=>by
  match k,f with
  |0,_=>exact AAY w
  |1,_=>exact AAZ w
  |k+2,f=>exact ACZ (k+2) w (by omega) f
 apply (key n.toNat (by omega)).mono;rintro e i ⟨rfl,b⟩;exact⟨_,rfl,λx=>.str _ rfl,b⟩
end Go.Proofs.YtimajmppopkomaaGreat
