/- Texts of wip, joined and shortened by wip/tools/pack.py; nothing is assumed. -/
import Derived.Test.YtdjfjcnheopcdaaGreatDoorK8
import Derived.KernelRfl
noncomputable section
set_option linter.all false
namespace Go.Pm
open Go Go.Ab
def eV(c:BitVec 32):BitVec 32:=if c.getLsbD 0=true then(c>>>1)^^^2197175160#32 else c>>>1
def pH:Nat->BitVec 32->BitVec 32
 |0,c=>c
 |n+1,c=>eV (pH n c)
def yS(c:BitVec 32)(b:UInt8):BitVec 32:=pH 8 (c^^^BitVec.ofNat 32 b.toNat)
def AJI(s:BW):BitVec 32:=4294967295#32^^^s.foldl yS 4294967295#32
def WS(s:BW):Int:=((AJI s).toNat:Int)
def ACt(a b:BitVec 32):eV (a^^^b)=eV a^^^eV b:=by
 unfold eV;rw[BitVec.getLsbD_xor,BitVec.ushiftRight_xor_distrib];cases a.getLsbD 0<;>cases b.getLsbD 0<;>simp;grind;grind;have:a>>>1^^^2197175160#32^^^(b>>>1^^^2197175160#32)=(a>>>1^^^b>>>1)^^^(2197175160#32^^^2197175160#32):=by ac_rfl
 grind
theorem ABf: ∀(n:Nat) (a b:BitVec 32),pH n (a^^^b)=pH n a^^^pH n b
 |0,a,b=>rfl
 |n+1,a,b=>by rw[pH,pH,pH,ABf n,ACt]
def gd(s:BW):0<=WS s/\WS s<4294967296:=by unfold WS;omega
theorem bvI(c:BitVec 32):BitVec.ofInt 32 (c.toNat:Int)=c:=q!
theorem w32(c:BitVec 32):IntKind.wrap .u32 (c.toNat:Int)=(c.toNat:Int):=by rw[wX];omega
theorem fdN(c:BitVec 32)(k:Nat)(a:k<=32):Int.fdiv (c.toNat:Int) (2^(min (Int.toNat (k:Int)) 32))=((c>>>k).toNat:Int):=by rw[show min (Int.toNat (k:Int)) 32=k by omega,lL _ (by exact_mod_cast Bi (2^k)),BitVec.toNat_ushiftRight,Nat.shiftRight_eq_div_pow];grind
theorem fd1(c:BitVec 32):Int.fdiv (c.toNat:Int) (2^(min (Int.toNat 1) 32))=((c>>>1).toNat:Int):=by grind[fdN]
def fd4(c:BitVec 32):Int.fdiv (c.toNat:Int) (2^(min (Int.toNat 4) 32))=((c>>>4).toNat:Int):=by grind[fdN]
theorem AFl(c:BitVec 32):((IntKind.wrap .u32 (((BitVec.toNat ((BitVec.ofInt 32 (c.toNat:Int))&&&(BitVec.ofInt 32 1))):Nat):Int))==1)=c.getLsbD 0:=by grind[bvI,w32,BitVec.toNat_and,BitVec.ofInt]
def AGi(c:BitVec 32):(bif ((IntKind.wrap .u32 (((BitVec.toNat ((BitVec.ofInt 32 (c.toNat:Int))&&&(BitVec.ofInt 32 1))):Nat):Int))==1)then
     some (IntKind.wrap .u32 (((BitVec.toNat ((BitVec.ofInt 32 (Int.fdiv (c.toNat:Int) (2^(min (Int.toNat 1) 32))))^^^(BitVec.ofInt 32 2197175160))):Nat):Int))
    else
    some (Int.fdiv (c.toNat:Int) (2^(min (Int.toNat 1) 32))):Option Int)=some ((eV c).toNat:Int):=by grind[AFl,fd1,bvI,w32,eV]
def AHt(c:BitVec 32):AZ Hs ((c.toNat:Int),0)=some ((pH 8 c).toNat:Int):=by
 have key:Ar (AZ Hs ((c.toNat:Int),0)) λr=>r=((pH 8 c).toNat:Int):=by refine AV (λ(s:Int×Int)=>0<=s.2/\s.2<=8/\s.1=((pH s.2.toNat c).toNat:Int)) (λs=>(8-s.2).toNat) ⟨Ad _,d!,rfl⟩ ?_;rintro⟨g,a⟩ ⟨e,f,b⟩;dsimp only at e f b;subst b;refine AC (λd=>?_) (λd=>AB (by rw[show a.toNat=8 by omega]));rw[AGi,AD,AX];refine AB ⟨⟨o!,o!,?_⟩,o!⟩;rw[show(a+1).toNat=a.toNat+1 by omega];rfl
 obtain⟨r,hr,rfl⟩:=key;exact hr
def ADT(c:BitVec 32)(b:UInt8):IntKind.wrap .u32 (((BitVec.toNat ((BitVec.ofInt 32 (c.toNat:Int))^^^(BitVec.ofInt 32 (IntKind.wrap .u32 (b.toNat:Int))))):Nat):Int)=((c^^^BitVec.ofNat 32 b.toNat).toNat:Int):=by grind[IntKind.wrap,wX,bvI,w32]
def AEg{x:BW}{i:Int}(a:0<=i)(c:i<x.length): ∃b:UInt8,six x i=some (b.toNat:Int)/\x.take (i+1).toNat=x.take i.toNat++[b]:=by obtain⟨k,rfl⟩:=FF a;refine⟨x[k],?_,?_⟩;grind[six];simp_all
def wg{x:BW}(h:x.length<=2199023255552):Ek x=some (WS x):=by
 have key:Ar (AZ (Hr x) (4294967295,0)) λr=>r=((x.foldl yS 4294967295#32).toNat:Int):=by refine AV (λ(s:Int×Int)=>0<=s.2/\s.2<=x.length/\s.1=(((x.take s.2.toNat).foldl yS 4294967295#32).toNat:Int)) (λs=>((x.length:Int)-s.2).toNat) ⟨Ad _,d!,rfl⟩ ?_;rintro⟨f,g⟩ ⟨c,e,d⟩;dsimp only at c e d;subst d;unfold Hr;simp only[len];refine AC (λa=>?_) (λa=>AB (by rw[BK o!]));have⟨b,q1,q2⟩:=AEg c a;rw[q1,AD,ADT,AHt,AD,AX];refine AB ⟨⟨o!,o!,?_⟩,o!⟩;rw[q2,lS];rfl
 obtain⟨r,hr,rfl⟩:=key;unfold Ek;rw[hr,AD,bvI];rw[show(BitVec.ofInt 32 (if(false=true)then(-1)else(if(false=true)then((2^(32-1))-1)else((2^32)-1))))=4294967295#32 by decide,w32];rfl
def AJP{d:BitVec 32}(b:d.getLsbD 0=false)(c:d.getLsbD 1=false)(f:d.getLsbD 2=false)(g:d.getLsbD 3=false):pH 4 d=d>>>4:=by
 have st: ∀e:BitVec 32,e.getLsbD 0=false->eV e=e>>>1:=λe a=>by unfold eV;rw[if_neg (by rw[a];decide)]
 show eV (eV (eV (eV d)))=_;grind
def AHT(c:BitVec 32):(c>>>4)^^^pH 4 (c&&&15#32)=pH 4 c:=by
 have d:c=(c&&& ~~~15#32)^^^(c&&&15#32):=by apply vQ;intro i a;rw[BitVec.getLsbD_xor,BitVec.getLsbD_and,BitVec.getLsbD_and,BitVec.getLsbD_not];grind
 have e:pH 4 (c&&& ~~~15#32)=c>>>4:=by
  have z: ∀i,i<4->(c&&& ~~~15#32).getLsbD i=false:=λi a=>by
   have:i=0\/i=1\/i=2\/i=3:=o!
   grind
  rw[AJP (z 0 g!) (z 1 g!) (z 2 g!) (z 3 g!)];apply vQ;intro i a;have b:(15#32).getLsbD (4+i)=false:=by show(15#32).toNat.testBit (4+i)=false;grind
  grind
 grind[ABf]
def AHp(c:BitVec 32):AZ LD ((c.toNat:Int),0)=some ((pH 4 c).toNat:Int):=by
 have key:Ar (AZ LD ((c.toNat:Int),0)) λr=>r=((pH 4 c).toNat:Int):=by refine AV (λ(s:Int×Int)=>0<=s.2/\s.2<=4/\s.1=((pH s.2.toNat c).toNat:Int)) (λs=>(4-s.2).toNat) ⟨Ad _,d!,rfl⟩ ?_;rintro⟨g,a⟩ ⟨e,f,b⟩;dsimp only at e f b;subst b;refine AC (λd=>?_) (λd=>AB (by rw[show a.toNat=4 by omega]));rw[AGi,AD,AX];refine AB ⟨⟨o!,o!,?_⟩,o!⟩;rw[show(a+1).toNat=a.toNat+1 by omega];rfl
 obtain⟨r,hr,rfl⟩:=key;exact hr
def AC6(t:Fin (15+1)->(Ty.int IntKind.u32).D):Prop:= ∀j:Fin 16,t j=((pH 4 (BitVec.ofNat 32 j.val)).toNat:Int)
def AIk:Ar (Ks ()) AC6:=by refine AA (P:=AC6) ?_ λr hr=>AB hr;refine AV (λ(s:Int×(Fin (15+1)->(Ty.int IntKind.u32).D))=>0<=s.1/\s.1<=16/\ ∀j:Fin 16,(j.val:Int)<s.1->s.2 j=((pH 4 (BitVec.ofNat 32 j.val)).toNat:Int)) (λs=>(16-s.1).toNat) ⟨Ad _,g!,λj b=>absurd b d!⟩ ?_;rintro⟨h,i⟩ ⟨c,g,d⟩;refine AC (λa=>?_) (λa=>AB λj=>d j (by have:=j.isLt;omega));obtain⟨k,rfl⟩:=FF c;rw[(by grind[wX,BitVec.toNat_ofNat]:IntKind.wrap .u32 (k:Int)=((BitVec.ofNat 32 k).toNat:Int)),AHp,AD];refine AA (CM o! o!) λl e=>AA (CM o! o!) λm f=>AB ?_;grind[AX,XD]
def AEp{t:Fin (15+1)->(Ty.int IntKind.u32).D}(b:AC6 t)(c:BitVec 32):Fp t (IntKind.wrap .u32 (((BitVec.toNat ((BitVec.ofInt 32 (c.toNat:Int))&&&(BitVec.ofInt 32 15))):Nat):Int))=some ((pH 4 (c&&&15#32)).toNat:Int):=by
 rw[bvI,show BitVec.ofInt 32 15=15#32 by decide,w32];have a:(c&&&15#32).toNat<16:=by exact Nat.lt_succ_of_le Nat.and_le_right
 unfold Fp;rw[dif_pos o!];refine congrArg some ((b ⟨(c&&&15#32).toNat,a⟩).trans ?_);grind
def AIU(c:BitVec 32):IntKind.wrap .u32 (((BitVec.toNat ((BitVec.ofInt 32 (Int.fdiv (c.toNat:Int) (2^(min (Int.toNat 4) 32))))^^^(BitVec.ofInt 32 ((pH 4 (c&&&15#32)).toNat:Int)))):Nat):Int)=((pH 4 c).toNat:Int):=by rw[fd4,bvI,bvI,AHT,w32]
def ABe: ∀(m n:Nat) (c:BitVec 32),pH m (pH n c)=pH (m+n) c
 |0,n,c=>by rw[pH,D7]
 |m+1,n,c=>by rw[pH,ABe m n,Nat.succ_add];rfl
def xY{x:BW}(h:x.length<=2199023255552):On x=some (WS x):=by
 unfold On;have⟨t,f,a⟩:=AIk;rw[f,AD];have key:Ar (AZ (VJ x t) (4294967295,0)) λr=>r=((x.foldl yS 4294967295#32).toNat:Int):=by refine AV (λ(s:Int×Int)=>0<=s.2/\s.2<=x.length/\s.1=(((x.take s.2.toNat).foldl yS 4294967295#32).toNat:Int)) (λs=>((x.length:Int)-s.2).toNat) ⟨Ad _,d!,rfl⟩ ?_;rintro⟨i,j⟩ ⟨d,g,e⟩;dsimp only at d g e;subst e;unfold VJ;simp only[len];refine AC (λc=>?_) (λc=>AB (by rw[BK o!]));have⟨b,q1,q2⟩:=AEg d c;rw[q1,AD,ADT,AEp a,AD,AD,AIU,AEp a,AD,AD,AIU,AX];refine AB ⟨⟨o!,o!,?_⟩,o!⟩;rw[q2,lS,ABe];rfl
 obtain⟨r,hr,rfl⟩:=key;rw[hr,AD,bvI];rw[show(BitVec.ofInt 32 (if(false=true)then(-1)else(if(false=true)then((2^(32-1))-1)else((2^32)-1))))=4294967295#32 by decide,w32];rfl
set_option maxHeartbeats 400000
def jq(n:Nat):BW:=List.replicate n 0
def Ws(c:Cd):BW:=C5 (if c.1=true then(c.2.length:Int)else 255) 1++(c.2++jq (12-c.2.length))
def cl(a:GF 16 Cd)(i:Nat):Cd:=(Fp a i).getD (false,[])
def PF(a:GF 16 Cd)(k:Nat):BW:=(List.range k).flatMap λi=>Ws (cl a i)
def Kp(x:AU):BW:=C5 x.2.1 8++(C5 x.1 4++(PF x.2.2 16++jq 24))
def Hn(x:AU):BW:=Kp x++(C5 (WS (Kp x)) 4++C5 x.2.1 8)
def mc{a:GF 16 Cd}{i:Nat}(h:i<16):Fp a (i:Int)=some (cl a i)/\cl a i=a ⟨i,h⟩:=by
 have e:Fp a (i:Int)=some (a ⟨i,h⟩):=by unfold Fp;rw[dif_pos o!];rfl
 unfold cl;rw[e];exact⟨rfl,rfl⟩
theorem Q4(a:GF 16 Cd)(k:Nat):PF a (k+1)=PF a k++Ws (cl a k):=by unfold PF;rw[List.range_succ,YM,IA,pZ,D4]
def dN{c:Cd}(h:c.2.length<=12):(Ws c).length=13:=by unfold Ws jq;rw[Aa,Aa,Aw,Fz];omega
def G8.cl{x:AU}(h:G8 x)(i:Nat):IZ (cl x.2.2 i):=by rcases Au i 16 with a|a;rw[(mc a).2];exact(h.2.2.2.2 _).1;unfold Go.Pm.cl Fp;rw[dif_neg o!];exact⟨g!,.inr rfl⟩
theorem I3{x:AU}(h:G8 x): ∀k:Nat,(PF x.2.2 k).length=13*k
 |0=>rfl
 |k+1=>by rw[Q4,Aa,I3 h k,dN (h.cl k).1];omega
def Gn{x:AU}(h:G8 x):(Kp x).length=244:=by unfold Kp jq;simp only[Aa,Aw,I3 h,Fz]
theorem dQ{x:AU}(h:G8 x):(Hn x).length=256:=by unfold Hn;simp only[Aa,Aw,Gn h]
def VD{x:AU}:(Hn x).take 8=C5 x.2.1 8:=by unfold Hn Kp;rw[A6,EW (Aw _ _)]
def oQ{x:AU}(h:G8 x):(Hn x).drop 248=C5 x.2.1 8:=by unfold Hn;rw[<-A6,lQ (by rw[Aa,Gn h,Aw])]
def mZ(n:Nat):GX (List.replicate n 0)=jq n:=by unfold GX jq;rw[List.map_replicate];rfl
def xy{x:Int}(h:0<=x/\x<=16777216):Gr x=some (jq x.toNat):=by unfold Gr Go.Ab.mk;rw[if_pos ⟨h.1,Ad _,h.2⟩,AD,mZ]
def ni{s:BW}{n k:Int}(h:s.length<=1099511627776)(a:1<=k/\k<=8):Ar (Aj (s,(n,k))) λr=>r=s++C5 n k.toNat:=⟨_,HZ h a.1 a.2,rfl⟩
def sV{x:AU}(h:G8 x):Dn x=some 0:=by have⟨a,g,c⟩:=Lw (x:=x);have⟨b,i,d⟩:=OF (x:=x);have e:a=true:=c.2 ⟨h.1,h.2.1,h.2.2.1,h.2.2.2.1⟩;have f:b=true:=d.2 h.2.2.2.2;unfold Dn;rw[g,e,AD,i,f];rfl
theorem bu{x:AU}(h:G8 x):C2 x=some (Hn x,0):=by
 suffices g:Ar (C2 x) λr=>r=(Hn x,0) by obtain⟨r,hr,rfl⟩:=g;exact hr
 unfold C2;rw[sV h,AD];refine AK (λb=>absurd rfl b) λ_=>AA (ni g! g!) λL p=>AA (ni (by rw[p];simp[Aw]) g!) λG z=>?_;have w:G=C5 x.2.1 8++C5 x.1 4:=by rw[z,p];rfl
 refine AA (P:=λr=>r=C5 x.2.1 8++(C5 x.1 4++PF x.2.2 16)) ?_ λf d=>?_
 ·refine Cf (λ(s:BW×Int)=>0<=s.2/\s.2<=16/\s.1=C5 x.2.1 8++(C5 x.1 4++PF x.2.2 s.2.toNat)) (λ(s:BW×Int)=>(16-s.2).toNat) ⟨Ad _,u!,by rw[w];simp[PF]⟩ ?_;rintro⟨s,i⟩ ⟨u,C,g⟩;dsimp only at u C g;subst g;unfold Ry;dsimp only;refine AC (λb=>?_) (λb=>Ar.done (by rw[show i.toNat=16 by omega]));have⟨t,K⟩:=mc (a:=x.2.2) (i:=i.toNat) o!;rw[I1 u]at t;have b:=(h.cl i.toNat).1;simp only[t,AD,AX (x:=i+1)];have J:(C5 x.2.1 8++(C5 x.1 4++PF x.2.2 i.toNat)).length<=300:=by simp only[Aa,Aw,I3 h];omega
  refine AA (P:=λv=>v=if(cl x.2.2 i.toNat).1=true then((cl x.2.2 i.toNat).2.length:Int)else 255) ?_ λM A=>?_;exact AJ (λb=>AB (if_pos b).symm) (λb=>AB (if_neg (by rw[b];decide)).symm);refine AA (ni o! g!) λN q=>?_;have y:wi (12-len (cl x.2.2 i.toNat).2)=((12-(cl x.2.2 i.toNat).2.length:Nat):Int):=by rw[AX i!];simp only[len];omega
  rw[y,xy o!,AD,Ct];refine AA (Cm (by simp only[jq,Fz];omega)) λn c=>?_;have D:n.length<=24:=by rw[c.2];simp only[jq,Fz];omega
  refine AA (Cm (by rw[q,Aa,Aw];simp only[Int.reduceToNat];omega)) λF k=>Ar.next ⟨d!,d!,?_⟩ d!
  dsimp only;rw[k.1,c.1,q,A,show(i+1).toNat=i.toNat+1 by omega,Q4];simp only[Ws,A6,Int.reduceToNat]
 have E:f.length=220:=by rw[d];simp only[Aa,Aw,I3 h]
 rw[show wi (244-len f)=24 by rw[AX i!];simp only[len];omega,xy g!,AD];refine AA (Cm (by simp only[jq,Fz,Int.reduceToNat];omega)) λo l=>?_;have j:o=Kp x:=by rw[l.1,d];simp only[Kp,A6,Int.reduceToNat]
 rw[j,wg (by rw[Gn h];decide),AD];have B:=gd (Kp x);rw[AX];refine AA (ni (by rw[Gn h];decide) g!) λH e=>AA (ni (by rw[e,Aa,Gn h,Aw];decide) g!) λI m=>AB ?_;rw[m,e];simp only[Hn,A6,Int.reduceToNat]
def ACC{c d:Cd}(e:IZ c)(f:IZ d)(h:Ws c=Ws d):c=d:=by obtain⟨g,l⟩:=c;obtain⟨i,m⟩:=d;obtain⟨j,b⟩:=MF h (by rw[Aw,Aw]);have l1:=e.1;have l2:=f.1;dsimp only at l1 l2;have a:=aD (k:=1) g! ⟨λ_=>by dsimp only;split<;>omega,by dsimp only;split<;>omega,by dsimp only;split<;>omega⟩ ⟨λ_=>by dsimp only;split<;>omega,by dsimp only;split<;>omega,by dsimp only;split<;>omega⟩ j;dsimp only at a b;cases g<;>cases i;have:=e.2;have:=f.2;simp_all;exfalso;simp at a;omega;exfalso;simp at a;omega;simp at a;exact DT rfl (MF b o!).1
def tM{x y:AU}(a:G8 x)(b:G8 y): ∀k:Nat,PF x.2.2 k=PF y.2.2 k-> ∀i,i<k->cl x.2.2 i=cl y.2.2 i
 |0,_=>λi c=>absurd c o!
 |k+1,h=>by rw[Q4,Q4]at h;obtain⟨d,e⟩:=MF h (by rw[I3 a,I3 b]);intro i c;by_cases f:i=k;subst f;exact ACC (a.cl i) (b.cl i) e;exact tM a b k d i o!
theorem ADj{x y:AU}(a:G8 x)(b:G8 y)(h:Hn x=Hn y):x=y:=by obtain⟨h,_⟩:=MF h (by rw[Gn a,Gn b]);obtain⟨c,h⟩:=MF h (by rw[Aw,Aw]);obtain⟨d,h⟩:=MF h (by rw[Aw,Aw]);obtain⟨e,_⟩:=MF h (by rw[I3 a,I3 b]);have f:=a.1;have g:=a.2.1;have j:=a.2.2.1;have k:=a.2.2.2.1;have l:=b.1;have m:=b.2.1;have n:=b.2.2.1;have o:=b.2.2.2.1;refine DT (aD (by decide) ⟨λ_=>by omega,by omega,by omega⟩ ⟨λ_=>by omega,by omega,by omega⟩ d) (DT (aD (by decide) ⟨λ_=>by omega,by omega,by omega⟩ ⟨λ_=>by omega,by omega,by omega⟩ c) (funext λi=>?_));have:=tM a b 16 e i.val i.isLt;rw[(mc i.isLt).2,(mc i.isLt).2]at this;exact this
def uW{s:BW}{n k:Int}(h:s.length<=1099511627776)(a:1<=k/\k<=8):Om (s,(n,k))=some (s++C5 n k.toNat):=by grind[Om]
theorem AAi{n:Int}(h:0<=n/\n<=8000):Kj ([0],n)=some (jq n.toNat):=by unfold Kj;dsimp only;rw[decide_eq_true h.1,decide_eq_true h.2];rfl
theorem AAr{n:Int}{k:Nat}(hn:0<=n)(h:n<256^k)(a:n<9223372036854775808):rd (C5 n k)=n:=by unfold rd;grind[sM,Int.emod_eq_of_lt,AX]
def AFq{b:BW}{c:Cd}(h:b.length<=1000)(i:c.2.length<=12):J5 b c=some (b++Ws c):=by
 suffices e:Ar (J5 b c) λr=>r=b++Ws c by obtain⟨r,hr,rfl⟩:=e;exact hr
 unfold J5;refine AA (P:=λv=>v=if c.1=true then(c.2.length:Int)else 255) ?_ λj g=>?_;simp_all[AJ,AB];rw[uW o! g!,AD];refine AA (Cm (by rw[Aa,Aw];simp[Int.reduceToNat];omega)) λk d=>?_;rw[AX (by simp[len];omega),AAi (by simp[len];omega),AD];rw[(by simp only[len];omega:(12-len c.2).toNat=12-c.2.length)];refine AA (Cm (by rw[d.2,Aa,Aw];simp[jq,Fz,Int.reduceToNat];omega)) λf a=>AB ?_;grind[Ws,List.append_assoc,Int.reduceToNat]
def zO{x:Int}(h:0<=x/\x<64):Hp x=some true:=by grind[Hp]
def ACf{x:AU}(h:G8 x):Wh x=some true:=by unfold Wh;rw[zO ⟨h.1,h.2.1⟩,AD,decide_eq_true (show x.2.1>=0 from h.2.2.1),decide_eq_true h.2.2.2.1];rfl
def AEK{x:AU}(h:G8 x):VP x=some true:=by
 suffices e:Ar (VP x) λr=>r=true by obtain⟨r,hr,rfl⟩:=e;exact hr
 unfold VP;refine AA (P:=λr=>r= .inr ()) ?_ λr hr=>by rw[hr];exact A3 (AB rfl)
 refine Cf (λ(s:Int)=>0<=s/\s<=16) (λs=>(16-s).toNat) ⟨Ad _,g!⟩ (λs d=>?_);have⟨g,k⟩:=d;unfold jB;refine AC (λa=>?_) (λ_=>Ar.done rfl);have i:Ar (some (Step.next (wi (s+1))):Option (Step Int (Bool ⊕ Unit))) (MK (λ(s:Int)=>0<=s/\s<=16) (λs=>(16-s).toNat) (16-s).toNat λr=>r= .inr ()):=by grind[AX,Ar.next]
 refine AA (CM g a) λv f=>?_;have b:=h.2.2.2.2 ⟨s.toNat,o!⟩;rw[<-f]at b;refine AC (λa=>absurd a (by have:=b.1.1;simp[len];omega)) (λ_=>AM (λc=>?_) (λj=>?_));refine AK (λhn=>absurd (b.1.2.resolve_left (by rw[c];decide)) hn) (λ_=>AJ (λa=>by rw[c]at a;cases a) (λ_=>i));simp_all[AJ,AQ]
def ly{x:AU}(h:G8 x):NF x=some (Hn x,0):=by
 suffices c:Ar (NF x) λr=>r=(Hn x,0) by obtain⟨r,hr,rfl⟩:=c;exact hr
 unfold NF;rw[ACf h,AD,AEK h,AD,Cg,cond_false,cond_false,uW g! g!,AD,uW (by rw[Cp,Aw];decide) g!,AD];refine AA (P:=λr=>r=C5 x.2.1 8++(C5 x.1 4++PF x.2.2 16)) ?_ λb g=>?_
 ·refine Cf (λ(s:Int×N0)=>0<=s.1/\s.1<=16/\s.2=C5 x.2.1 8++(C5 x.1 4++PF x.2.2 s.1.toNat)) (λ(s:Int×N0)=>(16-s.1).toNat) ⟨Ad _,u!,by simp[PF]⟩ ?_;rintro⟨i,s⟩ ⟨f,m,c⟩;dsimp only at f m c;subst c;unfold di;dsimp only;refine AC (λk=>?_) (λk=>Ar.done (by rw[show i.toNat=16 by omega]));have⟨e,o⟩:=mc (a:=x.2.2) (i:=i.toNat) o!;rw[I1 f]at e;rw[e,AD,AFq (by simp[Aa,Aw,I3 h];omega) (h.cl i.toNat).1,AD,AX (x:=i+1)];refine Ar.next ⟨d!,d!,?_⟩ d!
  dsimp only;rw[show(i+1).toNat=i.toNat+1 by omega,Q4];simp[A6]
 have n:b.length=220:=by grind[List.length_append,Aw,I3]
 rw[show wi (244-len b)=24 by rw[AX (by simp[len];omega)];simp[len];omega,AAi g!,AD];refine AA (Cm (by simp[jq,Fz,Int.reduceToNat];omega)) λd j=>?_;rw[(by grind[Kp,List.append_assoc,Int.reduceToNat]:d=Kp x),xY (by rw[Gn h];decide),AD];have l:=gd (Kp x);rw[AX,uW (by rw[Gn h];decide) g!,AD,uW (by rw[Aa,Gn h,Aw];decide) g!,AD];grind[AB,Hn,List.append_assoc,Int.reduceToNat]
def tN(a:GF 16 Cd)(i:Nat): ∀k:Nat,i<=k-> ∃r,PF a k=PF a i++r
 |0,h=>⟨[],by rw[show i=0 by omega];rfl⟩
 |k+1,h=>by by_cases e:i=k+1;exact⟨[],by rw[e,D4]⟩;obtain⟨r,hr⟩:=tN a i k o!;exact⟨r++Ws (cl a k),by rw[Q4,hr,A6]⟩
def vg{x:AU}(h:G8 x){i:Nat}(a:i<16): ∃A r,Hn x=A++(Ws (cl x.2.2 i)++r)/\A.length=12+13*i:=by have⟨r,hr⟩:=tN x.2.2 (i+1) 16 o!;refine⟨C5 x.2.1 8++(C5 x.1 4++PF x.2.2 i),r++(jq 24++(C5 (WS (Kp x)) 4++C5 x.2.1 8)),?_,by simp[Aa,Aw,I3 h];omega⟩;grind[Hn,Kp,Q4,List.append_assoc]
def ABF{x a:GF 16 Cd}{i:Int}{c:Cd}(h: ∀j:Fin 16,a j=if(j.val:Int)<i then x j else(false,[]))(e:0<=i/\i<16)(d: ∀b,x ⟨i.toNat,b⟩=c): ∀j:Fin 16,XD a i c j=if(j.val:Int)<i+1 then x j else(false,[]):=by grind[XD,Fin.ext]
def yN{x a:GF 16 Cd}{i:Int}(h: ∀j:Fin 16,a j=if(j.val:Int)<i then x j else(false,[]))(d:0<=i/\i<16)(c: ∀b,x ⟨i.toNat,b⟩=(false,[])): ∀j:Fin 16,a j=if(j.val:Int)<i+1 then x j else(false,[]):=by grind[Fin.ext]
def xi{a t:BW}{n k:Int}(h:(a.length:Int)+t.length<=2199023255552)(b:1<=k)(d:k<=8)(e:k<=t.length)(g:t.take k.toNat=C5 n k.toNat)(hn:0<=n)(f:n<256^k.toNat)(c:n<9223372036854775808):Gz (a++t,((a.length:Int),k))=some n:=by grind[Gz,YF,AAr]
def AFw{x:AU}(h:G8 x):Wt (Hn x)=some (x,true):=by
 suffices C:Ar (Wt (Hn x)) λr=>r=(x,true) by obtain⟨r,hr,rfl⟩:=C;exact hr
 have l:=dQ h;have O:=h.1;have S:=h.2.1;have Q:=h.2.2.1;have T:=h.2.2.2.1;have q1:Gz (Hn x,(8,4))=some x.1:=by have:=xi (a:=C5 x.2.1 8) (t:=C5 x.1 4++(PF x.2.2 16++(jq 24++(C5 (WS (Kp x)) 4++C5 x.2.1 8)))) (n:=x.1) (k:=4) (by simp only[Aa,Aw,I3 h,jq,Fz];omega) g! g! (by simp[Aa,Aw];omega) (by exact EW (Aw _ _)) O (by simp[Int.reduceToNat];omega) o!;rw[Aw]at this;rw[<-this];simp only[Hn,Kp,A6];rfl
 have q2:Gz (Hn x,(0,8))=some x.2.1:=by have:=xi (a:=[]) (t:=Hn x) (n:=x.2.1) (k:=8) (by rw[l];decide) g! g! (by rw[l];decide) VD Q (by simp[Int.reduceToNat];omega) o!;exact this
 unfold Wt;rw[q1,AD,q2,AD];refine AA (P:=λr=> ∃z,r= .inr (x,z)) ?_ λr hr=>by obtain⟨z,rfl⟩:=hr;exact A3 (AB rfl)
 refine Cf (λ(s:Int×AU×AU)=>0<=s.1/\s.1<=16/\s.2.1.1=x.1/\s.2.1.2.1=x.2.1/\ ∀j:Fin 16,s.2.1.2.2 j=if(j.val:Int)<s.1 then x.2.2 j else(false,[])) (λ(s:Int×AU×AU)=>(16-s.1).toNat) ⟨Ad _,u!,rfl,rfl,λj=>by rw[if_neg d!];rfl⟩ ?_;rintro⟨i,⟨p,n,a⟩,z⟩ ⟨o,N,G,hn,f⟩;dsimp only at o N G hn f;subst G hn;unfold kg;dsimp only;refine AC (λg=>?_) (λg=>Ar.done ⟨z,?_⟩)
 ·rw[AX (x:=i*13),AX (x:=12+i*13),AX (x:=12+i*13+1),AX (x:=i+1)];have⟨R,m⟩:=mc (a:=x.2.2) (i:=i.toNat) o!;obtain⟨A,r,B,K⟩:=vg h (i:=i.toNat) o!;have b:=h.cl i.toNat
  generalize L:cl x.2.2 i.toNat=c at*;have F:A.length+(13+r.length)=256:=by have:=l;rw[B,Aa,Aa,dN b.1]at this;exact this
  have e:Gz (Hn x,(12+i*13,1))=some (if c.1=true then(c.2.length:Int)else 255):=by have y:=b.1;have:=xi (a:=A) (t:=Ws c++r) (n:=if c.1=true then(c.2.length:Int)else 255) (k:=1) (by rw[Aa,dN b.1];omega) g! g! (by rw[Aa,dN b.1];omega) (by unfold Ws;rw[List.append_assoc];exact List.take_left' (Aw _ _)) (by split<;>omega) (by simp[Int.reduceToNat];split<;>omega) (by split<;>omega);rw[<-B]at this;rw[<-this,K];congr 3;omega
  rw[e,AD];have H: ∀q:GF 16 Cd,(∀j:Fin 16,q j=if(j.val:Int)<i+1 then x.2.2 j else(false,[]))->Ar (some (Step.next (i+1,((x.1,(x.2.1,q)),z))):Option (Step (Int×AU×AU) ((Bool×AU)⊕ (AU×AU)))) (MK (λ(s:Int×AU×AU)=>0<=s.1/\s.1<=16/\s.2.1.1=x.1/\s.2.1.2.1=x.2.1/\ ∀j:Fin 16,s.2.1.2.2 j=if(j.val:Int)<s.1 then x.2.2 j else(false,[])) (λ(s:Int×AU×AU)=>(16-s.1).toNat) (16-i).toNat λr=> ∃z,r= .inr (x,z)):=λq w=>Ar.next ⟨d!,d!,rfl,rfl,w⟩ d!
  by_cases d:c.1=true;rw[if_pos d];have y:=b.1;rw[beq_eq_false_iff_ne.2 o!,cond_false,decide_eq_false o!,cond_false,AX];obtain⟨s,C,D⟩:=Co (s:=Hn x) (lo:=12+i*13+1) (hi:=12+i*13+1+(c.2.length:Int)) o! o! (by rw[l];omega);have E:s=c.2:=by
   rw[D.1,B];have I:(12+i*13+1).toNat=A.length+1:=o!
   have J:(12+i*13+1+(c.2.length:Int)).toNat-(12+i*13+1).toNat=c.2.length:=o!
   rw[J,I,<-MG,RZ];unfold Ws;rw[if_pos d,A6,lQ (Aw _ _),A6,Yb]
  rw[C,E,AD];have u: ∃v,Fp a i=some v:=by obtain⟨v,m,_⟩:=CM (a:=a) o g;exact⟨v,m⟩
  have⟨v,u⟩:=u;rw[u,AD,AD,AD,Sum.elim_inl];exact H _ (ABF f ⟨o,g⟩ λM=>m.symm.trans (DT d rfl));rw[if_neg d,beq_iff_eq.2 rfl,cond_true,AD,Sum.elim_inl];exact H _ (yN f ⟨o,g⟩ λM=>m.symm.trans (DT (by simpa using d) (b.2.resolve_left d)))
 refine congrArg Sum.inr (DT (DT rfl (DT rfl (funext λj=>?_))) rfl);exact(f j).trans (if_pos o!)
theorem ABR{x:AU}(h:G8 x)(hn:x.2.1≠0):Hn x≠jq 256:=λe=>hn (by have:=congrArg (List.take 8) e;rw[VD]at this;have a:=h.2.2.1;have b:=h.2.2.2.1;exact aD (k:=8) (by decide) ⟨λ_=>by omega,by omega,by omega⟩ ⟨λ_=>by omega,by omega,by omega⟩ (this.trans (by decide)))
theorem zI:Xy ()=some (jq 256):=by grind[Xy,AAi]
theorem ACa{x:AU}(h:G8 x)(hn:x.2.1≠0):P6 (Hn x)=some (x,0):=by
 have b:=dQ h;unfold P6;have⟨m,q1,d⟩:=Co (s:=Hn x) (lo:=0) (hi:=8) g! g! (by rw[b];decide);have⟨j,q2,e⟩:=Co (s:=Hn x) (lo:=248) (hi:=256) g! g! (by rw[b];decide);have⟨l,q3,f⟩:=Co (s:=Hn x) (lo:=0) (hi:=244) g! g! (by rw[b];decide);have g:j=C5 x.2.1 8:=by rw[e.1];show List.take 8 (List.drop 248 (Hn x))=_;rw[oQ h,BK (by rw[Aw];exact Am _)]
 have i:l=Kp x:=f.1.trans (by show List.take 244 (Hn x)=_;unfold Hn;exact EW (Gn h));have c:=gd (Kp x);have q4:Gz (Hn x,(244,4))=some (WS (Kp x)):=by have:=xi (a:=Kp x) (t:=C5 (WS (Kp x)) 4++C5 x.2.1 8) (n:=WS (Kp x)) (k:=4) (by simp only[Aa,Aw,Gn h];decide) g! g! (by simp only[Aa,Aw];decide) (EW (Aw _ _)) o! (by simp[Int.reduceToNat];omega) o!;rw[Gn h]at this;exact this
 rw[(by simp[len];omega:len (Hn x)=256),bne_self_eq_false,cond_false,zI,AD,beq_eq_false_iff_ne.2 (ABR h hn),cond_false,q1,AD,q2,AD,(d.1.trans VD),g,bne_self_eq_false,cond_false,q3,AD,i,q4,AD,xY (by rw[Gn h];decide),AD,AX,bne_self_eq_false,cond_false,AFw h,AD,ly h,AD,bne_self_eq_false,bne_self_eq_false];rfl
def dP(x:AU):BW:=if x.2.1=0 then jq 256 else Hn x
theorem AEF{x:AU}(h:G8 x)(a:x.2.1=0->x=(x.1,(0,GF.all (false,[])))):GD (dP x,x.1)=some (x,0):=by unfold GD dP;rw[zO ⟨h.1,h.2.1⟩,AD,Cg,cond_false];by_cases hn:x.2.1=0;rw[if_pos hn];rw[(by grind[P6,jq,List.length_replicate,zI]:P6 (jq 256)=some ((0,(0,(GF.all (false,[])))),7)),AD];exact congrArg (λq=>some (q,(0:Int))) (a hn).symm;grind[ACa]
def Ib(p:BW):BW:=C5 (p.length:Int) 4++(p++C5 (WS (C5 (p.length:Int) 4++p)) 4)
theorem FJ(p:BW):(Ib p).length=p.length+8:=by grind[Ib,List.length_append,Aw]
theorem bv{p:BW}(h:p.length<=8392):DB p=some (Ib p):=by
 unfold DB;simp only[len];rw[decide_eq_false o!,cond_false,HZ k! g! g!,AD,Cp];have b:(C5 (p.length:Int) 4++p).length=p.length+4:=by grind[List.length_append,Aw]
 rw[(by grind[sapp,Aw]:sapp (C5 (p.length:Int) (Int.toNat 4)) p=some (C5 (p.length:Int) 4++p)),AD,wg o!,AD];have a:=gd (C5 (p.length:Int) 4++p);rw[AX,HZ o! g! g!,AD,A6];rfl
def UF(al:Nat)(t:BW):BW×Int×Int:=
 if t.length<4 then([],0,5)else
 if rd (t.take 4)>8392 then([],0,2)else
 if(t.length:Int)<rd (t.take 4)+8 then([],0,5)else
 if rd ((t.drop (4+(rd (t.take 4)).toNat)).take 4)≠WS (t.take (4+(rd (t.take 4)).toNat))then([],0,3)else
 ((t.drop 4).take (rd (t.take 4)).toNat,(al:Int)+8+rd (t.take 4),0)
def rd4{t:BW}(h:4<=t.length):0<=rd (t.take 4)/\rd (t.take 4)<4294967296:=by
 have a:(t.take 4).length=4:=by rw[BM];omega
 have:=(AAq (l:=t.take 4) o!).1 o!;rw[a]at this;exact this
theorem TU{a t:BW}(h:(a.length:Int)+t.length<=2199023255552):Bo (a++t,(a.length:Int))=some (UF a.length t):=by
 have b:len (a++t)=(a.length:Int)+t.length:=by grind[List.length_append]
 have o:((a++t).length:Int)=(a.length:Int)+t.length:=b;unfold Bo UF;dsimp only;rw[decide_eq_false o!,cond_false,decide_eq_false o!,cond_false,js h g! g!];by_cases g:t.length<4;rw[if_neg o!,if_pos g];rfl;rw[if_pos o!,if_neg g,AD,show Int.toNat 4=4 from rfl];have⟨p,u⟩:=rd4 (t:=t) o!;generalize hn:rd (t.take 4)=n at*;obtain⟨m,rfl⟩:=FF p;rw[show((0:Int) !=0)=false by decide,cond_false];by_cases d:(m:Int)>8392;rw[decide_eq_true d,cond_true,if_pos d];rw[decide_eq_false d,cond_false,if_neg d,b,AX,AX];by_cases i:(t.length:Int)<(m:Int)+8;rw[decide_eq_true o!,cond_true,if_pos i];rw[decide_eq_false o!,cond_false,if_neg i,Ct];have f:wi (wi ((a.length:Int)+4)+(m:Int))=((a++t.take (4+m)).length:Int):=by rw[AX (x:=(a.length:Int)+4),AX,Aa,BM];omega
 have j:a++t=(a++t.take (4+m))++t.drop (4+m):=by rw[A6,Da]
 have s:((t.drop (4+m)).length:Int)=t.length-(4+m):=by rw[FY];omega
 have c:((a++t.take (4+m)).length:Int)=a.length+4+m:=by rw[Aa,BM];omega
 have l:Av (a++t,(wi (wi ((a.length:Int)+4)+(m:Int)),4))=some (rd ((t.drop (4+m)).take 4),0):=by
  rw[f];conv=>lhs;rw[j]
  rw[js o! g! g!,if_pos o!];rfl
 have q:Up (a++t) (a.length:Int) (wi (wi ((a.length:Int)+4)+(m:Int)))=some (t.take (4+m)):=by unfold Up;rw[f,if_pos o!,c,Ct,RZ,show((a.length:Int)+4+m).toNat-a.length=4+m by omega]
 have r:Up (a++t) (wi ((a.length:Int)+4)) (wi (wi ((a.length:Int)+4)+(m:Int)))=some ((t.drop 4).take m):=by unfold Up;rw[f,AX (x:=(a.length:Int)+4),if_pos o!,c,show((a.length:Int)+4).toNat=a.length+4 by omega,cC,YK o!,Cp,Yc,show((a.length:Int)+4+m).toNat-(a.length+4)=m by omega]
 rw[l,AD,q,AD,wg (by rw[BM];omega),AD,r];have⟨q1,q2⟩:=rd4 (t:=t.drop (4+m)) o!;have k:IntKind.wrap .u32 (rd ((t.drop (4+m)).take 4))=rd ((t.drop (4+m)).take 4):=by rw[wX];omega
 rw[k];by_cases e:rd ((t.drop (4+m)).take 4)=WS (t.take (4+m));rw[if_neg (by simp[e]),e,bne_self_eq_false,cond_false,AD,AX (x:=(a.length:Int)+8),AX];rw[if_pos e,bne_iff_ne.2 e,cond_true]
theorem AEE{x:BW}{i:Int}(a:0<=i)(h:i>x.length):Bq (x,(i,4))=some (0,5):=by grind[Bq]
theorem W6{a t:BW}(h:(a.length:Int)+t.length<=2199023255552):DX (a++t,(a.length:Int))=some (UF a.length t):=by
 have f:len (a++t)=(a.length:Int)+t.length:=by grind[List.length_append]
 have p:((a++t).length:Int)=(a.length:Int)+t.length:=f;unfold DX UF;dsimp only;rw[decide_eq_false o!,cond_false,decide_eq_false o!,cond_false,YF h g! g!];by_cases i:t.length<4;rw[if_neg o!,if_pos i];rfl;rw[if_pos o!,if_neg i,AD,show Int.toNat 4=4 from rfl];have⟨q,w⟩:=rd4 (t:=t) o!;generalize hn:rd (t.take 4)=n at*;obtain⟨m,rfl⟩:=FF q;rw[show((0:Int) !=0)=false by decide,cond_false];by_cases d:(m:Int)>8392;rw[decide_eq_true d,cond_true,if_pos d];rw[decide_eq_false d,cond_false,if_neg d];have k:wi (wi ((a.length:Int)+4)+(m:Int))=(a.length:Int)+4+m:=by grind[AX]
 by_cases j:(t.length:Int)<(m:Int)+8;rw[if_pos j];have:Bq (a++t,(wi (wi ((a.length:Int)+4)+(m:Int)),4))=some (0,5):=by
  rw[k];by_cases v:(a.length:Int)+4+m>(a++t).length;grind[AEE];have c:(a.length:Int)+4+m=((a++t.take (4+m)).length:Int):=by grind[List.length_append,List.length_take]
  have g:a++t=(a++t.take (4+m))++t.drop (4+m):=by rw[A6,Da]
  grind[List.length_drop,YF]
 rw[this];rfl;rw[if_neg j,Ct];have c:wi (wi ((a.length:Int)+4)+(m:Int))=((a++t.take (4+m)).length:Int):=by grind[List.length_append,List.length_take]
 have g:a++t=(a++t.take (4+m))++t.drop (4+m):=by rw[A6,Da]
 have u:((t.drop (4+m)).length:Int)=t.length-(4+m):=by rw[FY];omega
 have b:((a++t.take (4+m)).length:Int)=a.length+4+m:=by rw[Aa,BM];omega
 have l:Bq (a++t,(wi (wi ((a.length:Int)+4)+(m:Int)),4))=some (rd ((t.drop (4+m)).take 4),0):=by
  rw[c];conv=>lhs;rw[g]
  rw[YF o! g! g!,if_pos o!];rfl
 have r:Up (a++t) (a.length:Int) (wi (wi ((a.length:Int)+4)+(m:Int)))=some (t.take (4+m)):=by unfold Up;rw[c,if_pos o!,b,Ct,RZ,show((a.length:Int)+4+m).toNat-a.length=4+m by omega]
 have s:Up (a++t) (wi ((a.length:Int)+4)) (wi (wi ((a.length:Int)+4)+(m:Int)))=some ((t.drop 4).take m):=by unfold Up;rw[c,AX (x:=(a.length:Int)+4),if_pos o!,b,show((a.length:Int)+4).toNat=a.length+4 by omega,cC,YK o!,Cp,Yc,show((a.length:Int)+4+m).toNat-(a.length+4)=m by omega]
 rw[l,AD,show(((rd ((t.drop (4+m)).take 4),(0:Int)):Int×Int).2 !=0)=false from rfl,cond_false,r,AD,xY (by rw[BM];omega),AD,s];have o:=gd (t.take (4+m));rw[AX (x:=WS (t.take (4+m)))];by_cases e:rd ((t.drop (4+m)).take 4)=WS (t.take (4+m));rw[if_neg (by simp[e]),e,bne_self_eq_false,cond_false,AD,k,AX];refine congrArg some (DT rfl (DT ?_ rfl));dsimp only;omega;rw[if_pos e,bne_iff_ne.2 e,cond_true]
def yI{a:Nat}{t:BW}(h:(UF a t).2.2=0):(UF a t).1.length<=8392/\(∃c,t=Ib (UF a t).1++c)/\(UF a t).2.1=(a:Int)+8+(UF a t).1.length:=by
 unfold UF at h⊢;by_cases j:t.length<4;rw[if_pos j]at h;exact absurd h g!;rw[if_neg j]at h⊢;obtain⟨q,r⟩:=rd4 (t:=t) o!;by_cases k:rd (t.take 4)>8392;rw[if_pos k]at h;exact absurd h g!;rw[if_neg k]at h⊢;by_cases o:(t.length:Int)<rd (t.take 4)+8;rw[if_pos o]at h;exact absurd h g!;rw[if_neg o]at h⊢;by_cases b:rd ((t.drop (4+(rd (t.take 4)).toNat)).take 4)≠WS (t.take (4+(rd (t.take 4)).toNat));rw[if_pos b]at h;exact absurd h g!;rw[if_neg b]at h⊢;have b:=Decidable.not_not.1 b;dsimp only;have e:(t.take 4).length=4:=by rw[BM];omega
 have g:C5 (rd (t.take 4)) 4=t.take 4:=by have:=xP (l:=t.take 4) o!;rwa [e]at this
 generalize hn:rd (t.take 4)=n at*;obtain⟨m,rfl⟩:=FF q;rw[Ct]at b⊢;have i:((t.drop 4).take m).length=m:=by rw[BM,FY];omega
 refine⟨o!,?_,o!⟩;have p:t.take (4+m)=C5 (m:Int) 4++(t.drop 4).take m:=by rw[List.take_add,g]
 have f:((t.drop (4+m)).take 4).length=4:=by rw[BM,FY];omega
 have d:C5 (WS (t.take (4+m))) 4=(t.drop (4+m)).take 4:=by rw[<-b];have:=xP (l:=(t.drop (4+m)).take 4) o!;rwa [f]at this
 refine⟨t.drop (4+m+4),?_⟩;unfold Ib;rw[i,<-p,d,<-A6,<-p];conv=>lhs;rw[<-Da (4+m) t,<-Da 4 (t.drop (4+m)),MG]
 rw[A6]
theorem jy{c:Nat}{p a:BW}(h:p.length<=8392):UF c (Ib p++a)=(p,((c:Int)+8+p.length,0)):=by
 have d:ej 4 (p.length:Int):=⟨λ_=>⟨o!,by rw[show(256:Int)^4=4294967296 by decide];omega⟩,o!⟩
 have e:=gd (C5 (p.length:Int) 4++p);have b:ej 4 (WS (C5 (p.length:Int) 4++p)):=⟨λ_=>⟨o!,by rw[show(256:Int)^4=4294967296 by decide];omega⟩,o!⟩
 unfold UF;rw[(by grind[Ib,List.append_assoc,List.take_left',Aw]:(Ib p++a).take 4=C5 (p.length:Int) 4),(qh g! d),Ct,(by grind[Ib,List.append_assoc,List.take_left',List.length_append,Aw]:(Ib p++a).take (4+p.length)=C5 (p.length:Int) 4++p),(by grind[Ib,List.append_assoc,List.drop_left',List.length_append,Aw]:(Ib p++a).drop (4+p.length)=C5 (WS (C5 (p.length:Int) 4++p)) 4++a),(by grind[Ib,List.append_assoc,List.drop_left',Aw]:(Ib p++a).drop 4=p++(C5 (WS (C5 (p.length:Int) 4++p)) 4++a)),(by rw[Aa,(FJ p)]:(Ib p++a).length=p.length+8+a.length),if_neg o!,if_neg o!,if_neg o!,EW (Aw _ _),qh g! b,if_neg k!,EW rfl]
def XU{x:BW×List Int}{s:BW×Int}(h:0<=s.2/\s.2<=x.2.length/\x.2.length<=16777216/\x.1.length<=1073741824/\(s.1.length:Int)<=x.1.length+8*s.2):Ar (AZ (K1 x) s) λr=>(r.length:Int)<=x.1.length+8*x.2.length:=by
 refine AV (λ(s:BW×Int)=>0<=s.2/\s.2<=x.2.length/\x.2.length<=16777216/\x.1.length<=1073741824/\(s.1.length:Int)<=x.1.length+8*s.2) (λ(s:BW×Int)=>((x.2.length:Int)-s.2).toNat) h (λs b=>?_);unfold K1;exact x!
def Zq{x:BW×List Int}(h:x.2.length<=16777216/\x.1.length<=1073741824):Ar (HP x) λr=>(r.length:Int)<=x.1.length+8*x.2.length:=by
 unfold HP;exact x!
def X9{x:List Ai}{s:BW×Int}(h:0<=s.2/\s.2<=x.length/\ZQ x/\(s.1.length:Int)<=10+40000*s.2):Ar (AZ (L6 x) s) λr=>(r.length:Int)<=10+40000*x.length:=by
 refine AV (λ(s:BW×Int)=>0<=s.2/\s.2<=x.length/\ZQ x/\(s.1.length:Int)<=10+40000*s.2) (λ(s:BW×Int)=>((x.length:Int)-s.2).toNat) h (λs c=>?_);unfold L6;have⟨e,f,⟨b,a⟩,g⟩:=c;repeat' with_reducible first|intro d|apply AC|apply AJ|apply AB|(refine AL ?_ (DE ?_);intro r hr)|(refine AL ?_ (Zq ?_);intro r hr)|(refine AL ?_ (AI ?_ ?_);rintro r ⟨hr,i⟩)
 all_goals try (have j:=a _ _ v!)
 all_goals try unfold VTx at*
 all_goals dsimp[len]at*
 all_goals first|omega|(refine⟨⟨?_,?_,⟨b,a⟩,?_⟩,?_⟩<;>(simp (disch:=omega) only[AX];omega))|grind
def Sy{x:List Ai}:Ar (KQ x) λr=>r.1.length<=16777216:=by
 unfold KQ;repeat' with_reducible first|intro a|apply AM|apply AJ|apply AB|(apply AA (Dl);intro r hr)|(refine AL ?_ (DE ?_);intro r hr)|(refine AL ?_ (X9 ?_);intro r hr)
 all_goals ((try dsimp[len]at*);(try first|omega|assumption|grind[ZQ]))
def CJ(b:B4):Prop:=b.1.length<=1099511627776/\0<=b.2.1/\b.2.1<=b.1.length
def Fw{b:B4}{x:Int}(h:CJ b)(c:0<=x/\x<=8):Ar (CN b x) λr=>CJ r.2/\(x<=2->0<=r.1/\r.1<65536):=by
 unfold CN;unfold CJ at*
 exact x!
def VU  {s:Int×List Int×B4}(h:0<=s.1/\s.1+s.2.1.length<=65536/\CJ s.2.2):Ar (AZ (I5) s) λr=>CJ r.2/\r.1.length<=65536:=by
 refine AV (λ(s:Int×List Int×B4)=>0<=s.1/\s.1+s.2.1.length<=65536/\CJ s.2.2) (λ(s:Int×List Int×B4)=>s.1.toNat) h (λs c=>?_);unfold I5;exact x!
def Ww{b:B4}{x:Int}(h:CJ b)(a:0<=x/\x<=2):Ar (Fo b x) λr=>CJ r.2:=by
 unfold Fo;exact x!
def X8  {s:Int×List Ai×B4}(h:0<=s.1/\s.1+s.2.1.length<=65536/\CJ s.2.2):Ar (AZ (L5) s) λr=>CJ r.2/\r.1.length<=65536:=by
 refine AV (λ(s:Int×List Ai×B4)=>0<=s.1/\s.1+s.2.1.length<=65536/\CJ s.2.2) (λ(s:Int×List Ai×B4)=>s.1.toNat) h (λs c=>?_);unfold L5;exact x!
def Sx{x:BW}(h:x.length<=1099511627776):Ar (KO x) λr=>r.1.length<=65536/\(r.2=0->ZQ r.1):=by
 unfold KO;have b:CJ (x,0,false):=⟨h,k!,k!⟩
 exact x!
def X7{x:BV}{s:BW×Int}(h:0<=s.2/\s.2<=x.length/\x.length<=64/\(s.1.length:Int)<=10+24*s.2):Ar (AZ (IR x) s) λr=>r.length<=2000:=by
 refine AV (λ(s:BW×Int)=>0<=s.2/\s.2<=x.length/\x.length<=64/\(s.1.length:Int)<=10+24*s.2) (λ(s:BW×Int)=>((x.length:Int)-s.2).toNat) h (λs b=>?_);unfold IR;exact x!
def Sw{x:BV}:Ar (Hy x) λr=>r.1.length<=2000:=by
 unfold Hy;repeat' with_reducible first|intro a|apply AM|apply AJ|apply AB|(apply AA (Fu);intro r hr)|(refine AL ?_ (DE ?_);intro r hr)|(refine AL ?_ (X7 ?_);intro r hr)
 all_goals ((try dsimp[len]at*);(try first|omega|assumption|grind[mo]))
def X6{x:BW}{a:Int×Int}{s:Int×List BX}(h:0<=s.1/\s.1<=a.1/\a.1<=65536/\x.length<=1099511627776/\s.2.length<=s.1):Ar (AZ (IQ x a) s) λr=>r.length<=65536:=by
 refine AV (λ(s:Int×List BX)=>0<=s.1/\s.1<=a.1/\a.1<=65536/\x.length<=1099511627776/\s.2.length<=s.1) (λ(s:Int×List BX)=>(a.1-s.1).toNat) h (λs d=>?_);unfold IQ;exact x!
def Sv{x:BW}(h:x.length<=1099511627776):Ar (ES x) λr=>(r.2=0->mo r.1)/\r.1.length<=65536:=by
 unfold ES;exact x!
def RI{x:CI}{s:Int}(h:0<=s/\s<=x.2.2.1.length/\(x.2.2.1.length:Int)<=16777216):Ar (AZ (Nf x) s) λr=>r≠ .inl true:=by
 refine AV (λ(s:Int)=>0<=s/\s<=x.2.2.1.length/\(x.2.2.1.length:Int)<=16777216) (λ(s:Int)=>((x.2.2.1.length:Int)-s).toNat) h (λs b=>?_);unfold Nf;exact x!
def sm(x:CI):Prop:=1<=x.1/\x.1<=64/\ZQ x.2.2.1/\mo x.2.2.2.2/\x.2.2.2.2.length=x.1
def OU{x:CI}(h:x.2.2.2.1.length<=16777216):Ar (Gv x) λr=>r=true->sm x:=by
 unfold Gv sm
 repeat' first
   |with_reducible apply AC<;>intro a
   |with_reducible apply AM<;>intro a
   |with_reducible apply AK<;>intro a
   |(with_reducible apply BA<;>(intro u b;try subst b))
   |with_reducible apply AB
   |(with_reducible apply AA (Dl);intro r hr)
   |(with_reducible refine AL ?_ (Px ?_);intro r hr)
   |(with_reducible apply AA (Fu);intro r hr)
   |(with_reducible refine AL ?_ (RI ?_);intro r hr)
 all_goals ((try dsimp[len]at*);(try first|omega|assumption|grind[ZQ]))
def YC{x:CI}{s:BW×Int}(h:0<=s.2/\s.2<=x.2.2.2.1.length/\x.2.2.2.1.length<=16777216/\(s.1.length:Int)<=100000000+24*s.2):Ar (AZ (IU x) s) λr=>r.length<=1073741824:=by
 refine AV (λ(s:BW×Int)=>0<=s.2/\s.2<=x.2.2.2.1.length/\x.2.2.2.1.length<=16777216/\(s.1.length:Int)<=100000000+24*s.2) (λ(s:BW×Int)=>((x.2.2.2.1.length:Int)-s.2).toNat) h (λs b=>?_);unfold IU;exact x!
def bf{x:CI}(h:x.2.2.2.1.length<=16777216):Ar (GR x) λr=>r.1.length<=2147483648:=by
 unfold GR;exact x!
def Ze(c:Cd):BW:=bif c.1 then C5 (c.2.length:Int) 1++c.2 else C5 255 1
def B9(e:AE):BW:=
 C5 e.1 8++(C5 e.2.1 1++(C5 e.2.2.1 4++(C5 e.2.2.2.1 8++(C5 e.2.2.2.2.1 8++(C5 e.2.2.2.2.2.1 8++(C5 e.2.2.2.2.2.2.1.1 4++(C5 e.2.2.2.2.2.2.1.2.1 1++
 (Ze e.2.2.2.2.2.2.1.2.2.1++(Ze e.2.2.2.2.2.2.1.2.2.2++(C5 (e.2.2.2.2.2.2.2.length:Int) 4++e.2.2.2.2.2.2.2))))))))))
theorem tS{c:Cd}(h:IZ c):(Ze c).length<=13:=by
 unfold Ze;cases c.1 with
 |true=>rw[cond_true,Aa,Aw];have:=h.1;omega
 |false=>grind[Aw]
def ABL{s:BW}{c:Cd}(h:s.length<=1099511627776)(a:c.2.length<=8192):F3 (s,c)=some (s++Ze c):=by grind[F3,Ze,Bool.not_false,HZ,Bool.not_true,sapp,C5,Int.toNat,List.length_append,Aw,List.append_assoc]
def ML.cells{e:AE}(h:ML e):IZ e.2.2.2.2.2.2.1.2.2.1/\IZ e.2.2.2.2.2.2.1.2.2.2/\e.2.2.2.2.2.2.2.length<=8192/\ej 8 e.1/\ej 1 e.2.1/\ej 4 e.2.2.1/\ej 8 e.2.2.2.1/\ej 8 e.2.2.2.2.1/\ej 8 e.2.2.2.2.2.1/\ej 4 e.2.2.2.2.2.2.1.1/\ej 1 e.2.2.2.2.2.2.1.2.1:=by
 have⟨a1,a2,a3,a4,a5,a6,a7,a8,j⟩:=h;have i8: ∀n:Int,0<=n->n<=1099511627776->ej 8 n:=λn k l=>⟨n!,o!⟩
 have o: ∀n:Int,0<=n->n<=1073741824->ej 4 n:=λn k l=>⟨λ_=>by rw[show(256:Int)^4=4294967296 by decide];omega,o!⟩
 have m: ∀n:Int,0<=n->n<=255->ej 1 n:=λn k l=>⟨λ_=>by rw[show(256:Int)^1=256 by decide];omega,o!⟩
 have z:IZ (false,[]):=⟨g!,.inr rfl⟩
 refine and_assoc.1 (and_assoc.1 ⟨?_,i8 _ o! o!,?_⟩);rcases j with⟨k1,f,d,g,c,a⟩|⟨k1,f,d,g,c,a,i,b⟩|⟨k1,f,d,g,c,a,i,b⟩|⟨k1,f,d,g,c,a,i⟩|j;exact⟨⟨a.2.2.2.2.1,a.2.2.2.2.2⟩,by rw[d];decide⟩;exact⟨⟨b.2.2.2.2.1,b.2.2.2.2.2⟩,by rw[c];decide⟩;rw[c,a];exact⟨⟨z,z⟩,g!⟩;rw[a];exact⟨⟨z,z⟩,i⟩;have⟨k1,f,d,g,c,a,i,b⟩:=j;rw[i,b];exact⟨⟨z,z⟩,g!⟩;have p:1<=e.2.1/\e.2.1<=8/\0<=e.2.2.1/\e.2.2.1<=1073741824/\0<=e.2.2.2.2.2.2.1.1/\e.2.2.2.2.2.2.1.1<64/\0<=e.2.2.2.2.2.2.1.2.1/\e.2.2.2.2.2.2.1.2.1<16:=by rcases j with⟨k1,f,d,g,c,a⟩|⟨k1,f,d,g,c,a,i,b⟩|⟨k1,f,d,g,c,a,i,b⟩|⟨k1,f,d,g,c,a,i⟩|j;have:=a.1;have:=a.2.1;have:=a.2.2.1;have:=a.2.2.2.1;omega;have:=b.1;have:=b.2.1;have:=b.2.2.1;have:=b.2.2.2.1;omega;grind[QO];grind[QO];grind[QO]
 exact⟨m _ o! o!,o _ o! o!,i8 _ o! o!,i8 _ o! o!,i8 _ o! o!,o _ o! o!,m _ o! o!⟩
theorem Sk{e:AE}(h:ML e):(B9 e).length<=8392:=by have⟨a,b,c,_⟩:=h.cells;grind[tS,B9,List.length_append,Aw]
theorem qo{e:AE}(h:ML e):FL e=some (B9 e,0):=by have⟨c,d,i,_⟩:=h.cells;have l1:=tS c;have l2:=tS d;have⟨b,f,g⟩:=CT (x:=e);have a:b=true:=g.2 h;subst a;unfold FL;rw[f,AD,Cg,cond_false];rw[HZ k! g! g!,AD,Cp];rw[HZ (by simp only[Aa,Aw];simp only[Int.reduceToNat];omega) g! g!,AD];rw[HZ (by simp only[Aa,Aw];simp only[Int.reduceToNat];omega) g! g!,AD];rw[HZ (by simp only[Aa,Aw];simp only[Int.reduceToNat];omega) g! g!,AD];rw[HZ (by simp only[Aa,Aw];simp only[Int.reduceToNat];omega) g! g!,AD];rw[HZ (by simp only[Aa,Aw];simp only[Int.reduceToNat];omega) g! g!,AD];rw[HZ (by simp only[Aa,Aw];simp only[Int.reduceToNat];omega) g! g!,AD];rw[HZ (by simp only[Aa,Aw];simp only[Int.reduceToNat];omega) g! g!,AD];rw[ABL (by simp only[Aa,Aw];simp only[Int.reduceToNat];omega) (by have:=c.1;omega),AD];rw[ABL (by simp only[Aa,Aw];simp[Int.reduceToNat];omega) (by have:=d.1;omega),AD];rw[HZ (by simp only[Aa,Aw];simp[Int.reduceToNat];omega) g! g!,AD];unfold sapp;rw[if_pos (by simp only[Aa,Aw];simp[Int.reduceToNat];omega),AD];simp[A6];rfl
def CS(x p:BW)(c:BW×Int×Int):Prop:=c.1=x/\(c.2.2=0-> ∃rest,x=p++rest/\c.2.1=p.length)
def sZ{t:BW}{k:Nat}(h:k<=t.length)(a:k<=8):ej k (rd (t.take k))/\C5 (rd (t.take k)) k=t.take k:=by grind[List.length_take,AAq,xP]
def bp{x p:BW}{c:BW×Int×Int}{k:Nat}(h:CS x p c)(o:x.length<=1099511627776)(q:1<=k)(m:k<=8):Ar (BQ c (k:Int)) λr=>CS x (p++C5 r.1 k) r.2/\(r.2.2.2=0->ej k r.1)/\(c.2.2≠0->r=(0,c)):=by have⟨s,l,e⟩:=c;have⟨g,i⟩:=h;dsimp only at g i;subst g;unfold BQ;refine AK (λd=>AB ⟨⟨rfl,λb=>absurd b d⟩,λb=>absurd b d,λ_=>rfl⟩) (λd=>?_);dsimp only at d;subst d;have⟨a,hr,n⟩:=i rfl;subst hr n;rw[Aa]at o;rw[js o! o! o!];by_cases j:(k:Int)<=a.length;rw[if_pos j,AD,Ct];have⟨q1,q2⟩:=sZ (t:=a) (k:=k) o! m;rw[show((0:Int) !=0)=false by decide,cond_false];refine AB ⟨⟨rfl,λ_=>⟨a.drop k,?_,?_⟩⟩,λ_=>q1,λf=>absurd rfl f⟩;grind[List.append_assoc,List.take_append_drop];grind[AX,List.length_append,Aw];rw[if_neg j,AD];rw[show((5:Int) !=0)=true by decide,cond_true];exact AB ⟨⟨rfl,λb=>absurd (show(5:Int)=0 from b) g!⟩,λb=>absurd (show(5:Int)=0 from b) g!,λf=>absurd rfl f⟩
def AEV{x p:BW}{c:BW×Int×Int}{n:Int}(h:CS x p c)(k:x.length<=1099511627776)(hn:c.2.2=0->0<=n/\n<4294967296):Ar (Ds c n) λr=>CS x (p++r.1) r.2/\(r.2.2.2=0->(r.1.length:Int)=n/\c.2.2=0):=by have⟨s,g,e⟩:=c;have⟨d,f⟩:=h;dsimp only at d f hn;subst d;unfold Ds;by_cases j:e=0;subst j;have⟨a,hr,i⟩:=f rfl;have⟨l,q⟩:=hn rfl;subst hr i;obtain⟨m,rfl⟩:=FF l;rw[Aa]at k;rw[show((0:Int) !=0)=false by decide,cond_false];simp only[len];rw[show wi (((p++a).length:Int)-(p.length:Int))=a.length by rw[Aa,AX];omega];by_cases o:(m:Int)<=a.length;rw[decide_eq_false o!,cond_false];rw[(by grind[AX,Up,List.length_append,List.drop_left]:Up (p++a) (wi (wi ((p.length:Int)+(m:Int))-(m:Int))) (wi ((p.length:Int)+(m:Int)))=some (a.take m)),AD];refine AB ⟨⟨rfl,λ_=>⟨a.drop m,?_,?_⟩⟩,λ_=>⟨?_,by first|rfl|trivial⟩⟩;grind[List.append_assoc,List.take_append_drop];grind[AX,List.length_append,List.length_take];grind[List.length_take];rw[decide_eq_true o!,cond_true];exact AB ⟨⟨rfl,λb=>absurd (show(5:Int)=0 from b) g!⟩,λb=>absurd (show(5:Int)=0 from b) g!⟩;grind[AB]
def AES{x p:BW}{c:BW×Int×Int}(h:CS x p c)(i:x.length<=1099511627776):Ar (DM c ()) λr=>CS x (p++Ze r.1) r.2/\(r.2.2.2=0->IZ r.1):=by unfold DM;refine AA (bp (k:=1) h i g! g!) λv n=>?_;have⟨⟨f,j⟩,q,y⟩:=n;refine AK (λd=>AB ⟨⟨f,λb=>absurd b d⟩,λb=>absurd b d⟩) (λd=>?_);have⟨e,hr,g⟩:=j d;have m:=(q d).1 g!;rw[show(256:Int)^1=256 by decide]at m;refine AQ (λa=>AB ⟨⟨f,λ_=>⟨e,?_,?_⟩⟩,λ_=>⟨Bi _,.inr rfl⟩⟩) (λa=>?_);dsimp only;rw[a]at hr;exact hr;dsimp only;rw[a]at g;exact g;refine AC (λ_=>AB ⟨⟨f,λb=>absurd (show(4:Int)=0 from b) g!⟩,λb=>absurd (show(4:Int)=0 from b) g!⟩) (λl=>?_);refine AA (AEV (x:=x) (p:=p++C5 v.1 1) ⟨f,j⟩ i (λ_=>o!)) λw o=>AB ?_;have⟨⟨s,z⟩,t⟩:=o;refine⟨⟨s,λb=>?_⟩,λb=>?_⟩;grind[Ze,C5,List.append_assoc];dsimp only at b⊢;have⟨u,_⟩:=t b;exact⟨d!,.inl rfl⟩
def ZJ{x p a:BW}{n:Int}{k:Nat}(e:x=p++(C5 n k++a))(d:x.length<=1099511627776)(b:1<=k)(c:k<=8)(hn:ej k n):BQ (x,((p.length:Int),0)) (k:Int)=some (n,(x,(((p++C5 n k).length:Int),0))):=by grind[List.length,List.length_append,Aw,BQ,js,Int.toNat_natCast,List.take_left',qh,AX]
theorem AEU{x p w a:BW}(c:x=p++(w++a))(d:x.length<=1099511627776):Ds (x,((p.length:Int),0)) (w.length:Int)=some (w,(x,(((p++w).length:Int),0))):=by
 have b:=congrArg List.length c;simp[Aa]at b;unfold Ds;dsimp only;rw[show((0:Int) !=0)=false by decide,cond_false];simp only[len];rw[show decide ((w.length:Int)>wi ((x.length:Int)-(p.length:Int)))=false from decide_eq_false (by rw[AX];omega),cond_false];have e:Up x (wi (wi ((p.length:Int)+(w.length:Int))-(w.length:Int))) (wi ((p.length:Int)+(w.length:Int)))=some w:=by rw[AX (x:=(p.length:Int)+(w.length:Int)),AX];unfold Up;rw[if_pos o!,c,show((p.length:Int)+(w.length:Int)-(w.length:Int)).toNat=p.length by omega,RZ,show((p.length:Int)+(w.length:Int)).toNat-p.length=w.length by omega,Yb]
 grind[AX,List.length_append]
def AER{x p a:BW}{c:Cd}(e:x=p++(Ze c++a))(i:x.length<=1099511627776)(k:IZ c):DM (x,((p.length:Int),0)) ()=some (c,(x,(((p++Ze c).length:Int),0))):=by
 have⟨b,d⟩:=c;have⟨j,f⟩:=k;dsimp only at j f;unfold DM;cases b with
 |false=>
  have l:d=[]:=by rcases f with h|h;cases h;exact h
  subst l;rw[(rfl:Ze (false,[])=C5 255 1)]at e⊢;rw[show(1:Int)=((1:Nat):Int)from rfl,ZJ e i g! g! ⟨λ_=>g!,g!,g!⟩];rfl
 |true=>have g:Ze (true,d)=C5 (d.length:Int) 1++d:=rfl;rw[g,A6]at e;rw[g];rw[show(1:Int)=((1:Nat):Int)from rfl,ZJ e i g! g! ⟨λ_=>by rw[show(256:Int)^1=256 by decide];omega,o!⟩,AD];grind[AEU,List.append_assoc]
def AHm{x:BW}(a:x.length<=1099511627776):Ar (FK x) λr=>r.2=0->x=B9 r.1/\IZ r.1.2.2.2.2.2.2.1.2.2.1/\IZ r.1.2.2.2.2.2.2.1.2.2.2/\ej 4 (r.1.2.2.2.2.2.2.2.length:Int)/\Ch r.1=some true:=by
 unfold FK;have I:CS x [] (x,(0,0)):=⟨rfl,λ_=>⟨x,rfl,rfl⟩⟩
 refine AA (bp (k:=8) I a g! g!) λO y=>AA (bp (k:=1) y.1 a g! g!) λP z=>AA (bp (k:=4) z.1 a g! g!) λQ A=>AA (bp (k:=8) A.1 a g! g!) λR B=>AA (bp (k:=8) B.1 a g! g!) λS C=>AA (bp (k:=8) C.1 a g! g!) λT D=>AA (bp (k:=4) D.1 a g! g!) λU E=>AA (bp (k:=1) E.1 a g! g!) λV F=>D8 (AES F.1 a) λq M o=>D8 (AES o.1 a) λs w p=>AA (bp (k:=4) p.1 a g! g!) λj b=>AA (AEV (n:=j.1) b.1 a (λc=>?_)) λJ f=>?_;have:=(b.2.1 c).1 g!;rw[show(256:Int)^4=4294967296 by decide]at this;exact this;refine AK (λh=>AB λc=>absurd c h) (λh=>AK (λ_=>AB n!) (λG=>D8 (CT) λK i _=>AM (λ_=>AB n!) (λH=>AB λ_=>?_)));subst H;obtain⟨q11,d⟩:=f.2 h;have l:s.2.2.2=0:=RX λe=>by have:=b.2.2 e;rw[this]at d;exact e d
 have u:=p.2 l;have L:q.2.2.2=0:=RX λe=>by
  have:s=((false,[]),q.2):=by have:=w;unfold DM BQ at this;rw[bne_iff_ne.2 e,cond_true,AD,bne_iff_ne.2 e,cond_true]at this;injection this with this;exact this.symm
  rw[this]at l;exact e l
 have t:=o.2 L;obtain⟨g,m,N⟩:=f.1.2 h;have hr:g=[]:=by simp only[len]at G;have v:=congrArg List.length m;rw[Aa]at v;exact EL o!
 subst hr;refine⟨?_,t,u,?_,i⟩;rw[m];unfold B9;dsimp only;rw[q11];simp only[A6,Cp,D4];dsimp only;rw[q11];exact b.2.1 d
def AET{e:AE}(h:ML e):FK (B9 e)=some (e,0):=by
 obtain⟨s,t,H,w,y,z,A,B,C,D,E⟩:=h.cells;have I:=Sk h;have g:ej 4 (e.2.2.2.2.2.2.2.length:Int):=⟨λ_=>by rw[show(256:Int)^4=4294967296 by decide];omega,o!⟩
 have a:B9 e=[]++(C5 e.1 8++(C5 e.2.1 1++(C5 e.2.2.1 4++(C5 e.2.2.2.1 8++(C5 e.2.2.2.2.1 8++(C5 e.2.2.2.2.2.1 8++(C5 e.2.2.2.2.2.2.1.1 4++(C5 e.2.2.2.2.2.2.1.2.1 1++
 (Ze e.2.2.2.2.2.2.1.2.2.1++(Ze e.2.2.2.2.2.2.1.2.2.2++(C5 (e.2.2.2.2.2.2.2.length:Int) 4++(e.2.2.2.2.2.2.2++[])))))))))))):=by rw[D4];rfl
 generalize B9 e=x at*;have i:BQ (x,(((0:Int)),0)) 8=_:=ZJ (p:=[]) (k:=8) a o! g! g! w;rw[Cp]at i;rw[Cp]at a;have j:=ZJ (k:=1) a o! g! g! y;rw[<-A6]at a;have l:=ZJ (k:=4) a o! g! g! z;rw[<-A6]at a;have m:=ZJ (k:=8) a o! g! g! A;rw[<-A6]at a;have n:=ZJ (k:=8) a o! g! g! B;rw[<-A6]at a;have o:=ZJ (k:=8) a o! g! g! C;rw[<-A6]at a;have q:=ZJ (k:=4) a o! g! g! D;rw[<-A6]at a;have r:=ZJ (k:=1) a o! g! g! E;rw[<-A6]at a;have F:=AER a o! s;rw[<-A6]at a;have G:=AER a o! t;rw[<-A6]at a;have c:=ZJ (k:=4) a o! g! g! g;rw[<-A6]at a;have d:=AEU a o!;rw[D4]at a;rw[<-a]at d;unfold FK;rw[i,AD];rw[show((1:Nat):Int)=1 from rfl]at j r;rw[show((4:Nat):Int)=4 from rfl]at l q c;rw[show((8:Nat):Int)=8 from rfl]at m n o;rw[j,AD,l,AD,m,AD,n,AD,o,AD,q,AD,r,AD,F,AD,G,AD,c,AD,d,AD];obtain⟨b,u,v⟩:=CT (x:=e);have f:b=true:=v.2 h;subst f;dsimp only[len];rw[show((0:Int) !=0)=false by decide,cond_false,bne_self_eq_false,cond_false];rw[show(e.1,(e.2.1,(e.2.2.1,(e.2.2.2.1,(e.2.2.2.2.1,(e.2.2.2.2.2.1,((e.2.2.2.2.2.2.1.1,(e.2.2.2.2.2.2.1.2.1,(e.2.2.2.2.2.2.1.2.2.1,e.2.2.2.2.2.2.1.2.2.2))),e.2.2.2.2.2.2.2)))))))=e from rfl,u,AD,Cg,cond_false]
def Ka(l:List AE):BW:=(l.map λe=>Ib (B9 e)).flatten
theorem Sl(l:List AE)(e:AE):Ka (l++[e])=Ka l++Ib (B9 e):=by unfold Ka;grind
theorem oX(e:AE)(l:List AE):Ka (e::l)=Ib (B9 e)++Ka l:=rfl
def sI{l:List AE}(h: ∀e∈l,ML e):(Ka l).length<=8400*l.length:=by
 induction l with
 |nil=>exact Am _
 |cons e r b=>have c:=b λx a=>h x (A8.2 (.inr a));have d:=Sk (h e (A8.2 (.inl rfl)));rw[oX,Aa,FJ,Cu];omega
def ACQ{x p a:BW}{at_:Int}{k:Nat}(c:x=p++a)(e:at_=p.length)(i:x.length≤1099511627776)(h:1≤k)(f:k≤8)(g:k≤a.length):
  ∃n b,Av (x,(at_,(k:Int)))=some (n,0)/\Bq (x,(at_,(k:Int)))=some (n,0)/\x=(p++C5 n k)++b/\ej k n/\b.length+k=a.length:=by
 have d:=congrArg List.length c;rw[Aa]at d;obtain⟨q1,q2⟩:=sZ (t:=a) g f;refine⟨rd (a.take k),a.drop k,?_,?_,?_,q1,?_⟩;rw[c,e,js o! o! o!,if_pos o!,Ct];rw[c,e,YF o! o! o!,if_pos o!,Ct];rw[q2,A6,Da];exact c;rw[FY];omega
def ku{x p rest:BW}{at_ n:Int}{k:Nat}(a:x=p++(C5 n k++rest))(d:at_=p.length)(f:x.length≤1099511627776)(e:1≤k)(c:k≤8)(hn:ej k n):
  Av (x,(at_,(k:Int)))=some (n,0)/\Bq (x,(at_,(k:Int)))=some (n,0):=by
 have b:=congrArg List.length a;simp only[Aa,Aw]at b;refine⟨?_,?_⟩;rw[a,d,js (by rw[Aa,Aw];omega) o! o!,if_pos (by rw[Aa,Aw];omega),Ct,EW (Aw _ _),qh c hn];rw[a,d,YF (by rw[Aa,Aw];omega) o! o!,if_pos (by rw[Aa,Aw];omega),Ct,EW (Aw _ _),qh c hn]
def Zk{x:List Ao×Int×Bool×Cj}{s:Int×List Ao}(h:0<=s.1/\s.1<=x.1.length/\x.1.length<=16777216/\s.2.length<=s.1):Ar (AZ (OP x) s) λr=>r.length<=x.1.length:=by
 refine AV (λ(s:Int×List Ao)=>0<=s.1/\s.1<=x.1.length/\x.1.length<=16777216/\s.2.length<=s.1) (λ(s:Int×List Ao)=>((x.1.length:Int)-s.1).toNat) h (λs b=>?_);unfold OP;exact x!
def KK{x:List Ao×Int×Bool×Cj}(h:x.1.length<=16777216):Ar (F5 x) λr=>r.length<=x.1.length:=by
 unfold F5;exact x!
def Zh{x:A5×Int}{s:Int}(h:0<=s/\s<=x.1.1.length/\(x.1.1.length:Int)<=16777216/\0<=x.2/\x.2<x.1.2.length):Ar (AZ (OL x) s) λr=>True:=by
 refine AV (λ(s:Int)=>0<=s/\s<=x.1.1.length/\(x.1.1.length:Int)<=16777216/\0<=x.2/\x.2<x.1.2.length) (λ(s:Int)=>((x.1.1.length:Int)-s).toNat) h (λs a=>?_);unfold OL;exact x!
def Zi{x:A5×Int}{s:Int}(h:0<=s/\s<=x.2/\(x.2:Int)<=16777216/\0<=x.2/\x.2<x.1.2.length):Ar (AZ (OM x) s) λr=>True:=by
 refine AV (λ(s:Int)=>0<=s/\s<=x.2/\(x.2:Int)<=16777216/\0<=x.2/\x.2<x.1.2.length) (λ(s:Int)=>((x.2:Int)-s).toNat) h (λs a=>?_);unfold OM;exact x!
def gu{x:A5×Int}(h:x.1.1.length<=4096/\x.1.2.length<=4096)(b:0<=x.2/\x.2<x.1.2.length):Ar (MZ x) λr=>True:=by
 unfold MZ;exact x!
def Zj{x:List Ao×Ao}{s:Bool×Int×List Ao}(h:0<=s.2.1/\s.2.1<=x.1.length/\x.1.length<=4096/\s.2.2.length<=s.2.1+1/\(s.1=false->(s.2.2.length:Int)<=s.2.1)):Ar (AZ (OO x) s) λr=>r.2.length<=x.1.length+1/\(r.1=false->r.2.length<=x.1.length):=by
 refine AV (λ(s:Bool×Int×List Ao)=>0<=s.2.1/\s.2.1<=x.1.length/\x.1.length<=4096/\s.2.2.length<=s.2.1+1/\(s.1=false->(s.2.2.length:Int)<=s.2.1)) (λ(s:Bool×Int×List Ao)=>((x.1.length:Int)-s.2.1).toNat) h (λs c=>?_);unfold OO;repeat' with_reducible first|intro a|apply AC|apply AM|apply AK|(apply A7;try dsimp only)|apply Bd|apply By|apply AB|(apply AA (VS);intro r hr)|(refine AL ?_ (AI ?_ ?_);rintro r ⟨hr,f⟩)|(refine AL ?_ (Ac ?_);rintro r ⟨hr,d,b⟩)
 all_goals try (have e:=AX (x:=s.2.1+1))
 all_goals (first|omega|grind)
def gv{x:List Ao×Ao}(h:x.1.length<=4096):Ar (Ma x) λr=>r.length<=x.1.length+1:=by
 unfold Ma;exact x!
def X3{B:Nat}(i:B<=2000){s:Int×A5}(h:0<=s.1/\s.1<=s.2.2.length/\s.2.1.length+s.2.2.length<=B):Ar (AZ R0 s) λr=>r.1.length+r.2.length<=B:=by refine AV (λs=>0<=s.1/\s.1<=s.2.2.length/\s.2.1.length+s.2.2.length<=B) (λs=>s.2.2.length*3000+((s.2.2.length:Int)-s.1).toNat) h (λs d=>?_);have⟨b,e,c⟩:=d;refine AC (λa=>?_) (λa=>AB c);simp[len]at a;refine AA (gu d! ⟨b,a⟩) λv _=>AA (P:=λv:Int×A5=>(v=s)\/(v.1= -1/\v.2.1.length<=s.2.1.length+1/\v.2.2.length+1=s.2.2.length)) ?_ λm g=>?_;refine AJ (λ_=>?_) (λ_=>AB (.inl rfl));refine AA (AI b a) λj _=>AA (gv d!) λk c=>AA (CU o! b) λl f=>?_;grind[AX,AA,CU,Ac,AB];grind[AB,AX]
def JE{B:Nat}{x:A5}(a:B<=2000)(h:x.1.length+x.2.length<=B):Ar (FM x) λr=>r.1.length+r.2.length<=B:=by exact AA (X3 a ⟨k!,k!,h⟩) λr hr=>AB hr
theorem Fy.of{x:A5}{B:Nat}(a:B<=2000)(h:x.1.length+x.2.length<=B):Fy x:=⟨by omega,by omega⟩
def Fy.nil:Fy (([],[]):A5):=⟨k!,k!⟩
def Ly{x:A5×Int}(h:Fy x.1):Ar (HN x) λr=>Fy r:=by refine AA (Ex h) λv d=>AM (λ_=>AB h) (λc=>?_);have g:=d c;refine AA (KK h.1) λa e=>AA (KK h.2) λb f=>AA (JE (B:=1024) g! ?_) λr hr=>AB (Fy.of g! hr);grind[aL]
def bS{x:A5×Int}(h:Fy x.1):Ar (PM x) λr=>Fy r:=by refine AA (Ex h) λv c=>AM (λ_=>AB h) (λa=>?_);have e:=c a;refine AA (KK h.2) λb d=>AA (JE (B:=1024) g! ?_) λr hr=>AB (Fy.of g! hr);grind[aL]
def VQ{x:A5×Int×Cj}(h:Fy x.1):Ar (MX x) λr=>Fy r:=by refine AA (Ex h) λv c=>AM (λ_=>AB h) (λa=>?_);have e:=c a;refine AA (KK h.1) λb d=>AA (JE (B:=1024) g! ?_) λr hr=>AB (Fy.of g! hr);grind[aL]
def XS{x:A5×Int}{s:Int×Ao}(h:0<=s.1/\s.1<=x.1.2.length/\x.1.2.length<=16777216):Ar (AZ (Kz x) s) λr=>True:=by
 refine AV (λ(s:Int×Ao)=>0<=s.1/\s.1<=x.1.2.length/\x.1.2.length<=16777216) (λ(s:Int×Ao)=>((x.1.2.length:Int)-s.1).toNat) h (λs b=>?_);unfold Kz;exact x!
def IN{x:A5×Int}(h:Fy x.1):Ar (Ey x) λr=>r.2=true->aL x.1:=by
 unfold Ey;repeat' with_reducible first|apply AJ<;>intro b|(apply A7;try dsimp only)|apply Bd|apply By|apply NC|(apply BA<;>(intro u a;try subst a))|apply AB|(refine AL ?_ (Ex ?_);intro r hr)|(refine AL ?_ (XS ?_);intro r hr)
 all_goals ((try dsimp[len]at*);(try first|omega|assumption|grind[Fy]))
def Y0{x:A5×Ao}{s:Int}(h:0<=s/\s<=x.1.2.length/\(x.1.2.length:Int)<=16777216/\x.1.1.length<=16777216):Ar (AZ (NT x) s) λr=> ∀u,r= .inl u->0<=u/\u<=x.1.2.length:=by
 refine AV (λ(s:Int)=>0<=s/\s<=x.1.2.length/\(x.1.2.length:Int)<=16777216/\x.1.1.length<=16777216) (λ(s:Int)=>((x.1.2.length:Int)-s).toNat) h (λs a=>?_);unfold NT;exact x!
def du{x:A5×Ao}(h:Fy x.1):Ar (Ii x) λr=>0<=r/\r<=x.1.2.length:=by
 unfold Ii;repeat' with_reducible first|apply AQ<;>intro b|(apply BA<;>(intro u a;try subst a))|apply AB|(refine AL ?_ (Hu ?_);intro r hr)|(refine AL ?_ (Y0 ?_);intro r hr)
 all_goals ((try dsimp[len]at*);(try first|omega|assumption|grind[Fy]))
def Zg{x:A5×Ao}(h:Fy x.1):Ar (OK x) λr=>Fy r.1:=by refine AA (Ex h) λv o=>AM (λ_=>AB Fy.nil) (λl=>?_);have n:=o l;unfold aL at n;refine AA ON λ_ _=>AM (λ_=>AB Fy.nil) (λ_=>AA (IN h) λz _=>?_);apply AJ<;>intro m;simp_all[AJ,AB,Fy.nil];refine AJ (λ_=>AB h) (λ_=>AA (Hu h.1) λ_ _=>AJ (λ_=>AB h) (λ_=>AJ (λ_=>AB Fy.nil) (λ_=>AA (du h) λp e=>AA (CU o! e.1 e.2) λq j=>AA (CU e.1 (by simp[len];omega) i!) λs a=>?_)));have f:=a.2;simp[len]at f;refine AA (Ac w!) λt b=>?_;have g:=b.2.1;simp at g;refine AA (Ac w!) λu c=>?_;have i:=c.2.1;simp at i;refine AA (Ac o!) λw k=>AA (JE (B:=1025) g! d!) λy d=>AA (Hu d!) λ_ _=>AB (Fy.of g! d)
def Zn{x:List Int×Int}{s:Bool×Int×List Int}(h:0<=s.2.1/\s.2.1<=x.1.length/\x.1.length<=4096/\s.2.2.length<=s.2.1+1/\(s.1=false->(s.2.2.length:Int)<=s.2.1)):Ar (AZ (OJ x) s) λr=>r.2.length<=x.1.length+1/\(r.1=false->r.2.length<=x.1.length):=by
 refine AV (λ(s:Bool×Int×List Int)=>0<=s.2.1/\s.2.1<=x.1.length/\x.1.length<=4096/\s.2.2.length<=s.2.1+1/\(s.1=false->(s.2.2.length:Int)<=s.2.1)) (λ(s:Bool×Int×List Int)=>((x.1.length:Int)-s.2.1).toNat) h (λs b=>?_);unfold OJ;repeat' with_reducible first|intro a|apply AC|apply AM|apply AK|apply AJ|(apply A7;try dsimp only)|apply Bd|apply By|apply AB|(refine AL ?_ (AI ?_ ?_);rintro r ⟨hr,g⟩)|(refine AL ?_ (Ac ?_);rintro r ⟨hr,f,d⟩)
 all_goals try dsimp[len]at*
 all_goals try (have e:=AX (x:=s.2.1+1))
 all_goals try (have c:=b.2.2.2.2 v!)
 all_goals (try simp[Cu,Ck,Bool.true_eq_false,false_implies,and_true]at*)
 all_goals first|omega|grind
def PQ{x:List Int×Int}(h:x.1.length<=4096):Ar (E7 x) λr=>r.length<=x.1.length+1:=by
 unfold E7;exact x!
def XT{x:A5}{s:List Int×Int}(h:0<=s.2/\s.2<=x.2.length/\x.2.length<=4096/\s.1.length<=s.2):Ar (AZ (K0 x) s) λr=>r.length<=x.2.length:=by
 refine AV (λ(s:List Int×Int)=>0<=s.2/\s.2<=x.2.length/\x.2.length<=4096/\s.1.length<=s.2) (λ(s:List Int×Int)=>((x.2.length:Int)-s.2).toNat) h (λs b=>?_);unfold K0;exact x!
def Zm{x:A5}(h:Fy x):Ar (Jm x) λr=>r.length<=4096:=by
 unfold Jm;repeat' with_reducible first|apply AJ<;>intro a|(apply A7;try dsimp only)|apply Bd|apply By|apply AB|(refine AL ?_ (Ex ?_);intro r hr)|(refine AL ?_ (XT ?_);intro r hr)
 all_goals ((try dsimp[len]at*);(try first|omega|assumption|grind[AX,aL]))
theorem bT{x:A5×Int}{b:Ao×Bool}{s:List Int×Int}(h:0<=s.2/\s.2<=x.1.1.length/\x.1.1.length<=1024/\s.1.length<=s.2):Ar (AZ (PN x b) s) λr=>r.length<=x.1.1.length:=by
 refine AV (λ(s:List Int×Int)=>0<=s.2/\s.2<=x.1.1.length/\x.1.1.length<=1024/\s.1.length<=s.2) (λ(s:List Int×Int)=>((x.1.1.length:Int)-s.2).toNat) h (λs c=>?_);unfold PN;exact x!
theorem bU{x:A5×Int}{b:Ao×Bool}{s:List Int×Int}(h:0<=s.2/\s.2<=x.1.2.length/\x.1.2.length<=1024/\s.1.length<=s.2+1024):Ar (AZ (PO x b) s) λr=>r.length<=4096:=by
 refine AV (λ(s:List Int×Int)=>0<=s.2/\s.2<=x.1.2.length/\x.1.2.length<=1024/\s.1.length<=s.2+1024) (λ(s:List Int×Int)=>((x.1.2.length:Int)-s.2).toNat) h (λs c=>?_);unfold PO;exact x!
def LN{x:A5×Int}(h:Fy x.1):Ar (IC x) λr=>r.length<=4096:=by unfold IC;refine AA (IN h) λc b=>AM (λ_=>AB k!) (λa=>?_);grind[aL,AA,bT,bU,AB]
theorem QY{x:A5×List Int×Int}{a:List Int}{s:Int}(h:0<=s/\s<=a.length/\(a.length:Int)<=16777216/\1<=x.2.1.length/\x.2.1.length<=4096):Ar (AZ (L3 x a) s) λr=> ∀u,r= .inl u->u=x.2.1:=by
 refine AV (λ(s:Int)=>0<=s/\s<=a.length/\(a.length:Int)<=16777216/\1<=x.2.1.length/\x.2.1.length<=4096) (λ(s:Int)=>((a.length:Int)-s).toNat) h (λs c=>?_);unfold L3;exact x!
def X4{x:A5×List Int×Int}{b:Int}{s:Bool×Int}(h:0<=s.2/\s.2<=x.2.1.length/\x.2.1.length<=4096):Ar (AZ (L4 x b) s) λr=>True:=by
 refine AV (λ(s:Bool×Int)=>0<=s.2/\s.2<=x.2.1.length/\x.2.1.length<=4096) (λ(s:Bool×Int)=>((x.2.1.length:Int)-s.2).toNat) h (λs c=>?_);unfold L4;exact x!
def AFJ(d:Nat){x:A5×List Int×Int}(h:Fy x.1)(o:1<=x.2.1.length)(A:(x.2.1.length:Int)+d=x.2.2)(p:x.2.2<=4096):Ar (oT EX (d+1) x) λr=>r.length<=4096:=by
 induction d generalizing x with
 |zero=>show Ar (EX _ x) _;unfold EX;have e:=AX (x:=(x.2.1.length:Int)-1);refine AA (AI (by simp[len];rw[e];omega) (by simp[len];rw[e];omega)) λv _=>AA (LN h) λm f=>AQ (λ_=>?_) (λc=>absurd (by simp[len];omega) c);refine AA (QY ⟨k!,k!,o!,o,o!⟩) λr hr=>BA (λu a=>AB (by rw[hr u a];omega)) (λ_ _=>AB k!)
 |succ d t=>show Ar (EX _ x) _;unfold EX;have e:=AX (x:=(x.2.1.length:Int)-1);refine AA (AI (by simp[len];rw[e];omega) (by simp[len];rw[e];omega)) λv _=>AA (LN h) λm f=>AQ (λ_=>?_) (λ_=>?_);grind[AA,QY,BA,AB];refine AA (P:=λr=> ∀u,r= .inl u->u.length<=4096) ?_ λr hr=>BA (λu a=>AB (hr u a)) (λ_ _=>AB k!);refine AV (λ(s:Int)=>0<=s/\s<=m.length) (λ(s:Int)=>((m.length:Int)-s).toNat) (s:=(0:Int)) ⟨g!,o!⟩ (λs q=>?_);unfold R1;have b:=AX (x:=s+1);refine AC (λc=>?_) (λ_=>AB (λu a=>by cases a));simp[len]at c;refine AA (AI q.1 c) λB _=>AA (X4 ⟨k!,k!,o!⟩) λw _=>AJ (λ_=>AB ⟨by rw[b];omega,by rw[b];omega⟩) (λ_=>AA (Ac w!) λy g=>?_);have k:=g.2.1;simp[Ck]at k;refine AA (Ac w!) λn i=>?_;have l:=i.2.1;simp[Cu,Ck]at l;refine AA (t (x:=(x.1,n,x.2.2)) h d! d! p) λz j=>AC (λ_=>AB λu a=>by cases a;exact j) (λ_=>AB ⟨by rw[b];omega,by rw[b];omega⟩)
def bV{x:A5×List Int×Int}(h:Fy x.1)(a:1<=x.2.1.length)(d:(x.2.1.length:Int)<=x.2.2)(b:x.2.2<=4096):Ar (PP x) λr=>True:=by have⟨r,hr,_⟩:=AFJ (x.2.2-x.2.1.length).toNat h a o! b;have⟨s,c⟩:=gh hr;exact⟨s,c,trivial⟩
def dv{x:A5×Int}(h:Fy x.1):Ar (LM x) λr=>True:=by unfold LM;refine AA (P:=λ_=>True) ?_ λr _=>BA (λ_ _=>AB trivial) (λ_ _=>AB trivial);refine AV (λs=>1<=s/\s<=4097) (λs=>(4097-s).toNat) ⟨g!,g!⟩ (λs d=>?_);unfold Ss;have a:=AX (x:=s+1);refine AA (Zm h) λe c=>AC (λb=>?_) (λ_=>AB trivial);simp[len]at b;refine AA (bV h k! (by show(1:Int)<=s;omega) (by show s<=4096;omega)) λf _=>AC (λ_=>AB trivial) (λ_=>AB ⟨by rw[a];omega,by rw[a];omega⟩)
def TP(l:List Ai):Nat:=(l.map λt=>t.2.2.2.2.1.length+1).sum
theorem AG2{l:List Ai}{i:Nat}{o n:Ai}(h:l[i]? =some o):TP (l.set i n)+o.2.2.2.2.1.length=TP l+n.2.2.2.2.1.length:=by
 induction l generalizing i with
 |nil=>simp at h
 |cons t r a=>
  cases i with
  |zero=>simp at h;subst h;simp[TP];omega
  |succ i=>have:=a (i:=i) (by simpa using h);simp[TP,List.set_cons_succ,Bt,WK]at*;omega
def vM{l:List Ai}{id:Int}:TP (l.filter λt=>t.1 !=id)<=TP l:=by
 induction l with
 |nil=>simp
 |cons t r a=>simp[N3];split;simp[TP,Bt,WK]at*;omega;simp[TP,Bt,WK]at*;omega
def wh{l:List Ai}{id:Int}{i:Nat}{t:Ai}(h:l[i]? =some t)(a:t.1=id):TP (l.filter λt=>t.1 !=id)<TP l:=by
 induction l generalizing i with
 |nil=>simp at h
 |cons u r b=>
  have q:=vM (l:=r) (id:=id);cases i with
  |zero=>simp at h;subst h;simp[N3,a,bne_self_eq_false,P2,if_false];simp[TP,Bt,WK]at*;omega
  |succ i=>have:=b (i:=i) (by simpa using h);simp[N3];split<;>(simp[TP,Bt,WK]at*;omega)
def Y3{x:List Ai×Int}{s:Int×List Ai}(h:0<=s.1/\s.1<=x.1.length/\x.1.length<=64/\s.2.length=s.1):Ar (AZ (NV x) s) λr=>r.length<=x.1.length:=by
 refine AV (λ(s:Int×List Ai)=>0<=s.1/\s.1<=x.1.length/\x.1.length<=64/\s.2.length=s.1) (λ(s:Int×List Ai)=>((x.1.length:Int)-s.1).toNat) h (λs c=>?_);unfold NV;exact x!
def UO{x:List Ai×Int}:Ar (Ik x) λr=>r.2=0->r.1.length=x.1.length+1/\r.1.length<=64:=by
 unfold Ik;repeat' with_reducible first|intro a|apply AC|apply AM|apply AQ|apply AJ|apply AB|(apply AA (Dl);intro r hr)|(refine AL ?_ (H4 ?_);intro r hr)|(refine AL ?_ (Y3 ?_);intro r hr)|(refine AL ?_ (Ac ?_);rintro r ⟨hr,b,c⟩)|(refine AL ?_ (CU ?_ ?_ ?_);rintro r ⟨hr,b⟩)
 all_goals ((try dsimp[len]at*);(try first|omega|assumption|grind[AX,ZQ]))
def ACm(l:List Ai)(id:Int):List Ai:=l.filter λt=>t.1 !=id
theorem o9(l:List Ai)(id:Int):(ACm l id).length<=l.length:=Gm _ _
theorem AF6(l:List Ai)(id:Int):TP (ACm l id)<=TP l:=vM
theorem AF7{l:List Ai}{id:Int}{i:Nat}{t:Ai}(h:l[i]? =some t)(a:t.1=id):TP (ACm l id)<TP l:=wh h a
def lm{a:Type}{l:List a}{n:Int}{p:a->Bool}{x:a}(b:0<=n)(c:l[n.toNat]? =some x):(l.take (n+1).toNat).filter p=(l.take n.toNat).filter p++(if p x=true then [x]else []):=by
 have e:(n+1).toNat=n.toNat+1:=o!
 grind[List.take_add_one,Option.toList_some]
def oR{a:Type}{l:List a}{n:Int}{p:a->Bool}(b:0<=n):(((l.take n.toNat).filter p).length:Int)<=n:=by grind[List.length_filter_le,List.length_take]
def YA{x:List Ai×Int}{s:Int×List Ai}(h:0<=s.1/\s.1<=x.1.length/\x.1.length<=16777216/\s.2=(x.1.take s.1.toNat).filter (λt=>t.1 !=x.2)):Ar (AZ (L7 x) s) λr=>r=x.1.filter λt=>t.1 !=x.2:=by
 refine AV (λ(s:Int×List Ai)=>0<=s.1/\s.1<=x.1.length/\x.1.length<=16777216/\s.2=(x.1.take s.1.toNat).filter (λt=>t.1 !=x.2)) (λ(s:Int×List Ai)=>((x.1.length:Int)-s.1).toNat) h (λs f=>?_);unfold L7;have⟨b,i,e,c⟩:=f;have a:=oR (l:=x.1) (p:=λt:Ai=>t.1 !=x.2) b;rw[<-c]at a;repeat' with_reducible first|intro d|apply AC|apply AK|apply AJ|(apply A7;try dsimp only)|apply Bd|apply By|apply AB|(refine AL ?_ (AI ?_ ?_);rintro r ⟨hr,k⟩)|(refine AL ?_ (Ac ?_);rintro r ⟨hr,j,g⟩)
 all_goals dsimp[len]at*
 all_goals first|omega|(rw[(AX (x:=s.1+1))];refine⟨⟨o!,o!,e,?_⟩,o!⟩;rw[lm b v!];grind)|(rw[c,BK o!])|(simp;omega)
def JG{x:List Ai×Int}(h:x.1.length<=16777216):Ar (GQ x) λr=>r=ACm x.1 x.2:=by
 unfold GQ ACm
 exact x!
def NY{x:Ai}(h:x.2.2.2.2.1.length<=16777216):Ar (H5 x) λr=>r.1=x.1/\r.2.2.2.2=x.2.2.2.2:=by
 unfold H5;exact x!
def LU{x:List Ai×Int×Ai}(h:x.1.length<=16777216)(a:0<=x.2.1/\x.2.1<x.1.length):Ar (IE x) λr=>r=x.1.set x.2.1.toNat x.2.2:=by unfold IE;refine AA (Ac (by simpa using h)) λr hr=>?_;have⟨hr,b,_⟩:=hr;rw[Cp]at hr;subst hr;refine AA (AI a.1 a.2) λ_ _=>AA (AI a.1 a.2) λ_ _=>AB rfl
def R3{x:List Ai×AE}{a:Ai}{s:Int×List Int}(h:0<=s.1/\s.1<=a.2.2.2.2.1.length/\a.2.2.2.2.1.length<=4096/\s.2.length<=s.1):Ar (AZ (OT x a) s) λr=>r.length<=a.2.2.2.2.1.length:=by
 refine AV (λ(s:Int×List Int)=>0<=s.1/\s.1<=a.2.2.2.2.1.length/\a.2.2.2.2.1.length<=4096/\s.2.length<=s.1) (λ(s:Int×List Int)=>((a.2.2.2.2.1.length:Int)-s.1).toNat) h (λs d=>?_);unfold OT;exact x!
def jt(l:List Ai)(id:Int):Prop:= ∃(j:Nat) (t:Ai),l[j]? =some t/\t.1=id
theorem jt.set{l:List Ai}{i:Nat}{n:Ai}{id:Int}(h:i<l.length)(hn:n.1=id):jt (l.set i n) id:=⟨i,n,by rw[HG h],hn⟩
def ABB(l:List Ai)(kind tx:Int)(m:List Ai):Prop:=m.length<=l.length/\(tx=0->m=l)/\(tx≠0->kind≠1->(kind≠4->TP m<TP l)/\TP m<=TP l)/\(tx≠0->kind=4->jt m tx)
def gz{x:List Ai×AE}:Ar (F6 x) λr=>r.2=0->ABB x.1 x.2.2.1 x.2.2.2.1 r.1:=by
 unfold F6;repeat' with_reducible first|intro a|apply AC|apply AM|apply AQ|apply AK|apply AJ|(apply A7;try dsimp only)|apply Bd|apply By|apply NC|(apply BG;try dsimp only)|(apply A3;try dsimp only)|(apply BA<;>(intro u c;try subst c))|apply AB|(apply AA (Dl);intro r hr)|(apply AA (CT);intro r hr)|(refine AL ?_ (H4 ?_);intro r hr)|(refine AL ?_ (R3 ?_);intro r hr)|(refine AL ?_ (JG ?_);intro r hr)|(refine AL ?_ (NY ?_);intro r hr)|(refine AL ?_ (LU ?_ ?_);intro r hr)|(refine AL ?_ (AI ?_ ?_);rintro r ⟨hr,f⟩)|(refine AL ?_ (Ac ?_);rintro r ⟨hr,e,b⟩)
 all_goals dsimp[len]at*
 all_goals first|omega|(intro d;exact absurd d g!)|(unfold ZQ VTx at*;(first|omega|grind[ABB,AG2,AF7,AF6,o9,List.length_set,jt.set]))
variable {B:Int->Prop}
def Sz{x:List Ai×Int}:Ar (Hz x) λr=>r.2=0->ZQ x.1/\0<=r.1/\r.1<x.1.length:=by
 unfold Hz;repeat' with_reducible first|intro a|apply AC|apply AM|apply AK|apply AJ|apply AB|(apply AA (Dl);intro r hr)|(refine AL ?_ (H4 ?_);intro r hr)|(refine AL ?_ (AI ?_ ?_);rintro r ⟨hr,b⟩)
 all_goals ((try dsimp[len]at*);(try first|omega|assumption|grind[AX,ZQ]))
def hY{x:List Ai×Int}:Ar (Mg x) λr=>r.2=0->r.1.length<=64:=by
 unfold Mg;repeat' with_reducible first|intro a|apply AQ|apply AK|apply AJ|apply AB|(apply AA (Sz);intro r hr)|(refine AL ?_ (LU ?_ ?_);intro r hr)|(refine AL ?_ (AI ?_ ?_);rintro r ⟨hr,e⟩)|(refine AL ?_ (Ac ?_);rintro r ⟨hr,d,b⟩)
 all_goals try dsimp[len]at*
 all_goals first|omega|(intro c;exact absurd c v!)|grind[ZQ,VTx,List.length_set]
def gy{x:List Ai×Int×Int}:Ar (Me x) λr=>r.2=0->r.1.length<=64:=by
 unfold Me;repeat' with_reducible first|intro a|apply AC|apply AK|apply AJ|apply AB|(apply AA (Sz);intro r hr)|(refine AL ?_ (NY ?_);intro r hr)|(refine AL ?_ (LU ?_ ?_);intro r hr)|(refine AL ?_ (AI ?_ ?_);rintro r ⟨hr,e⟩)|(refine AL ?_ (Ac ?_);rintro r ⟨hr,b,c⟩)|(refine AL ?_ (CU ?_ ?_ ?_);rintro r ⟨hr,b⟩)
 all_goals try dsimp[len]at*
 all_goals first|omega|(intro d;exact absurd d v!)|grind[ZQ,VTx,List.length_set,AX]
def jh{x:BV×Int×BX}(h:x.1.length<=16777216)(a:0<=x.2.1/\x.2.1<x.1.length):Ar (Nt x) λr=>r=x.1.set x.2.1.toNat x.2.2:=by unfold Nt;refine AA (Ac (by simpa using h)) λr hr=>?_;have⟨hr,b,_⟩:=hr;rw[Cp]at hr;subst hr;refine AA (AI a.1 a.2) λ_ _=>AA (AI a.1 a.2) λ_ _=>AB rfl
def VT{x:BV×AE}:Ar (HO x) λr=>r.2=0->r.1.length=x.1.length/\(x.2.2.1≠7->r.1=x.1)/\(x.2.2.1=7->0<=x.2.2.2.2.2.2.2.1.1/\ ∃w,x.1[x.2.2.2.2.2.2.2.1.1.toNat]? =some w/\r.1=x.1.set x.2.2.2.2.2.2.2.1.1.toNat ((if x.2.2.2.2.2.2.1>w.1 then x.2.2.2.2.2.2.1 else w.1),w.2)):=by
 unfold HO;refine AA Fu λv i=>AM (λa=>AB n!) (λa=>AA CT λl k=>AM (λa=>AB n!) (λf=>AK (λa=>AB λ_=>⟨rfl,λ_=>rfl,λe=>absurd e a⟩) (λd=>?_)));have i:ML x.2:=q!
 have c:0<=x.2.2.2.2.2.2.2.1.1:=by grind[ML,Vq,O3,QO]
 refine AC (λa=>AB n!) (λg=>?_);simp[len]at g;refine AA (AI c) λw j=>AA (jh (by have:=(by grind:mo x.1).2;dsimp only;omega) ⟨c,d!⟩) λu h=>AB λ_=>?_;subst h;exact⟨k!,λe=>absurd d e,λ_=>⟨c,w,j.1,rfl⟩⟩
def KT{x:AP×Int}(h:SB x.1):Ar (EU x) λr=>Bh x.1=some true->KP x.1.1 x.1.2.2.1.2.1 x.1.2.2.2.1.2.1 x.1.2.2.2.2.2.2.2 x.1.2.2.2.2.2.2.1->0<=x.2->x.2<x.1.1->r=Bg x.1.2.2.1.2.1 x.2:=by unfold EU;refine D8 (B6 h) λv u t=>AM (λa=>AB λe=>?_) (λa=>?_);rw[u,a]at e;cases e;refine AC (λa=>AB λ_ _ p=>absurd p o!) (λp=>AC (λa=>AB λ_ _ _ q=>absurd q o!) (λq=>AA Ij λg s=>AJ (λa=>AB λ_ c d j=>?_) (λk=>?_)));have⟨_,_,_,e,f,n,b⟩:=s.1 a;have:=(c x.2 d j).1 f n (by rw[b];exact e);rw[b]at this;rw[this];exact ME _ _;refine AA (Jp h) λl o=>AJ (λa=>AB λ_ c d j=>(c x.2 d j).2.1 _ (o.1 a).1 (o.1 a).2) (λm=>AA (AI o! (by have:=(t a).2.2.2.2.2.2.2;omega)) λr hr=>AB λ_ c d j=>?_);exact((c x.2 d j).2.2 r hr.1).2 (o.2 m) λf n e=>by have⟨i,w⟩:=Di n;exact absurd ⟨i,f,w,e⟩ (s.2 k (t a).2.2.2.1)
def LX(a b:Ae):Prop:=b.1=a.1/\a.2.2<=b.2.2/\ ∃t,b.2.1=a.2.1++t
def LX.refl(a:Ae):LX a a:=⟨rfl,Ad _,[],k!⟩
def LX.trans{a b c:Ae}(h:LX a b)(g:LX b c):LX a c:=by have⟨i,k,t,j⟩:=h;have⟨d,f,u,e⟩:=g;exact⟨d.trans i,pR k f,t++u,by rw[e,j,A6]⟩
def LX.get{a b:Ae}(h:LX a b){i:Nat}{e:AE}(f:a.2.1[i]? =some e):b.2.1[i]? =some e:=by have⟨c,_,t,d⟩:=h;grind[List.getElem?_append_left,Nat.lt_or_ge,List.getElem?_eq_none]
def AI7(k:AP)(z:AE)(m:AP):Prop:=
 ∃e,m.2.2.1.2.1=k.2.2.1.2.1++[e]/\e.1=k.2.2.1.1+k.2.2.1.2.1.length/\e.2.1=z.2.1/\e.2.2.2.2.2=z.2.2.2.2.2/\
  (KP k.1 k.2.2.1.2.1 k.2.2.2.1.2.1 k.2.2.2.2.2.2.2 k.2.2.2.2.2.2.1->(e.2.1=1\/e.2.1=2)->0<=e.2.2.2.2.2.2.1.1->e.2.2.2.2.2.2.1.1<k.1->e.2.2.2.2.1=Bg k.2.2.1.2.1 e.2.2.2.2.2.2.1.1)/\
  (z.2.1≠7->m.2.2.2.2.2.2.1=k.2.2.2.2.2.2.1)/\
  (z.2.1=7->0<=z.2.2.2.2.2.2.1.1/\ ∃w,k.2.2.2.2.2.2.1[z.2.2.2.2.2.2.1.1.toNat]? =some w/\m.2.2.2.2.2.2.1=k.2.2.2.2.2.2.1.set z.2.2.2.2.2.2.1.1.toNat ((if z.2.2.2.2.2.1>w.1 then z.2.2.2.2.2.1 else w.1),w.2))
def zk(k:AP)(z:AE)(m:AP):Prop:=
 m.1=k.1/\LX k.2.2.1 m.2.2.1/\Dg m.2.2.1/\m.2.2.2.1=k.2.2.2.1/\m.2.2.2.2.1=k.2.2.2.2.1/\ABB k.2.2.2.2.2.1 z.2.1 z.2.2.1 m.2.2.2.2.2.1/\m.2.2.2.2.2.2.2=k.2.2.2.2.2.2.2/\SB m/\AI7 k z m
def Fk{x:AP×AE}(h:SB x.1):Ar (EG x) λr=>r.2.2=0->VK x.1/\zk x.1 x.2 r.1/\r.2.1=x.1.2.2.1.1+x.1.2.2.1.2.1.length:=by
 unfold EG;refine D8 (B6 h) λv q E=>AM (λa=>AB n!) (λa=>?_);have n:=E a;rw[a]at q;refine AA (P:=λs=>(∃u,s= .inl u/\u.2.1≠0)\/ ∃u,s= .inr u/\u.1.2.1=x.2.2.1/\u.1.2.2.1=x.2.2.2.1/\u.1.2.2.2.2.2=x.2.2.2.2.2.2) ?_ λs D=>?_
 ·repeat' with_reducible first|intro a|apply AC|apply AM|apply AK|apply AJ|(apply A7;try dsimp only)|apply Bd|apply By|apply NC|(apply BG;try dsimp only)|(apply A3;try dsimp only)|(apply BA<;>(intro u b;try subst b))|apply AB|(refine AL ?_ (FO ?_);intro r hr)|(refine AL ?_ (AI ?_ ?_);rintro r ⟨hr,N⟩)
  all_goals ((try dsimp[len]at*);(try first|omega|assumption|grind[AX,SB]))
 rcases D with⟨u,rfl,b⟩|⟨u,rfl,b⟩;exact BG (AB λc=>absurd c b);apply A3;refine AA (B8) λO A=>AA (P:=λv:AE=>v.2.1=x.2.2.1/\v.2.2.1=x.2.2.2.1/\v.2.2.2.2.2=x.2.2.2.2.2.2/\(KP x.1.1 x.1.2.2.1.2.1 x.1.2.2.2.1.2.1 x.1.2.2.2.2.2.2.2 x.1.2.2.2.2.2.2.1->(v.2.1=1\/v.2.1=2)->0<=v.2.2.2.2.2.2.1.1->v.2.2.2.2.2.2.1.1<x.1.1->v.2.2.2.2.1=Bg x.1.2.2.1.2.1 v.2.2.2.2.2.2.1.1)) ?_ λt d=>?_;refine AJ (λa=>?_) (λa=>AB ⟨b.1,b.2.1,b.2.2,λ_ n=>absurd (A.2 n) (by simp[a])⟩);exact AA (KT h) λw F=>AB ⟨b.1,b.2.1,b.2.2,λo _ G H=>F q o G H⟩;refine AA (bR) λi B=>AK (λa=>AB (λc=>absurd c a)) (λa=>?_);have⟨a1,a2,a3,a4,a5,a6⟩:=B a;dsimp only at a2 a3 a4 a5 a6;refine AA (Gt) λp e=>AA (gz) λI l=>AK (λa=>AB (λc=>absurd c a)) (λf=>AA (VT) λJ m=>AK (λa=>AB (λc=>absurd c a)) (λg=>AB λ_=>⟨n,?_⟩))
 have L:=a2.1;have M:i.1.2.1.length=x.1.2.2.1.2.1.length+1:=by rw[a3];simp
 have⟨K,y,k,z⟩:=e.1 (e.2 a1 d! d!);dsimp only at y k z;have C:p.1=(i.2.1,t.2):=by
  have:(i.2.1-i.1.1).toNat=x.1.2.2.1.2.1.length:=o!
  rw[this,a3]at k;simpa using k.symm
 have hn:=l f;have j:=(m g).2;rw[C]at hn j;dsimp only at hn j;rw[d.1,d.2.1]at hn;rw[d.1,d.2.2.1]at j;exact⟨⟨rfl,⟨a4,Int.le_of_eq a6.symm,_,a3⟩,a1,rfl,rfl,hn,rfl,⟨h.1,by have:=hn.1;have:=h.2.1;dsimp only at*;omega,h.2.2⟩,(i.2.1,t.2),a3,a5,d.1,d.2.2.1,d.2.2.2,j⟩,a5⟩
def zk.ki{k m:AP}{z:AE}(h:zk k z m)(b:KI B k)(a:z.2.1≠1/\z.2.1≠2/\z.2.1≠6/\z.2.1≠7):KI B m:=by obtain⟨a1,_,_,a4,_,_,a7,_,e,c,g,d,i,j,f,l⟩:=h;unfold KI;rw[a1,a4,a7,c,f a.2.2.2];rw[<-d]at a;exact⟨b.1.app ⟨λh=>o!,λh=>o!,λh=>o!⟩,b.2.1.app ⟨a.1,a.2.1⟩,b.2.2⟩
def zk.sk{k m:AP}{z:AE}(h:zk k z m)(a:SK B k)(b:z.2.1≠1/\z.2.1≠2/\z.2.1≠6/\z.2.1≠7):SK B m:=h.2.2.2.2.2.2.2.1.sk (h.ki a.ki b)
end Go.Pm
namespace Go.Pm
open Go Go.Ab
set_option maxHeartbeats 400000
def DI(d:BP):Prop:=d.1.length<=64/\(∀(i:Nat) (s:BW),d.1[i]? =some s->s.length=256)/\d.2.2.1=[]/\d.2.2.2.2=[]
def X2{x:Int}{s:Int×List BW}(h:0<=s.1/\s.1<=x/\x<=64/\s.2.length=s.1/\ ∀(i:Nat) (t:BW),s.2[i]? =some t->t=GX (List.replicate (Int.toNat 256) 0)):Ar (AZ (Lx x) s) λr=>(r.length:Int)=x/\ ∀(i:Nat) (t:BW),r[i]? =some t->t=GX (List.replicate (Int.toNat 256) 0):=by
 refine AV (λ(s:Int×List BW)=>0<=s.1/\s.1<=x/\x<=64/\s.2.length=s.1/\ ∀(i:Nat) (t:BW),s.2[i]? =some t->t=GX (List.replicate (Int.toNat 256) 0)) (λ(s:Int×List BW)=>(x-s.1).toNat) h (λs c=>?_);unfold Lx;have⟨f,g,a,j,b⟩:=c;have k:(GX (List.replicate (Int.toNat 256) 0)).length=256:=by rw[fO,Fz];rfl
 repeat' with_reducible first|intro d|apply AC|apply AJ|apply AB|(refine AL ?_ (Ac ?_);rintro r ⟨hr,l,e⟩)
 all_goals first|omega|(generalize GX (List.replicate (Int.toNat 256) 0)=bs at*;simp;omega)|(generalize GX (List.replicate (Int.toNat 256) 0)=bs at*;rw[(AX (x:=s.1+1))];refine⟨⟨o!,o!,a,q!,?_⟩,o!⟩;grind)|(exact⟨o!,b⟩)
theorem JC{x:Int}(h:0<=x/\x<=64):Ar (PK x) λr=>(r.length:Int)=x/\ ∀(i:Nat) (t:BW),r[i]? =some t->t=GX (List.replicate (Int.toNat 256) 0):=by exact AA (X2 ⟨Ad _,h.1,h.2,rfl,λi t a=>by simp at a⟩) λr hr=>AB hr
def ja{x:Int}:Ar (El x) λr=>r.2=0->DI r.1/\r.1.1.length=x/\ ∀(i:Nat) (t:BW),r.1.1[i]? =some t->t=GX (List.replicate (Int.toNat 256) 0):=by refine AC (λb=>AB n!) (λb=>AC (λb=>AB n!) (λc=>AA (JC o!) λr hr=>AB λ_=>⟨⟨d!,λi t d=>?_,rfl,rfl⟩,hr⟩));rw[hr.2 i t d,fO,Fz];rfl
def dp{x:BP×Cr}:Ar (LJ x) λr=>True:=by
 unfold LJ;exact x!
def Yt{x:BP}{s:Int}(h:0<=s/\s<=x.1.length/\(x.1.length:Int)<=16777216):Ar (AZ (NH x) s) λr=>r≠ .inl true:=by
 refine AV (λ(s:Int)=>0<=s/\s<=x.1.length/\(x.1.length:Int)<=16777216) (λ(s:Int)=>((x.1.length:Int)-s).toNat) h (λs b=>?_);unfold NH;exact x!
def Yu{x:BP}{s:Int}(h:0<=s/\s<=x.2.2.1.length/\(x.2.2.1.length:Int)<=16777216):Ar (AZ (NI x) s) λr=>r≠ .inl true:=by
 refine AV (λ(s:Int)=>0<=s/\s<=x.2.2.1.length/\(x.2.2.1.length:Int)<=16777216) (λ(s:Int)=>((x.2.2.1.length:Int)-s).toNat) h (λs b=>?_);unfold NI;repeat' with_reducible first|intro a|apply AC|apply AJ|apply AB|(refine AL ?_ (AI ?_ ?_);rintro r ⟨hr,c⟩)
 all_goals ((try dsimp[len]at*);(try first|omega|assumption|grind[AX]|((try simp (disch:=omega) only[AX,len]at*)<;>(try intros)<;>(try and_intros)<;>(try intros)<;>(first|omega|assumption|grind))))
def Yv{x:BP}{s:Int}(h:0<=s/\s<=x.2.2.2.2.length/\(x.2.2.2.2.length:Int)<=16777216):Ar (AZ (NJ x) s) λr=>r≠ .inl true:=by
 refine AV (λ(s:Int)=>0<=s/\s<=x.2.2.2.2.length/\(x.2.2.2.2.length:Int)<=16777216) (λ(s:Int)=>((x.2.2.2.2.length:Int)-s).toNat) h (λs b=>?_);unfold NJ;exact x!
def dm{x:BP}(h:x.2.2.1.length<=16777216):Ar (LH x) λr=>r=true->1<=x.1.length/\x.1.length<=64:=by
 unfold LH;exact x!
def NO{x:BP×Int}(h:x.1.2.2.1.length<=16777216):Ar (GM x) λr=>r=0->0<=x.2/\x.2<x.1.1.length/\x.1.1.length<=64:=by
 unfold GM;exact x!
def XQ{x:List Int×Int}{s:Int×List Int}(h:0<=s.1/\s.1<=x.1.length/\x.1.length<=16777216/\s.2.length<=s.1):Ar (AZ (Ky x) s) λr=>r.length<=x.1.length:=by
 refine AV (λ(s:Int×List Int)=>0<=s.1/\s.1<=x.1.length/\x.1.length<=16777216/\s.2.length<=s.1) (λ(s:Int×List Int)=>((x.1.length:Int)-s.1).toNat) h (λs c=>?_);unfold Ky;exact x!
def Rz{x:List Int×Int}(h:x.1.length<=16777216):Ar (Ew x) λr=>r.length<=x.1.length:=by
 unfold Ew;exact x!
def bO{x:List Int×Int}{s:Int}(h:0<=s/\s<=x.1.length/\(x.1.length:Int)<=16777216):Ar (AZ (PL x) s) λr=>True:=by
 refine AV (λ(s:Int)=>0<=s/\s<=x.1.length/\(x.1.length:Int)<=16777216) (λ(s:Int)=>((x.1.length:Int)-s).toNat) h (λs b=>?_);unfold PL;exact x!
def jc{x:List Int×Int}(h:x.1.length<=16777216):Ar (Em x) λr=>True:=by
 unfold Em;exact x!
def gp{x:BP×Int}(h:DI x.1):Ar (MR x) λr=>r.2=0->r.1.length=256/\0<=x.2/\x.1.1[x.2.toNat]? =some r.1:=by
 unfold MR;repeat' with_reducible first|intro a|apply AK|apply AJ|apply AB|(refine AL ?_ (NO ?_);intro r hr)|(refine AL ?_ (jc ?_);intro r hr)|(refine AL ?_ (AI ?_ ?_);rintro r ⟨hr,b⟩)
 all_goals ((try dsimp[len]at*);(try first|omega|assumption|grind[DI]))
def DI.set{d:BP}{l:List BW}{i:Int}{t:BW}{u:List Int}{w:Int}{b:Bool}(h:DI d)(c:l=d.1)(n:t.length=256)(e:u.length<=([]:List Int).length):DI (E4 l i t,w,u,b,[]):=by subst c;have⟨a,f,g,k⟩:=h;refine⟨by simpa[E4]using a,λj s m=>?_,lV.1 (by simpa using e),rfl⟩;grind[E4]
def gq{x:BP×Int×BW×Int}(h:DI x.1):Ar (Q9 x) λr=>r.2=0->DI r.1/\ ∃o,0<=x.2.1/\x.1.1[x.2.1.toNat]? =some o/\r.1.1=E4 x.1.1 x.2.1 (x.2.2.1.take x.2.2.2.toNat++o.drop x.2.2.2.toNat):=by
 have⟨C,s,n,t⟩:=h;refine AA (NO (by dsimp only;rw[n];simp)) λF i=>AK (λg=>AB (λa=>absurd a g)) (λg=>AC (λ_=>AB n!) (λc0=>AC (λ_=>AB n!) (λB=>AK (λ_=>AB n!) (λv=>?_))));have⟨b,c,E⟩:=i g;simp only[len]at v;refine AA (Ac w!) λw j=>AA (Ac (by rw[n];simp)) λz k=>AA (Ac (by rw[t];simp)) λA m=>?_;have j:w=x.1.1:=q!
 have k:z=[]:=q!
 have m:A=[]:=q!
 subst j k m;refine AA (Co (Ad _)) λG e=>AA (AI b c) λH _=>AA (AI b c) λq p=>?_;have D:=s _ _ p.1;refine AA (Co o! i! (by simp[len])) λI f=>AA (Cm (by simp only[len]at f;omega)) λJ u=>AA (AI b c) λ_ _=>AA (AI b c) λ_ _=>AA (Rz k!) λy d=>AB λ_=>⟨h.set rfl (by simp only[len]at f;omega) d,q,b,p.1,?_⟩
 dsimp only;rw[u.1,e.1,f.1,BK (l:=q.drop _) (by simp[len])];simp
def whole{l:List BW}{i:Nat}{s o a b r:BW}(h:len s=256)(f: ∀(i:Nat) (s:BW),l[i]? =some s->s.length=256)(hr:r=a++b)(c:a=List.take (Int.toNat 256-Int.toNat 0) (List.drop (Int.toNat 0) s))(d:b=List.take ((len o).toNat-Int.toNat 256) (List.drop (Int.toNat 256) o))(g:l[i]? =some o):r=s:=by have j:=f _ _ g;have e:List.drop (Int.toNat 256) o=[]:=lP (by simp only[Int.reduceToNat];omega);simp only[len]at h;rw[hr,c,d,e,List.take_nil,D4];exact BK w!
def dn{x:BP×Int×BW}(h:DI x.1):Ar (QD x) λr=>r.2=0->DI r.1/\0<=x.2.1/\r.1.1=E4 x.1.1 x.2.1 x.2.2:=by
 have⟨B,o,i,j⟩:=h;refine AA (NO (by dsimp only;rw[i];simp)) λC g=>?_;refine AK (λb=>AB (λc=>absurd c b)) (λb=>?_);refine AK (λb=>AB n!) (λd=>?_);refine AQ (λb=>AB n!) (λq=>?_);refine AA (Ac w!) λy t=>?_;refine AA (Ac (by rw[i];simp)) λz u=>?_;refine AA (Ac (by rw[j];simp)) λA v=>?_;have l:y=x.1.1:=q!
 have m:z=[]:=q!
 have n:A=[]:=q!
 subst l m n;have l1: ∀s,s.1=0->AZ (NK x) s=some s.2:=λs e=>by rw[Dv];unfold NK;rw[j,e];rfl
 rw[l1 _ rfl];apply A7;have l2: ∀a s,a.1=[]->s.2.1=0->AZ (NM x a) s=some (s.1,(s.2.2.2.2.2.2.1,(s.2.2.2.2.2.1,s.2.2.2.2.2.2.2))):=λa s f e=>by rw[Dv];unfold NM;rw[f,e];rfl
 have w: ∀a s,a.1=[]->s.1=0->AZ (NN a) s=some (s.2.2.2.2.2.1,(s.2.2.2.2.1,s.2.2.2.2.2.2)):=λa s f e=>by rw[Dv];unfold NN;rw[f,e];rfl
 rw[l2 _ _ rfl rfl];repeat' with_reducible first|apply AC<;>intro b|apply AM<;>intro b|apply AQ<;>intro b|apply AK<;>intro b|apply AJ<;>intro b|(apply A7;try dsimp only)|apply Bd|apply By|apply AB|(rw[w _ _ rfl rfl];apply A7;dsimp only)|(refine AL ?_ (Rz ?_);intro r hr)|(refine AL ?_ (AI ?_ ?_);rintro r ⟨hr,q⟩)|(refine AL ?_ (Ac ?_);rintro r ⟨hr,k,p⟩)|(refine AL ?_ (Cm ?_);rintro r ⟨hr,k⟩)|(refine AL ?_ (Co ?_ ?_ ?_);rintro r ⟨hr,k⟩)
 all_goals first|omega|(simp;done)|(intro c;exact absurd c g!)|(exact λ_=>⟨h.set rfl q! hr,(g v!).1,congrArg (E4 _ _) (whole d o v! v! v! v!)⟩)|(cases b;done)|grind
def DC(p:BY):Nat:=p.2.1.countP λf=>f.2.1
def UC(p:BY):Nat:=p.2.1.countP λf=>f.2.2.2
def AAH{a:Type}{l:List a}{i:Nat}{o n:a}{q:a->Bool}(h:l[i]? =some o):(l.set i n).countP q+(if q o=true then 1 else 0)=l.countP q+(if q n=true then 1 else 0):=q!
theorem LQ{x:BY×Int×A9}(h:x.1.2.1.length<=16777216)(a:0<=x.2.1/\x.2.1<x.1.2.1.length):Ar (ID x) λr=>r=(x.1.1,x.1.2.1.set x.2.1.toNat x.2.2,x.1.2.2):=by refine AA (Ac (by simpa using h)) λr hr=>?_;have⟨hr,b,_⟩:=hr;subst hr;refine AA (AI a.1 a.2) λ_ _=>AA (AI a.1 a.2) λ_ _=>AB rfl
def core(f:A9):AU×Bool×Int:=(f.1,f.2.1,f.2.2.1)
def CF(l:List A9):List (AU×Bool×Int):=l.map core
def AGn{l:List A9}{i:Nat}{f g:A9}(h:l[i]? =some f)(a:core g=core f):CF (l.set i g)=CF l:=by unfold CF;apply I2;grind
theorem sU{l m:List A9}(h:CF m=CF l){i:Nat}{f:A9}(a:m[i]? =some f): ∃g,l[i]? =some g/\core g=core f:=by
 have:(CF m)[i]? =some (core f):=by unfold CF;rw[List.getElem?_map,a];rfl
 rw[h]at this;unfold CF at this;grind
def AGm{l m:List A9}(h:CF m=CF l):m.length=l.length:=by have:=congrArg List.length h;simpa[CF]using this
def AA7{p:BY}:DC p=(CF p.2.1).countP λc=>c.2.1:=by unfold DC CF;rw[List.countP_map];rfl
theorem KD.congr{l m:List A9}{n:Int}(h:CF m=CF l)(d:KD l n):KD m n:=by refine⟨λi f r b=>?_,λi j f g c s b q=>?_⟩;have⟨g,a,o⟩:=sU h b;have:=d.1 i g r a;grind[core,pK];have⟨e,a,o⟩:=sU h b;have⟨k,p,t⟩:=sU h q;have:=d.2 i j e k c s a p;grind[core]
def Pg.uniq{p:BY}(h:Pg p){i j:Nat}{f g:A9}(a:p.2.1[i]? =some f)(b:p.2.1[j]? =some g)(e:f.1.1=g.1.1):f=g:=by have c:=h.2.2.2.2.2.2;grind
def X5{c:List (AU×Bool×Int)}{z:Int}{s:BY}(h:c=CF s.2.1/\z=s.1/\0<=s.2.2/\s.2.2<s.2.1.length/\s.2.1.length<=64):Ar (AZ R2 s) λr=>c=CF r.2.1/\z=r.1/\0<=r.2.2/\r.2.2<r.2.1.length/\r.2.1.length<=64:=by
 refine AV (λs=>c=CF s.2.1/\z=s.1/\0<=s.2.2/\s.2.2<s.2.1.length/\s.2.1.length<=64) UC h (λs n=>?_);have⟨k,l,i,j,m⟩:=n;refine AA (AI i j) λf q=>AJ (λo=>?_) (λo=>AB ⟨k,l,i,j,m⟩);refine AA (AI i j) λd t=>?_;have e:d=f:=q!
 subst e;refine AA (LQ d! ⟨i,j⟩) λp u=>?_;subst u;refine AQ (λv=>?_) (λv=>AB ?_);grind;rw[(AX (x:=s.2.2+1))];refine⟨⟨?_,l,(Int.tmod_nonneg (len (s.2.1.set s.2.2.toNat (d.1,d.2.1,d.2.2.1,false))) (a:=s.2.2+1) o!),(Int.tmod_lt_of_pos (s.2.2+1) (b:=len (s.2.1.set s.2.2.toNat (d.1,d.2.1,d.2.2.1,false))) w!),by rw[fB];exact m⟩,?_⟩;rw[k];exact(AGn (g:=(d.1,d.2.1,d.2.2.1,false)) q.1 rfl).symm;unfold UC;grind
def bX{x:BY}:Ar (PR x) λr=>(r.2.2=0->Pg x/\Pg r.1/\CF r.1.2.1=CF x.2.1/\na r.1 r.2.1)/\(Pg x->x.2.1.length≠0->r.2.2=0):=by refine AA EE λv g=>AM (λc=>AB ⟨n!,λh _=>?_⟩) (λc=>?_);grind;have b:=g.1 c;have e:=b;have⟨k,l,m,i,n,o⟩:=b;refine AQ (λa=>AB ⟨n!,λ_ h=>absurd a (by simpa[len]using h)⟩) (λa=>?_);simp only[len]at a;refine AA (X5 ⟨rfl,rfl,i,o!⟩) λp b=>?_;have⟨q1,q2,q3,q4,q5⟩:=b;refine AA (AI q3 q4) λf d=>?_;have j:=AGm q1;refine AB ⟨λ_=>⟨e,⟨d!,d!,d!,q3,.inr q4,?_⟩,q1.symm,⟨_,f,d.1,rfl⟩⟩,λ_ _=>rfl⟩;grind[KD.congr]
def gw{x:BY×Int}:Ar (Mb x) λr=>Pg x.1-> ∀(i:Nat) (f:A9),x.1.2.1[i]? =some f->f.1.1=x.2->f.2.1=false->(∀g∈r.1.2.1,g∈x.1.2.1)/\ ∀g∈x.1.2.1,g.2.1=true->g∈r.1.2.1:=by
 unfold Mb;refine AA EE λv A=>AM (λn=>AB λo=>absurd (A.2 o) (by simp[n])) (λn=>?_);have o:=A.1 n;have T:=o.2.1;have U:=o.2.2.1;refine AA (GP o!) λi G=>?_;have⟨R,J,K,L⟩:=G;refine AC (λn=>AB λ_ j f p e _=>absurd ⟨j,f,p,e⟩ (L n)) (λH=>?_);have⟨k,I,t⟩:=K o!;refine AA (AI o! J) λw Q=>?_;have B:w=k:=by grind[Option.some.inj]
 subst B;refine AJ (λu=>AB λ_ j f p e l=>?_) (λu=>?_);have:=o.uniq p I (by rw[e,t]);subst this;rw[u]at l;cases l;have O:=AX (x:=i+1);refine AA (CU) λa C=>AA (CU o! (by simp[len];omega) i!) λb D=>?_;have S:=C.2;have M:=D.2;simp[len]at M;refine AA (Ac (by rw[Ck];omega)) λc s=>?_;have N:=s.2.1;rw[Ck]at N;refine AA (Ac o!) λd E=>?_;have q: ∀(j:Nat) (f:A9),x.1.2.1[j]? =some f->f.1.1=x.2->f.2.1=false->(∀g∈d,g∈x.1.2.1)/\ ∀g∈x.1.2.1,g.2.1=true->g∈d:=by intro j f p e l;refine⟨λg y=>?_,λg y F=>?_⟩;grind[List.mem_of_mem_take,List.mem_of_mem_drop];have⟨m,z⟩:=Di y;rw[(by grind[List.take_of_length_le,List.length_drop]:d=x.1.2.1.take i.toNat++x.1.2.1.drop (i.toNat+1)),A1];rcases Qz m i.toNat with h|h|h;exact .inl (BU (i:=m) (by rw[Jb h];exact z));grind[Option.some.inj];exact .inr (BU (i:=m-(i.toNat+1)) (by rw[Ja];rw[show i.toNat+1+(m-(i.toNat+1))=m by omega];exact z))
 refine AA (P:=λ_=>True) (AC (λ_=>AB trivial) (λ_=>AB trivial)) λV _=>AA (P:=λ_=>True) (AC (λ_=>AB trivial) (λ_=>AB trivial)) λW _=>AB λ_=>q
theorem dw{x:BY×Int×Int}:Ar (QE x) λr=>r.2=0->Pg x.1/\DC r.1<=DC x.1/\(∀(i:Nat) (f:A9),x.1.2.1[i]? =some f->f.1.1=x.2.1->f.2.1=true->f.1.2.1=x.2.2->DC r.1<DC x.1)/\(∀g∈r.1.2.1,∃f∈x.1.2.1,f.1.1=g.1.1/\f.1=g.1)/\ ∀f∈x.1.2.1,f.1.1≠x.2.1->f∈r.1.2.1:=by
 refine AA EE λv C=>?_;refine AM (λb=>AB (λo=>absurd o (by decide))) (λb=>?_);have l:=C.1 b;have J:=l.2.2.1;have I:=l.2.1;refine AA (GP (by dsimp only;omega)) λi B=>?_;have⟨G,D,E,H⟩:=B;refine AC (λb=>AB (λo=>absurd o (by decide))) (λb=>?_);have⟨f,c,d⟩:=E (by omega);refine AA (AI (by omega) D) λg z=>?_;have e:g=f:=by grind
 subst e;refine AC (λb=>AB (λo=>absurd o (by decide))) (λA=>?_);refine AM (λs=>AB (λ_=>⟨l,Am _,λj k m a h _=>?_,λg z=>⟨g,z,rfl,rfl⟩,λf c _=>c⟩)) (λs=>?_);have:=l.uniq m c (by rw[a,d]);subst this;rw[s]at h;cases h;refine AA (P:=λn:A9=>(g.1.2.1=x.2.2->n.2.1=false)/\n.1=g.1) ?_ λn hn=>?_
 ·repeat' with_reducible first|refine AC ?_ ?_<;>intro b|refine AM ?_ ?_<;>intro b|refine AQ ?_ ?_<;>intro b|refine AJ ?_ ?_<;>intro b|(refine A7 ?_;try dsimp only)|refine Bd ?_|refine By ?_|refine AB ?_|(refine AL ?_ (AI ?_ ?_);rintro r ⟨hr,F⟩)
  all_goals grind
 refine AA (LQ (by dsimp only;omega) ⟨by dsimp only;omega,by dsimp only;omega⟩) λp y=>?_;subst y;refine AB λ_=>?_;have u:=AAH (q:=λf:A9=>f.2.1) (n:=n) c;rw[s]at u;refine⟨l,?_,λj k m a h t=>?_,ABq c hn.2,λk m w=>xo c k m (by rw[d];exact w)⟩;unfold DC;dsimp only;simp at u;split at u<;>omega;have:=l.uniq m c (by rw[a,d]);subst this;rw[hn.1 t]at u;unfold DC;dsimp only;simp at u;omega
def Sq{x:AU}:Ar (C2 x) λr=>r.2=0->G8 x/\r.1=Hn x:=by have⟨v,b,h⟩:=OE (x:=x);by_cases a:v=0;exact⟨_,bu (h a),λ_=>⟨h a,rfl⟩⟩;unfold C2;rw[b,AD];exact AK (λ_=>AB λe=>absurd e a) (λe=>absurd e a)
theorem sE:Ic ()=some (jq 256):=by unfold Ic;rw[xy g!];rfl
def X1{x:BW}{s:Int×AU×AU}(h:0<=s.1/\s.1<=16/\x.length=256):Ar (AZ (GY x) s) λr=> ∀u,r= .inl u->u.1=4:=by
 refine AV (λ(s:Int×AU×AU)=>0<=s.1/\s.1<=16/\x.length=256) (λ(s:Int×AU×AU)=>(16-s.1).toNat) h (λs e=>?_);unfold GY;obtain⟨g,i,j⟩:=e;have b:=AX (x:=s.1*13);have c:=AX (x:=12+s.1*13);have d:=AX (x:=12+s.1*13+1);rw[b,c,d];repeat' with_reducible first|intro a|apply AC|apply AQ|apply AJ|apply AB|(refine AL ?_ (CM ?_ ?_);intro r hr)|(refine AL ?_ (Co ?_ ?_ ?_);rintro r ⟨hr,f⟩)|(refine AL ?_ (VG ?_ ?_);rintro r ⟨hr,f⟩)
 all_goals try dsimp only[len]at*
 all_goals first|omega|grind[AX]
def bM{x:BW}(h:x.length<=1099511627776):Ar (EQ x) λr=>(r.2=0->G8 r.1/\x=Hn r.1/\x≠jq 256)/\(r.2=7->x=jq 256):=by
 unfold EQ;rw[sE,AD];repeat' with_reducible first|intro b|apply AQ|apply AK|apply AJ|(apply BG;try dsimp only)|(apply A3;try dsimp only)|(apply BA<;>(intro u c;try subst c))|apply AB|(refine AL ?_ (DD ?_);intro r hr)|(refine AL ?_ (V4 ?_);intro r hr)|(refine AL ?_ (X1 ?_);intro r hr)|(apply AA (Sq);intro r hr)|(refine AL ?_ (Co ?_ ?_ ?_);rintro r ⟨hr,d⟩)
 all_goals try dsimp only[len]at*
 all_goals first|trivial|omega|(exact⟨n!,n!⟩)|grind
def jZ{x:Int}:Ar (Ff x) λr=>r=(x,(0,GF.all (false,[]))):=by
 unfold Ff;exact x!
def Rd(s:BW)(p:Int)(q:AU):Prop:=q.1=p/\((s=jq 256/\q=(p,(0,GF.all (false,[]))))\/(G8 q/\s=Hn q/\s≠jq 256))
def Yr{x:BW×Int}(h:x.1.length<=1099511627776):Ar (CY x) λr=>r.2=0->Rd x.1 x.2 r.1:=by refine AC (λ_=>AB n!) (λ_=>AC (λ_=>AB n!) (λ_=>AA (bM h) λv c=>AQ (λd=>?_) (λ_=>AQ (λf=>AK (λ_=>AB n!) (λb=>AB λa=>⟨b,.inr (c.1 a)⟩)) (λhn=>AB λa=>absurd a hn))));exact AA jZ λw e=>AB λ_=>by rw[e];exact⟨rfl,.inl ⟨c.2 d,rfl⟩⟩
def dy{x:BV×Int×Int×BW}(h:x.2.2.2.length<=1099511627776):Ar (LR x) λr=>r.2=0->Rd x.2.2.2 x.2.1 r.1:=by
 unfold LR;repeat' with_reducible first|intro a|apply AC|apply AM|apply AK|apply AJ|apply AB|(apply AA (Fu);intro r hr)|(refine AL ?_ (Yr ?_);intro r hr)|(refine AL ?_ (AI ?_ ?_);rintro r ⟨hr,c⟩)
 all_goals try dsimp only[len]at*
 all_goals first|assumption|omega|(intro b;exact absurd b v!)|(intro b;exact absurd b g!)|(intro _;exact hr v!)|grind
def UI{x:AU×De}:Ar (If x) λr=>(r.2=0->O3 x.2/\Fp x.1.2.2 x.2.2.1=some x.2.2.2.1)/\(O3 x.2->x.2.1=x.1.1->Fp x.1.2.2 x.2.2.1=some x.2.2.2.1->r=((x.1.1,(x.1.2.1,XD x.1.2.2 x.2.2.1 x.2.2.2.2)),0)):=by unfold If;refine AA UJ λv g=>AM (λe=>AB ⟨n!,λh=>absurd (g.2 h) (by simp[e])⟩) (λe=>?_);have b:=g.1 e;refine AK (λe=>AB ⟨n!,λ_ h=>absurd h e⟩) (λj=>?_);obtain⟨c,i,_⟩:=CM (a:=x.1.2.2) b.2.2.1 b.2.2.2.1;rw[i];refine A7 (A7 (AJ (λd=>AB ⟨n!,λ_ _ h=>?_⟩) (λd=>A7 (A7 (AB ⟨λ_=>⟨b,?_⟩,λ_ _ _=>rfl⟩)))));rw[Ba h]at d;simp at d;obtain⟨k,l⟩:=c;simp at d;rw[d.1,d.2]
def AA6{x:AU}{e:AE}(h:G8 x)(d:ML e)(f:e.2.1=1\/e.2.1=2)(b:e.2.2.2.2.2.2.1.1=x.1)(g:e.2.2.2.2.1=x.2.1)(c:Fp x.2.2 e.2.2.2.2.2.2.1.2.1=some e.2.2.2.2.2.2.1.2.2.1):Im (x,e)=some (upd x e,0):=by
 suffices i:Ar (Im (x,e)) λr=>r=(upd x e,0) by obtain⟨r,hr,rfl⟩:=i;exact hr
 have a:O3 e.2.2.2.2.2.2.1:=by grind[ML,Vq]
 refine AA CT λv j=>AM (λa=>absurd (j.2 d) (by simp[a])) (λ_=>AA B8 λw k=>AM (λa=>absurd (k.2 f) (by simp[a])) (λ_=>?_));rw[sV h];refine A7 (AK (λa=>absurd rfl a) (λ_=>AK (λa=>absurd b a) (λ_=>AK (λa=>absurd g a) (λ_=>AA UI λr hr=>?_))));rw[hr.2 a b c];exact AK (λa=>absurd rfl a) (λ_=>AB rfl)
def dt{x:AE×List AE}(h:x.2.length<=16777215):Ar (LL x) λr=>r=x.1::x.2:=by
 unfold LL;exact x!
def He(L:List AE):Prop:= ∀(i:Nat) (e:AE),L[i]? =some e->e.1=1+i/\ML e
def Dg.num{l:Ae}(h:Dg l)(a:l.1=1):He l.2.1:=λi e b=>by have:=h.2.2.2.2.2 i e b;rw[a]at this;exact this
def He.take{L:List AE}(h:He L)(k:Nat):He (L.take k):=λi e a=>h i e q!
def eX{L:List AE}{k:Nat}(h:k<L.length):L.take (k+1)=L.take k++[L[k]]:=by rw[Ce,A4 h];rfl
def He.at{L:List AE}(h:He L){k:Nat}(a:k<L.length):L[k].1=1+k/\ML L[k]:=h k _ (A4 a)
def iT{L:List AE}(h:He L)(p:Int):Bg L p<=L.length:=by
 have:=oW (p:=p) (b:=L.length+1) L 0 o! λe c=>by have⟨i,a⟩:=Di c;have:=(h i e a).1;have:=DQ a;omega
 unfold Bg;omega
def Ro{L:List AE}(h:He L)(p:Int)(j:Nat): ∀k:Nat,j<=k->Bg (L.take j) p<=Bg (L.take k) p
 |0,hj=>by rw[show j=0 by omega];exact Ad _
 |k+1,hj=>by by_cases e:j=k+1;rw[e];exact Ad _;have c:=Ro h p j k o!;by_cases a:k<L.length;rw[eX a,Pe];have b:=iT (h.take k) p;have d:=(h.at a).1;rw[BM]at b;split<;>omega;rw[BK (l:=L) (i:=k+1) o!];rwa [BK (l:=L) (i:=k) o!]at c
def xO{L:List AE}(h:He L){p:Int}{i:Nat}{e:AE}(a:L[i]? =some e)(c:dO p e=true){k:Nat}(d:i<k):e.1<=Bg (L.take k) p:=by have b:=DQ a;have:=Ro h p (i+1) k d;rw[eX b,Pe,(Ba ((A4 b).symm.trans a):L[i]=e),if_pos c]at this;exact this
def wF{L:List AE}(h:He L){p:Int}{j k:Nat}(g:Bg (L.take j) p=Bg (L.take k) p):((L.take k).drop j).filter (dO p)=[]:=by refine List.filter_eq_nil_iff.2 λe f d=>?_;obtain⟨i,a⟩:=Di f;rw[Ja]at a;have b:=DQ a;rw[BM]at b;rw[Jb o!]at a;have:=xO h a d (k:=k) o!;have c:=iT (h.take j) p;have:=(h _ _ a).1;rw[BM]at c;omega
def ut(L:List AE){j k:Nat}(h:j<=k):L.take k=L.take j++(L.take k).drop j:=by
 conv=>lhs;rw[<-Da j (L.take k)]
 rw[Ko,Q1 h]
def mD{L:List AE}{p:Int}{j k:Nat}(h:j<=k):st (L.take k) p=(((L.take k).drop j).filter (dO p)).foldl upd (st (L.take j) p):=by
 conv=>lhs;rw[ut L h]
 exact ABs _ _ _
theorem mC{L:List AE}(h:He L){p:Int}{j k:Nat}(b:Bg (L.take j) p=Bg (L.take k) p):st (L.take j) p=st (L.take k) p:=by rcases Nat.le_total j k with a|a;rw[mD a,wF h b];rfl;rw[mD a,wF h b.symm];rfl
def sL{L:List AE}(h:He L){p:Int}: ∀{k:Nat},0<Bg (L.take k) p-> ∃(i:Nat) (e:AE),i<k/\L[i]? =some e/\dO p e=true/\(i:Int)+1=Bg (L.take k) p
 |0,hk=>absurd hk (by simp[Bg])
 |k+1,hk=>by by_cases b:k<L.length;rw[eX b,Pe]at hk⊢;by_cases a:dO p L[k]=true;rw[if_pos a];exact⟨k,L[k],o!,A4 b,a,by have:=(h.at b).1;omega⟩;rw[if_neg a]at hk⊢;obtain⟨i,e,d,r⟩:=sL h hk;exact⟨i,e,o!,r⟩;rw[BK (l:=L) (i:=k+1) o!]at hk⊢;rw[<-BK (l:=L) (i:=k) o!]at hk;obtain⟨i,e,d,f,g,c⟩:=sL h hk;rw[BK (l:=L) (i:=k) o!]at c;exact⟨i,e,o!,f,g,c⟩
def YE{L:List AE}(h:He L)(p:Int)(k:Nat):0<=Bg (L.take k) p:=Ro h p 0 k (Bi _)
def YP{L:List AE}(h:He L){p:Int}{k:Nat}:Bg (L.take (Bg (L.take k) p).toNat) p=Bg (L.take k) p:=by
 have f:=YE h p k;by_cases d:Bg (L.take k) p=0;rw[d];rfl;obtain⟨i,e,g,a,c,hn⟩:=sL h (by omega:0<Bg (L.take k) p);have b:(Bg (L.take k) p).toNat=i+1:=o!
 have:=xO h a c (k:=i+1) o!;have:=iT (h.take (i+1)) p;have:=(h i e a).1;rw[b];rw[BM]at*;omega
theorem Xk{L:List AE}(h:He L){p:Int}(b:0<=p/\p<64)(d:L.length<=1099511627776): ∀k:Nat,G8 (st (L.take k) p)
 |0=>⟨b.1,b.2,Ad 0,(by decide:(0:Int)<=1099511627776),λi=>⟨⟨Bi 12,.inr rfl⟩,λ_=>rfl⟩⟩
 |k+1=>by
  have a:=Xk h b d k;by_cases c:k<L.length;rw[eX c,AA4];split;rename_i m;have⟨g,j⟩:=h.at c;have e:O3 L[k].2.2.2.2.2.2.1:=by grind[ML,Vq,dO]
  refine⟨a.1,a.2.1,by show 0<=L[k].1;omega,by show L[k].1<=_;omega,λi=>⟨?_,λf=>?_⟩⟩;show IZ (XD _ _ _ i);unfold XD;split;exact e.2.2.2.2.2;exact(a.2.2.2.2 i).1;have:L[k].1=0:=f;omega;exact a;rw[BK (l:=L) (i:=k+1) o!];rwa [BK (l:=L) (i:=k) o!]at a
def OKs:AU->List AE->Prop
 |_,[]=>True
 |x,e::r=>(G8 x/\ML e/\(e.2.1=1\/e.2.1=2)/\e.2.2.2.2.2.2.1.1=x.1/\e.2.2.2.2.1=x.2.1/\Fp x.2.2 e.2.2.2.2.2.2.1.2.1=some e.2.2.2.2.2.2.1.2.2.1)/\OKs (upd x e) r
def OKs.snoc: ∀{x:AU} {l:List AE} {e:AE},OKs x l->OKs (l.foldl upd x) [e]->OKs x (l++[e])
 |_,[],_,_,h=>h
 |_,_::_,_,h,g=>⟨h.1,OKs.snoc h.2 g⟩
def xT{n:Int}{L:List AE}(h:He L)(g:LI n L){p:Int}(o:0<=p/\p<64)(m:L.length<=1099511627776)(j:Nat): ∀k:Nat,j<=k->OKs (st (L.take j) p) (((L.take k).drop j).filter (dO p))
 |0,hj=>by rw[show j=0 by omega];exact trivial
 |k+1,hj=>by
  by_cases e:j=k+1;rw[e,YK (by rw[BM];omega)];exact trivial;have c:=xT h g o m j k o!;by_cases b:k<L.length;rw[eX b,pX (by rw[BM];omega),Gl,N3,lR];split;rename_i q;refine c.snoc ⟨?_,trivial⟩;rw[<-mD o!];have r:=g k _ (A4 b);have a:(L[k].2.1=1\/L[k].2.1=2)/\L[k].2.2.2.2.2.2.1.1=p:=by simpa[dO]using q
  have⟨d,f⟩:=r.1 a.1;rw[a.2]at d f;exact⟨Xk h o m k,(h.at b).2,a.1,by rw[a.2,TI],by rw[d,ME],f⟩;rw[D4];exact c;rw[BK (l:=L) (i:=k+1) o!];rwa [BK (l:=L) (i:=k) o!]at c
def oN{L:List AE}(h:He L){p:Int}{m j k:Nat}(l:m<=j)(n:Bg (L.take m) p=Bg (L.take j) p):((L.take k).drop m).filter (dO p)=((L.take k).drop j).filter (dO p):=by rw[<-Da (j-m) ((L.take k).drop m),Gl,MG,show m+(j-m)=j by omega];refine(congrArg (· ++_) (List.filter_eq_nil_iff.2 λe g f=>?_)).trans (Cp _);obtain⟨i,a⟩:=Di g;have c:=DQ a;rw[BM]at c;rw[Jb o!,Ja]at a;have b:=DQ a;rw[BM]at b;rw[Jb o!]at a;have:=xO h a f (k:=j) o!;have d:=iT (h.take m) p;have:=(h _ _ a).1;rw[BM]at d;omega
def AHh{n:Int}{l:Ae}(t:Dg l)(C:l.1=1)(I:LI n l.2.1){p:Int}(T:0<=p/\p<64){j k:Nat}(A:Bg (l.2.1.take j) p<=Bg (l.2.1.take k) p):Ar (RD (l,(p,(Bg (l.2.1.take k) p,Bg (l.2.1.take j) p)))) λr=>r=(((l.2.1.take k).drop j).filter (dO p),0):=by
 have b:=t.num C;have O:=YE b p k;have Q:=YE b p j;have R:=t.2.2.1;refine AA Be λv B=>AM (λa=>absurd (B.2 t) (by simp[a])) (λ_=>AC (λa=>absurd a d!) (λ_=>AC (λa=>absurd a d!) (λ_=>AC (λa=>absurd a d!) (λ_=>AC (λa=>absurd a d!) (λ_=>AA (P:=λr=>r= .inr (((l.2.1.take k).drop j).filter (dO p),Bg (l.2.1.take j) p)) ?_ λr hr=>?_)))))
 ·refine Cf (λ(s:List AE×Int)=> ∃m:Nat,m<=k/\s=(((l.2.1.take k).drop m).filter (dO p),Bg (l.2.1.take m) p)/\Bg (l.2.1.take j) p<=s.2) (λs=>s.2.toNat) ⟨k,Am _,by rw[YK (by rw[BM];omega)];rfl,A⟩ ?_;rintro s ⟨m,S,rfl,x⟩;unfold UM;dsimp only at x⊢;refine AC (λa=>?_) (λa=>Ar.done ?_)
  ·obtain⟨i,e,K,q,o,J⟩:=sL b (by omega:0<Bg (l.2.1.take m) p);have z:=DQ q;have c:(e.2.1=1\/e.2.1=2)/\e.2.2.2.2.2.2.1.1=p:=by simpa[dO]using o
   refine AA Gt λg D=>?_;have F:=D.2 t d! d!;have⟨_,_,u,_⟩:=D.1 F;dsimp only at u;rw[C,show(Bg (l.2.1.take m) p-1).toNat=i by omega,q]at u;rw[F,<-Ba u];refine AK (λa=>absurd rfl a) (λ_=>AA B8 λw N=>AM (λa=>absurd (N.2 c.1) (by simp[a])) (λ_=>AK (λa=>absurd c.2 a) (λ_=>?_)));have y:=Gm (dO p) ((l.2.1.take k).drop m);rw[FY,BM]at y;have d:=((I i e q).1 c.1).1;rw[c.2]at d;have E:=YP b (p:=p) (k:=m);rw[show(Bg (l.2.1.take m) p).toNat=i+1 by omega]at E;have L:=YP b (p:=p) (k:=j);have M:=Ro b p (Bg (l.2.1.take j) p).toNat i o!;refine AA (dt d!) λf H=>Ar.next ⟨i,o!,?_,d!⟩ (by dsimp only;rw[d];have:=iT (b.take i) p;rw[BM]at this;omega)
   rw[d,H,<-oN b (m:=i+1) (j:=m) o! E,RY (l:=l.2.1.take k) (i:=i) (by rw[BM];omega),N3];have G:(l.2.1.take k)[i]'(by rw[BM];omega)=e:=by rw[List.getElem_take];exact Ba ((A4 z).symm.trans q)
   rw[G,if_pos o]
  have e:Bg (l.2.1.take m) p=Bg (l.2.1.take j) p:=o!
  rw[e];rcases Nat.le_total m j with h|h;rw[oN b h e];rw[oN b h e.symm]
 subst hr;exact A3 (AC (λa=>absurd a d!) (λ_=>AB rfl))
def AGx{n:Int}{l:Ae}(f:Dg l)(C:l.1=1)(F:LI n l.2.1){p:Int}(t:0<=p/\p<64){j k:Nat}:Ar (RM (l,(st (l.2.1.take j) p,Bg (l.2.1.take k) p))) λr=>r=(if Bg (l.2.1.take j) p<=Bg (l.2.1.take k) p then st (l.2.1.take k) p else st (l.2.1.take j) p,0):=by
 generalize G:(if Bg (l.2.1.take j) p<=Bg (l.2.1.take k) p then st (l.2.1.take k) p else st (l.2.1.take j) p)=y;have d:=f.num C;have S:=YE d p k;have T:=f.2.2.1;have q:=Xk d t o!;suffices Q:Ar (RN (l,(st (l.2.1.take j) p,Bg (l.2.1.take k) p))) λr=>r.1=y/\r.2.2=0 from AA Q λr hr=>AB (by rw[hr.1,hr.2]);refine AA (P:=λr=> ∃b:List AE,r=(b,0)/\b.length<=4096/\OKs (st (l.2.1.take j) p) b/\b.foldl upd (st (l.2.1.take j) p)=y) ?_ λr hr=>?_;refine AA Be λv w=>AM (λa=>absurd (w.2 f) (by simp[a])) (λ_=>?_);rw[sV (q j)];refine A7 (AK (λa=>absurd rfl a) (λ_=>AC (λa=>absurd a d!) (λ_=>AC (λa=>AB ?_) (λa=>?_))));rw[ME]at a;refine⟨[],rfl,k!,trivial,?_⟩;rw[<-G];split;exact mC d (by dsimp only at a;omega);rfl;rw[ME]at a;have c:j<=k:=by rcases Nat.le_total j k with h|h;exact h;have:=Ro d p k j h;dsimp only at a;omega
 have e:((st (l.2.1.take j) p).1,(Bg (l.2.1.take k) p,(st (l.2.1.take j) p).2.1))=(p,(Bg (l.2.1.take k) p,Bg (l.2.1.take j) p)):=by rw[TI,ME]
 dsimp only at e⊢;rw[e];refine AA (AHh f C F t (by dsimp only at a;omega)) λr hr=>AB ⟨_,hr,?_,xT d F t o! j k c,by rw[<-G,if_pos (by dsimp only at a;omega)];exact(mD c).symm⟩;have o:=Gm (dO p) ((l.2.1.take k).drop j);rw[FY,BM]at o;omega
 ·obtain⟨b,rfl,m,O,u⟩:=hr;refine AK (λa=>absurd rfl a) (λ_=>AA (P:=λr=> ∃z,r= .inr (y,z)) ?_ λr hr=>?_)
  ·refine Cf (λ(s:Int×AU×AU)=> ∃A B,b=A++B/\s.1=A.length/\OKs s.2.1 B/\B.foldl upd s.2.1=y) (λ(s:Int×AU×AU)=>((b.length:Int)-s.1).toNat) ⟨[],b,rfl,rfl,O,u⟩ ?_;rintro⟨i,x,z⟩ ⟨A,B,rfl,D,E,g⟩;dsimp only at D E g;subst D;unfold US;dsimp only[len];rw[Aa]at m;refine AC (λa=>?_) (λa=>Ar.done ?_)
   ·obtain _|⟨e,B⟩:=B;simp at a;have R:ix (A++e::B) (A.length:Int)=some e:=by unfold ix;rw[if_pos o!,Ct,Cb (Am _),Gd];rfl
    obtain⟨⟨H,I,J,K,L,M⟩,N⟩:=E;rw[R,AD,AA6 H I J K L M,AD,AX (x:=(A.length:Int)+1)];refine AK (λa=>absurd rfl a) (λ_=>Ar.next ⟨A++[e],B,k!,k!,N,g⟩ d!)
   obtain _|⟨e,B⟩:=B;exact⟨z,by rw[<-g];rfl⟩;simp at a;omega
  obtain⟨z,rfl⟩:=hr;exact A3 (AB ⟨rfl,rfl⟩)
variable {B:Int->Prop}
def KS(B:Int->Prop)(k m:AP):Prop:=m.1=k.1/\LX k.2.2.1 m.2.2.1/\Dg m.2.2.1/\m.2.2.2.2.1=k.2.2.2.2.1/\m.2.2.2.2.2.1=k.2.2.2.2.2.1/\SK B m
def KS.refl{k:AP}(h:SK B k)(a:Dg k.2.2.1):KS B k k:=⟨rfl,LX.refl _,a,rfl,rfl,h⟩
def KS.trans{a b c:AP}(h:KS B a b)(g:KS B b c):KS B a c:=⟨g.1.trans h.1,h.2.1.trans g.2.1,g.2.2.1,g.2.2.2.1.trans h.2.2.2.1,g.2.2.2.2.1.trans h.2.2.2.2.1,g.2.2.2.2.2⟩
def LX.of{a b:Ae}(h:b.1=a.1)(g:b.2.1=a.2.1)(d:a.2.2<=b.2.2):LX a b:=⟨h,d,[],by rw[g,D4]⟩
def KI.of{k m:AP}(h:KI B k)(a:m.1=k.1)(b:m.2.2.1.2.1=k.2.2.1.2.1)(c:m.2.2.2.1=k.2.2.2.1)(d:m.2.2.2.2.2.2=k.2.2.2.2.2.2):KI B m:=by unfold KI;rw[a,b,c,d];exact h
def sX{x:Ae×Int}(h:Dg x.1)(c:x.2<=x.1.1+x.1.2.1.length-1):Ar (EB x) λr=>r.2=0:=by refine AA Be λv d=>AM (λa=>?_) (λ_=>?_);grind;refine AA ER λe b=>?_;rw[h.last]at b;exact AC (λa=>absurd a o!) (λ_=>AB rfl)
def Jo{x:AP×Int}(h:SK B x.1)(c:Dg x.1.2.2.1):Ar (Fl x) λr=>KS B x.1 r/\r.2.2.2.1=x.1.2.2.2.1/\(x.2<=x.1.2.2.1.1+x.1.2.2.1.2.1.length-1->x.2<=r.2.2.1.2.2):=by unfold Fl;refine AA GO λv d=>?_;have d:=d c;refine AA (Jl.and (sX c (by dsimp only;split<;>omega))) λw a=>?_;have⟨i,e,j,k,f⟩:=a.1 a.2;refine Bd (AQ (λb=>AB ⟨⟨rfl,LX.of j e k,i,rfl,rfl,SB.sk h.sb (h.ki.of rfl e rfl rfl)⟩,rfl,λg=>?_⟩) (λb=>absurd a.2 b));dsimp only at f⊢;split at f<;>omega
def Zr{x:AP×Int×Int}(h:SK B x.1)(p: ∃f∈x.1.2.2.2.1.2.1,f.1.1=x.2.1/\f.1.2.1=x.2.2):Ar (Jq x) λr=>r.2=0->VK x.1/\KS B x.1 r.1/\DC r.1.2.2.2.1<=DC x.1.2.2.2.1/\ ∀(i:Nat) (f:A9),x.1.2.2.2.1.2.1[i]? =some f->f.1.1=x.2.1->f.2.1=true->f.1.2.1=x.2.2->DC r.1.2.2.2.1<DC x.1.2.2.2.1:=by unfold Jq;refine AA (B6 h.sb) λv O=>AM (λb=>AB n!) (λb=>?_);have A:=O b;refine AC (λb=>AB n!) (λ_=>AC (λb=>AB n!) (λ_=>AC (λb=>AB n!) (λ_=>AA GO λ_ _=>AC (λb=>AB n!) (λ_=>AA FN λi L=>AA (P:=λs=>(∃u,s= .inl u/\u.1≠0)\/ ∃u,s= .inr u/\(DC u.1<=DC x.1.2.2.2.1/\ ∀(i:Nat) (f:A9),x.1.2.2.2.1.2.1[i]? =some f->f.1.1=x.2.1->f.2.1=true->f.1.2.1=x.2.2->DC u.1<DC x.1.2.2.2.1)/\(∀g∈u.1.2.1,∃f∈x.1.2.2.2.1.2.1,f.1.1=g.1.1/\f.1=g.1)/\ ∀f∈x.1.2.2.2.1.2.1,f.1.1≠x.2.1->f∈u.1.2.1) ?_ λs N=>?_))));refine AC (λb=>?_) (λb=>AB (.inr ⟨_,rfl,⟨Am _,λj f M q _ _=>absurd (L.2.2.2 A.2.2.2.1 ⟨j,f,M,q⟩) b⟩,λg K=>⟨g,K,rfl,rfl⟩,λf n _=>n⟩));grind[AA,dw,AK,AB];rcases N with⟨u,rfl,t⟩|⟨u,rfl,t,m,y⟩;exact BG (AB λc=>absurd c t);apply A3;refine AA (Fk h.sb) λa J=>AK (λb=>AB (λc=>absurd c b)) (λb=>AB λ_=>?_);have⟨_,⟨a1,a2,a3,a4,a5,a6,a7,a8,e,E,Q,F,o,R,S,G⟩,_⟩:=J b;have⟨f,n,H,I⟩:=p;have⟨q0,w,C,D⟩:=G rfl;have T:=h.ki.2.2 f n;have d:=congrArg (λz=>z.2.1) ((h.ki.2.1 x.2.1 o! o!).1 f n H);rw[ME]at d;refine⟨A,⟨a1,a2,a3,a5,a6.2.1 rfl,a8.1,a8.2.1,a8.2.2,?_⟩,t⟩;unfold KI;dsimp only at F o C D⊢;rw[a1,a7,E,D];have k:=congrArg (λz=>z.1) o;have l:=congrArg (λz=>z.2.1.1) o;dsimp only at k l;refine⟨h.ki.1.app ⟨λh=>o!,λ_=>?_,λh=>o!⟩,(h.ki.2.1.written o! o! o! m y C).app o!,h.ki.2.2.sub m⟩;rw[k,l,<-I];exact d
def hZ{x:AP}(h:SK B x):Ar (Mh x) λr=>r.2.2.2=0->VK x/\KS B x r.1/\(r.2.2.1=true->DC r.1.2.2.2.1=DC x.2.2.2.1/\ ∃(i:Nat) (f:A9),r.1.2.2.2.1.2.1[i]? =some f/\f.1=r.2.1/\f.2.1=true/\r.2.1.2.1<=r.1.2.2.1.2.2):=by
 unfold Mh;refine AA (B6 h.sb) λv M=>AM (λn=>AB n!) (λn=>?_);have c:=M n;refine AC (λn=>AB (λ_=>⟨c,KS.refl h c.2.2.1,λt=>by cases t⟩)) (λm=>AA bX λw D=>?_);have⟨_,F,O,P⟩:=D.1 (D.2 c.2.2.2.1 (by have:=c.2.2.2.1.1;simp[len]at m;omega));have G: ∀g∈w.1.2.1,∃f∈x.2.2.2.1.2.1,core g=core f:=λg b=>by grind[List.getElem?_of_mem,sU,List.mem_of_getElem?]
 have H: ∀f∈x.2.2.2.1.2.1,∃g∈w.1.2.1,core g=core f:=λf l=>by grind[List.getElem?_of_mem,sU,List.mem_of_getElem?]
 have u: ∀{f g:A9},core f=core g->f.1=g.1/\f.2.1=g.2.1:=λe=>⟨congrArg (λz=>z.1) e,congrArg (λz=>z.2.1) e⟩
 have k1: ∀g∈w.1.2.1,∃f∈x.2.2.2.1.2.1,f.1.1=g.1.1/\f.1=g.1:=λg b=>by have⟨f,l,e⟩:=G g b;exact⟨f,l,by rw[(u e).1],by rw[(u e).1]⟩
 have N: ∀f∈x.2.2.2.1.2.1,f.2.1=true-> ∃g∈w.1.2.1,g.1.1=f.1.1/\g.2.1=true:=λf l y=>by have⟨g,b,e⟩:=H f l;exact⟨g,b,by rw[(u e).1],by rw[(u e).2,y]⟩
 refine AA FN λi A=>?_;have E:=A.2.2.2 F P;refine AA (AI E A.2.1) λf l=>?_;have a:KI B (x.1,(x.2.1,(x.2.2.1,(w.1,x.2.2.2.2)))):=⟨h.ki.1,h.ki.2.1.frames k1 N,h.ki.2.2.sub k1⟩
 apply AM<;>intro n;have⟨_,L,o,J⟩:=A.2.2.1 E;have K:L=f:=by have:=l.1;rw[o]at this;exact Ba this
 subst K;refine AA gw λd y=>AB λ_=>⟨c,⟨rfl,LX.refl _,c.2.2.1,rfl,rfl,h.1,h.2.1,h.2.2.1,?_⟩,λt=>by cases t⟩
 have⟨C,I⟩:=y F _ _ o J n;exact⟨h.ki.1,a.2.1.frames (λg b=>⟨g,C g b,rfl,rfl⟩) (λg b s=>⟨g,I g b s,rfl,s⟩),a.2.2.sub λg b=>⟨g,C g b,rfl,rfl⟩⟩;refine AA (Jo (SB.sk ⟨h.1,h.2.1,h.2.2.1⟩ a) c.2.2.1) λk j=>AB λ_=>⟨c,j.1,λ_=>⟨?_,i.toNat,f,?_,rfl,n,j.2.2 ?_⟩⟩
 rw[j.2.1,AA7,AA7,O];rw[j.2.1];exact l.1;have q:=BU l.1;have p:=a.2.2 f q;have:=congrArg (λz=>z.2.1) ((a.2.1 f.1.1 p.1 p.2.1).1 f q rfl);dsimp only at this⊢;rw[this,ME];have:=lq c.2.2.1 f.1.1;omega
def AGw(P:List AE)(p:Int)(s:BW):Prop:=s=jq 256\/ ∃j:Nat,s=Hn (st (P.take j) p)
def dead(s:BW):Prop:=s≠jq 256/\ ∀q,G8 q->s≠Hn q
def DP(B:Int->Prop)(P:List AE)(d:BP):Prop:=DI d/\ ∀(i:Nat) (s:BW),d.1[i]? =some s->(B i->AGw P i s)/\(B i\/dead s)
def dl(l:Ae):List AE:=l.2.1.take l.2.2.toNat
def DJ(B:Int->Prop)(l:Ae)(d:BP):Prop:=l.1=1/\DP B (dl l) d
def DP.up{P Q:List AE}{d:BP}{m:Nat}(h:DP B P d)(e:P=Q.take m):DP B Q d:=⟨h.1,λi s a=>⟨λb=>by rcases(h.2 i s a).1 b with q|⟨j,q⟩;exact .inl q;rw[e,Ko]at q;exact .inr ⟨_,q⟩,(h.2 i s a).2⟩⟩
def DJ.up{a b:Ae}{d:BP}(h:DJ B a d)(g:LX a b):DJ B b d:=by obtain⟨c,f,t,e⟩:=g;refine⟨c.trans h.1,h.2.up (m:=min a.2.2.toNat a.2.1.length) ?_⟩;unfold dl;rw[e,Ko,Q1 o!,fF o!,Nat.min_comm,<-Ko,BK (l:=a.2.1.take _) (by rw[BM];omega)]
def AEk{L:List AE}(h:He L){p d:Int}(f:Bg L p<=d):st (L.take d.toNat) p=st L p:=by
 have e:=Hk (l:=L);have a:=YP h (p:=p) (k:=L.length);rw[e]at a;have b:=Ro h p (Bg L p).toNat d.toNat o!
 have c:Bg (L.take d.toNat) p<=Bg L p:=by rcases Nat.le_total d.toNat L.length with q|q;have:=Ro h p _ _ q;rwa [e]at this;rw[BK q];exact Ad _
 have:=mC h (p:=p) (j:=d.toNat) (k:=L.length) (by rw[e];omega);rwa [e]at this
def UU{x:AS×AP×AU}(h:SK B x.2.1)(A:Dg x.2.1.2.2.1)(l:DJ B x.2.1.2.2.1 x.1.2)(n: ∃f∈x.2.1.2.2.2.1.2.1,f.1=x.2.2)(y:x.2.2.2.1<=x.2.1.2.2.1.2.2):Ar (Lg x) λr=>r.2=0->KS B x.2.1 r.1.1/\DJ B r.1.1.2.2.1 r.1.2/\DC r.1.1.2.2.2.1<=DC x.2.1.2.2.2.1/\((∃(i:Nat) (f:A9),x.2.1.2.2.2.1.2.1[i]? =some f/\f.1=x.2.2/\f.2.1=true)->DC r.1.1.2.2.2.1<DC x.2.1.2.2.2.1):=by
 have⟨f,m,b⟩:=n;have a:=h.ki.2.2 f m;have c:=(h.ki.2.1 f.1.1 a.1 a.2.1).1 f m rfl;refine D8 Sq λv G _=>AA (dn l.2.1) λw L=>AK (λd=>AB (λo=>absurd o d)) (λd=>AA (Zr h ⟨f,m,by rw[b],by rw[b]⟩) λu K=>AK (λd=>AB (λo=>absurd o d)) (λq=>AB λ_=>?_));have⟨D,E,M,N⟩:=K q;have⟨O,P,F⟩:=L d;refine⟨E,DJ.up ⟨l.1,O,λi s j=>?_⟩ E.2.1,M,λ⟨i,g,H,t,I⟩=>N i g H (by rw[t]) I (by rw[t])⟩;have C:=A.num l.1;have k:=Xk C (p:=f.1.1) ⟨a.1,by have:=D.2.1;have:=D.1;dsimp only at*;omega⟩ (by have:=A.2.2.1;omega) x.2.1.2.2.1.2.1.length;rw[Hk,<-c,b]at k;rw[bu k]at G;dsimp only at F j;rw[F]at j;by_cases J:i=x.2.2.1.toNat
 subst J;have e:s=Hn x.2.2:=by unfold E4 at j;grind
 rw[b]at a c;rw[show((x.2.2.1.toNat:Nat):Int)=x.2.2.1 by omega];refine⟨λ_=>.inr ⟨(dl x.2.1.2.2.1).length,?_⟩,.inl a.2.2.2⟩;rw[Hk,e];unfold dl;rw[AEk C (by have:=congrArg (λz=>z.2.1) c;rw[ME]at this;omega),<-c];exact l.2.2 i s (by unfold E4 at j;rwa [List.getElem?_set_ne o!]at j)
def SvR(B:Int->Prop)(s r:AS):Prop:=KS B s.1 r.1/\DJ B r.1.2.2.1 r.2
def iJ{x:AS}(h:SK B x.1)(j:Dg x.1.2.2.1)(g:DJ B x.1.2.2.1 x.2):Ar (Mm x) λr=>r.2=0->SvR B x r.1:=by unfold Mm;refine AA (P:=λr=>r.1=0->SvR B x r.2) ?_ λr hr=>AB hr;refine AV (λs=>SvR B x s.1) (λs=>DC s.1.1.2.2.2.1) ⟨KS.refl h j,g⟩ (λs c=>?_);unfold UT;refine AA (hZ c.1.2.2.2.2.2) λv k=>AK (λa=>AB (λe=>absurd e a)) (λa=>?_);have⟨q,b,m⟩:=k a;refine AM (λa=>AB (λ_=>⟨c.1.trans b,c.2.up b.2.1⟩)) (λd=>?_);have⟨q1,i,f,q2,q3,q4,q5⟩:=m d;refine AA (UU b.2.2.2.2.2 b.2.2.1 (c.2.up b.2.1) ⟨f,BU q2,q3⟩ q5) λw l=>AK (λa=>AB (λe=>absurd e a)) (λa=>AB ?_);have⟨n,o,t,p⟩:=l a;exact⟨⟨(c.1.trans b).trans n,o⟩,by have:=p ⟨i,f,q2,q3,q4⟩;dsimp only at*;omega⟩
end Go.Pm
namespace Go.Pm
open Go Go.Ab
set_option maxHeartbeats 400000
variable {B:Int->Prop}
def YB{x:AP×AU}{s:Int×List Ag}(h:0<=s.1/\s.1<=x.1.2.2.2.2.2.2.2.length/\x.1.2.2.2.2.2.2.2.length<=16777216/\s.2=(x.1.2.2.2.2.2.2.2.take s.1.toNat).filter (λd=>d.1 !=x.2.1)):Ar (AZ (L8 x) s) λr=>r=x.1.2.2.2.2.2.2.2.filter λd=>d.1 !=x.2.1:=by refine AV (λ(s:Int×List Ag)=>0<=s.1/\s.1<=x.1.2.2.2.2.2.2.2.length/\x.1.2.2.2.2.2.2.2.length<=16777216/\s.2=(x.1.2.2.2.2.2.2.2.take s.1.toNat).filter (λd=>d.1 !=x.2.1)) (λ(s:Int×List Ag)=>((x.1.2.2.2.2.2.2.2.length:Int)-s.1).toNat) h (λs j=>?_);have⟨b,q,g,i⟩:=j;unfold L8;refine AC (λf=>?_) (λf=>AB ?_);simp[len]at f;have m:=oR (l:=x.1.2.2.2.2.2.2.2) (p:=λd=>d.1 !=x.2.1) b;rw[<-i]at m;refine AA (AI b f) λv o=>?_;have e:=AX (x:=s.1+1);have n:=lm (p:=λd:Ag=>d.1 !=x.2.1) b o.1;refine AA (P:=λa=>a=(x.1.2.2.2.2.2.2.2.take (s.1+1).toNat).filter (λd=>d.1 !=x.2.1)) ?_ λa c=>AB ⟨⟨d!,d!,g,by dsimp only;rw[c,e]⟩,d!⟩;refine AJ (λk=>?_) (λk=>AB ?_);grind[AA,AI,Option.some.inj,Ac,AB];grind;grind[List.take_of_length_le]
def bZ{x:AP×AU}(h:SK B x.1)(L:Bh x.1=some true->x.2=st x.1.2.2.1.2.1 x.2.1/\B x.2.1):Ar (KU x) λr=>r.2=0->KS B x.1 r.1/\na r.1.2.2.2.1 x.2.1:=by
 unfold KU;refine D8 (B6 h.sb) λv O hv=>AM (λg=>AB n!) (λg=>?_);have K:=hv g;rw[g]at O;refine AC (λg=>AB n!) (λx0=>AC (λg=>AB n!) (λx1=>AA (KT h.sb) λy1 ag=>AC (λg=>AB n!) (λx2=>AA (KT h.sb) λy2 al=>AC (λg=>AB n!) (λx3=>?_))));have⟨R,Q⟩:=L O;refine AA EE λv3 _=>AM (λg=>AB n!) (λ_=>AA OE λv4 _=>AK (λg=>?_) (λ_=>?_));grind[AK,AB];have p2:=K.2.2.2.1.2.1;have p3:=K.2.2.2.1.2.2.1;refine AA (GP d!) λi I=>AC (λg=>AB n!) (λA=>?_);have A:=I.2.2.2 o!;refine AQ (λg=>AB n!) (λ_=>AA (Ac w!) λv8 C=>?_);have⟨C,Z,_⟩:=C;rw[Cp]at C;subst C;refine AA (Ac w!) λc n=>?_;have⟨n,o,_⟩:=n;have q:c[c.length-1]? =some (x.2,(false,(0,true))):=by rw[n];simp
 have hn:(c.length:Int)-1=((c.length-1:Nat):Int):=by simp at o;omega
 have e:=AX (x:=(c.length:Int)-1) (by simp at o;omega);have k: ∀f∈x.1.2.2.2.1.2.1,f.1.1≠x.2.1:=λf H e=>by have⟨i,I⟩:=Di H;exact A ⟨i,f,I,e⟩
 refine AA (Jp h.sb) λt w=>AA (P:=λv:List A9×AP×Int×Int×Int×Int×Int×Int=>(∃(i:Nat) (f:A9),v.1[i]? =some f/\f.1.1=x.2.1)/\(v.2.1.1=x.1.1/\v.2.1.2.2.1=x.1.2.2.1/\v.2.1.2.2.2.2.1=x.1.2.2.2.2.1/\v.2.1.2.2.2.2.2.1=x.1.2.2.2.2.2.1/\SB v.2.1/\v.2.1.2.2.2.2.2.2.1=x.1.2.2.2.2.2.2.1)/\KP x.1.1 x.1.2.2.1.2.1 v.1 v.2.1.2.2.2.2.2.2.2 x.1.2.2.2.2.2.2.1/\FD B x.1.1 v.1 v.2.1.2.2.2.2.2.2.2) ?_ λax m=>?_
 ·refine AJ (λs=>?_) (λs=>AB ⟨⟨_,_,q,rfl⟩,⟨rfl,rfl,rfl,rfl,h.sb,rfl⟩,?_,?_⟩);rotate_left 1;rw[n];exact h.ki.2.1.supply R k rfl (.inr ⟨rfl,w.2 s,rfl⟩);rw[n];exact h.ki.2.2.supply (p:=x.2.1) o! o! Q rfl (λd y=>y) (w.2 s);rw[hn]at e;simp only[len,hn,e];have z:c.length-1<c.length:=by simp at o;omega
  refine AA (AI) λao W=>AA (AI) λj X=>?_;have V:j.1=x.2:=by grind[Int.toNat_natCast,Option.some.inj]
  have ad:(E4 c ((c.length-1:Nat):Int) (j.1,(true,j.2.2))).length=c.length:=by simp[E4]
  refine AA (AI) λap Y=>AA (AI) λa F=>?_;have l:a.1=x.2:=by grind[Int.toNat_natCast,E4,List.getElem?_set_self,Option.some.inj]
  refine AA (YB ⟨k!,k!,h.2.2.1,k!⟩) λar G=>?_;have u:a.2.1=true:=by have:=F.1;simp[Ct,E4]at this;rw[HG z]at this;rw[<-Ba this]
  have N:E4 (E4 c ((c.length-1:Nat):Int) (j.1,(true,j.2.2))) ((c.length-1:Nat):Int) (a.1,(a.2.1,(t.1.2.1,a.2.2.2)))=x.1.2.2.2.1.2.1++[(a.1,(a.2.1,(t.1.2.1,a.2.2.2)))]:=by simp[E4,Ct,Ya,(by rw[n];simp:c.length-1=x.1.2.2.2.1.2.1.length)];rw[n,TY _ _ (Am _)];simp
  subst G;refine AB ⟨⟨c.length-1,(a.1,(a.2.1,(t.1.2.1,a.2.2.2))),?_,by rw[l]⟩,⟨rfl,rfl,rfl,rfl,⟨h.1,h.2.1,Cz (Gm _ _) h.2.2.1⟩,rfl⟩,?_,?_⟩;simp[E4,Ct];rw[HG (by simpa using z)];rw[N];exact h.ki.2.1.supply R k l (.inl ⟨u,rfl⟩);rw[N];exact h.ki.2.2.supply (p:=x.2.1) o! o! Q (by rw[l]) (λd y=>(Bk.1 y).1) (λd y=>by simpa using(Bk.1 y).2)
 have⟨i,f,H,J⟩:=m.1;have⟨M,D,S,T,E,U⟩:=m.2.1;refine AB λ_=>⟨⟨M,by dsimp only;rw[D];exact LX.refl _,by dsimp only;rw[D];exact K.2.2.1,S,T,E.1,E.2.1,E.2.2,?_⟩,i,f,H,J⟩
 unfold KI;dsimp only;rw[M,D,U];exact⟨h.ki.1,m.2.2⟩
def AH6{x:AP×Int}(h:Bh x.1=some false):EU x=some 0:=by unfold EU;rw[h];rfl
def Rd.st{P:List AE}{p:Int}{s:BW}{q:AU}(h:Rd s p q)(d:AGw P p s)(e: ∀j,G8 (st (P.take j) p)): ∃j:Nat,q=Go.Pm.st (P.take j) p:=by obtain⟨_,⟨_,h⟩|⟨a,b,c⟩⟩:=h;exact⟨0,h⟩;rcases d with q|⟨j,q⟩;exact absurd q c;exact⟨j,ADj a (e j) (b.symm.trans q)⟩
def HS{x:AS×Int}(h:SK B x.1.1)(g:DJ B x.1.1.2.2.1 x.1.2):Ar (Ee x) λr=>r.2=0->SvR B x.1 r.1/\na r.1.1.2.2.2.1 x.2:=by
 unfold Ee;refine AA (B6 h.sb) λv X=>AM (λa=>AB n!) (λa=>?_);have s:=X a;refine AC (λa=>AB n!) (λp0=>AC (λa=>AB n!) (λp1=>AA FN λi W=>AC (λa=>AB λ_=>⟨⟨KS.refl h s.2.2.1,g⟩,?_⟩) (λ_=>?_)));have⟨_,f,V,C⟩:=W.2.2.1 a;exact⟨_,f,V,C⟩;refine AA (iJ h s.2.2.1 g) λo Q=>AK (λa=>AB (λc=>absurd c a)) (λw=>?_);have⟨t,m⟩:=Q w;have n:=t.2.2.2.2.2;have F:=t.2.2.1;have k1:=s.1;have k2:=s.2.1;have H:0<=x.2/\x.2<64:=o!
 have M:=F.num m.1;have h4:=F.2.2.1;refine AA (gp m.2.1) λv3 R=>AK (λa=>AB (λc=>absurd c a)) (λy=>?_);have⟨Y,Z,O⟩:=R y;have⟨b,u,_⟩:=B6 n.sb;refine AA (P:=λr=> ∃k:Nat,r=Bg (o.1.1.2.2.1.2.1.take k) x.2/\(b=true->k=o.1.1.2.2.1.2.1.length)) ?_ λv4 ⟨k,D,E⟩=>?_;cases b with
 |false=>exact⟨_,AH6 u,0,rfl,λU=>by cases U⟩
 |true=>exact(KT n.sb).mono λr hr=>⟨_,by rw[Hk];exact hr u n.ki.2.1 H.1 (by have:=t.1;dsimp only at this⊢;omega),λ_=>rfl⟩
 refine AA (dy d!) λv5 e=>AK (λa=>AB (λc=>absurd c a)) (λz=>?_);have e:=e z;dsimp only at e;have d:=m.2.2 _ _ O;rw[show((x.2.toNat:Nat):Int)=x.2 by omega]at d;have L:B x.2:=d.2.resolve_right λg=>by obtain⟨_,⟨q,_⟩|⟨q1,q2,_⟩⟩:=e;exact g.1 q;exact g.2 _ q1 q2
 have I:=Xk M H o!;obtain⟨j,p⟩:=e.st (d.1 L) λj=>by unfold dl;rw[Ko];exact I _
 unfold dl at p;rw[Ko]at p;generalize min j o.1.1.2.2.1.2.2.toNat=j' at p;rw[p,D];refine AA (AGx F m.1 n.ki.1 H) λv6 S=>?_;subst S;refine AK (λa=>absurd rfl a) (λ_=>AA (bZ n λK=>?_) λv7 T=>?_);rw[u]at K;have l:=E (Ba K);have G:Bg (o.1.1.2.2.1.2.1.take j') x.2<=Bg (o.1.1.2.2.1.2.1.take k) x.2:=by rcases Nat.le_total j' k with q|q;exact Ro M _ _ _ q;rw[BK o!,l,Hk];exact Ad _
 dsimp only;rw[if_pos G,l,Hk,TI];exact⟨rfl,L⟩;refine AK (λa=>AB (λc=>absurd c a)) (λA=>AB λ_=>?_);have⟨N,J⟩:=T A;refine⟨⟨t.trans N,m.up N.2.1⟩,?_⟩;dsimp only at J;split at J<;>rwa [TI]at J
end Go.Pm
namespace Go.Pm
open Go Go.Ab
set_option maxHeartbeats 400000
variable {B:Int->Prop}
def KL(B:Int->Prop)(k m:AP):Prop:=m.1=k.1/\LX k.2.2.1 m.2.2.1/\SK B m/\Dg m.2.2.1
theorem KL.refl{k:AP}(h:SK B k)(a:Dg k.2.2.1):KL B k k:=⟨rfl,LX.refl _,h,a⟩
def KL.trans{a b c:AP}(h:KL B a b)(g:KL B b c):KL B a c:=⟨g.1.trans h.1,h.2.1.trans g.2.1,g.2.2⟩
def KS.kl{a b:AP}(h:KS B a b):KL B a b:=⟨h.1,h.2.1,h.2.2.2.2.2,h.2.2.1⟩
def zk.kl{a b:AP}{z:AE}(h:zk a z b)(c:SK B a)(d:z.2.1≠1/\z.2.1≠2/\z.2.1≠6/\z.2.1≠7):KL B a b:=⟨h.1,h.2.1,h.sk c d,h.2.2.1⟩
def SK.locks{k:AP}{l:A5}(h:SK B k)(a:Fy l):SK B (k.1,(k.2.1,(k.2.2.1,(k.2.2.2.1,(l,k.2.2.2.2.2))))):=⟨a,h.2⟩
def Pg.idx{p:BY}(h:Pg p){i j:Nat}{f g:A9}(a:p.2.1[i]? =some f)(b:p.2.1[j]? =some g)(e:g.1.1=f.1.1):j=i:=by have l1:=DQ a;have l2:=DQ b;rcases Qz i j with q|q|q;exact absurd e.symm (h.2.2.2.2.2.2 i j f g q o! a b);exact q.symm;exact absurd e (h.2.2.2.2.2.2 j i g f q o! b a)
def jf{x:BY×Int}:Ar (Ns x) λr=>(∀g∈r.2.1,∃f∈x.1.2.1,f.1.1=g.1.1/\f.1=g.1)/\ ∀f∈x.1.2.1,f.2.1=true-> ∃g∈r.2.1,g.1.1=f.1.1/\g.2.1=true:=by unfold Ns;refine AA FN λv b=>AC (λ_=>AB ⟨λg k=>⟨g,k,rfl,rfl⟩,λf a h=>⟨f,a,rfl,h⟩⟩) (λm=>?_);have d:=b.2.2.1 o!;have o:=d.1.2.1;have p:=d.1.2.2.1;refine AA (AI o! b.2.1) λl c=>AA (LQ d! ⟨d!,b.2.1⟩) λr hr=>AB ?_;subst hr;refine⟨ABq c.1 rfl,λf a j=>?_⟩;by_cases e:f.1.1=l.1.1;have⟨i,n⟩:=Di a;grind[Option.some.inj,List.mem_of_getElem?,List.getElem?_set_self,DQ];exact⟨f,xo c.1 f a e,rfl,j⟩
def bW{x:BY×AU}:Ar (KM x) λr=>r.2=0->Pg x.1/\ ∃(i:Nat) (f g:A9),x.1.2.1[i]? =some f/\f.1.1=x.2.1/\r.1.2.1=x.1.2.1.set i g/\g.1=x.2/\g.2.1=true:=by unfold KM;refine AA EE λv c=>AM (λ_=>AB n!) (λb=>?_);have h:=(c.1 b).2.1;have j:=(c.1 b).2.2.1;refine AA OE λ_ _=>AK (λb=>AB λa=>absurd a b) (λ_=>AA (GP d!) λi d=>AC (λ_=>AB n!) (λb=>AA (AI o! d.2.1) λk e=>AC (λ_=>AB n!) (λ_=>AA (P:=λ_=>True) (AM (λ_=>AB trivial) (λ_=>AB trivial)) λl _=>?_)));grind[AA,LQ,AB,Option.some.inj]
def ML.cell{e:AE}(h:ML e):0<=e.2.2.2.2.2.2.1.2.1/\e.2.2.2.2.2.2.1.2.1<16:=by have a:=h.2.2.2.2.2.2.2.2;grind[Vq,O3,QO]
def KI.same{k:AP}(h:KI B k){f g:A9}(a:f∈k.2.2.2.1.2.1)(b:g∈k.2.2.2.1.2.1)(e:g.1.1=f.1.1):g.1=f.1:=by have hr:=h.2.2 f a;rw[(h.2.1 f.1.1 hr.1 hr.2.1).1 g b e];exact((h.2.1 f.1.1 hr.1 hr.2.1).1 f a rfl).symm
def V5{x:AP×AE}(h:SK B x.1)(L:Dg x.1.2.2.1)(b:0<=x.2.2.2.2.2.2.2.1.2.1/\x.2.2.2.2.2.2.2.1.2.1<16)(s:x.2.2.1=1\/x.2.2.1=2)(hp:Pg x.1.2.2.2.1)(ad:na x.1.2.2.2.1 x.2.2.2.2.2.2.2.1.1)(G: ∀f∈x.1.2.2.2.1.2.1,f.1.1=x.2.2.2.2.2.2.2.1.1->Fp f.1.2.2 x.2.2.2.2.2.2.2.1.2.1=some x.2.2.2.2.2.2.2.1.2.2.1):Ar (KA x) λr=>KL B x.1 r.1/\(r.2=0->ABB x.1.2.2.2.2.2.1 x.2.2.1 x.2.2.2.1 r.1.2.2.2.2.2.1):=by
 unfold KA;refine AA (Fk h.sb) λv hv=>AK (λb=>AB ⟨KL.refl h L,λs=>absurd s b⟩) (λN=>?_);have⟨_,l,c⟩:=hv N;refine AA Ij λE S=>AA (CM b.1 b.2) λ_ _=>AA (CM b.1 b.2) λ_ _=>AA bW λv4 Z=>AK (λb=>AB ⟨KL.refl h L,λs=>absurd s b⟩) (λO=>AB ⟨⟨l.1,l.2.1,?_,l.2.2.1⟩,λ_=>l.2.2.2.2.2.1⟩);have F:=l.2.2.2.2.2.2.2.1;have⟨_,i,f,g,p,a,d,o,J⟩:=Z O;have⟨_,_,_,_,_,_,a7,_,e,T,P,U,A,V,W,e7⟩:=l;have w:E.2=true:=by cases q:E.2<;>grind
 have y:E.1.1=x.2.2.2.2.2.2.2.1.1:=(S.1 w).2.2.2.1;have C:e.2.2.2.2.2.2.1.1=x.2.2.2.2.2.2.2.1.1:=congrArg (λz=>z.2.1.1) A;have hr:=h.ki.2.2 f (BU p);dsimp only at p a d o c;refine⟨F.1,F.2.1,F.2.2,?_⟩;have t:e.2.1=1\/e.2.1=2:=by rw[U];exact s
 have u: ∀n:Int,n≠1->n≠2->e.2.1≠n:=λn n1 n2 q=>by rcases t with D|D<;>rw[q]at D;exact n1 D;exact n2 D
 unfold KI;dsimp only;rw[l.1,a7,T,W (by rcases s with q|q<;>rw[q]<;>decide),d];have K:g.1.1=f.1.1:=by rw[o,a]
 have m:=BU p;have I:=(h.ki.2.1 f.1.1 hr.1 hr.2.1).1 f m rfl;have M:E.1=f.1:=by have⟨_,_,_,_,f',H,Q⟩:=S.1 w;rw[<-Q];exact h.ki.same m H (by rw[Q,a])
 have R:e.2.2.2.2.2.2.1.2.1=x.2.2.2.2.2.2.2.1.2.1:=congrArg (λz=>z.2.1.2.1) A;have Y:e.2.2.2.2.2.2.1.2.2.1=x.2.2.2.2.2.2.2.1.2.2.1:=congrArg (λz=>z.2.1.2.2.1) A;have X:e.2.2.2.2.2.2.1.2.2.2=x.2.2.2.2.2.2.2.1.2.2.2:=congrArg (λz=>z.2.1.2.2.2) A;refine⟨h.ki.1.app ⟨λq=>⟨V h.ki.2.1 q (by rw[C,<-y,<-a];exact hr.1) (by rw[C,<-y,<-a];exact hr.2.1),by rw[R,Y,C,<-y,<-a,<-I];exact G f m (by rw[a,y])⟩,λq=>absurd q (u 7 g! g!),λq=>absurd q (u 6 g! g!)⟩,?_,h.ki.2.2.set p K⟩;refine h.ki.2.1.change h.ki.2.2 t p (by rw[a,y,C]) (by rw[o,M,c,<-P];unfold upd;rw[R,X]) J (λj k hj q=>hp.idx p hj q) ?_;rw[P];exact lq L _
theorem Bx{x:Int}:Ar (BB x) λr=>r.1=5:=by grind[BB,AB]
theorem jr{x:Int}:Ar (BB x) λr=>r.1=5/\r.2.2.2.2=x:=by grind[BB,AB]
theorem ADl{l:List Ai}{id:Int}(h:l.length<=16777216)(m:jt l id):Ar (ET (l,id)) λr=>0<=r/\r<l.length:=by
 unfold ET;refine AA (P:=λr=> ∃u:Int,r= .inl u/\0<=u/\u<l.length) ?_ λr hr=>?_;refine AV (λ(s:Int)=>0<=s/\s<=l.length/\ ∀(j:Nat) (t:Ai),j<s->l[j]? =some t->t.1≠id) (λ(s:Int)=>((l.length:Int)-s).toNat) ⟨Ad _,o!,λj t b=>absurd b o!⟩ (λs k=>?_);obtain⟨g,p,i⟩:=k;unfold Jn;have e:=AX (x:=s+1);apply AC<;>intro d;simp only[len]at d;refine AA (AI g d) λq a=>AQ (λ_=>AB ⟨s,rfl,g,d⟩) (λc=>AB ?_);dsimp only at c;rw[e];refine⟨⟨o!,o!,λj t b f=>?_⟩,o!⟩;by_cases n:(j:Int)=s;have:s.toNat=j:=o!
 rw[this]at a;rw[f]at a;have:=Ba a.1;rw[this];exact c;exact i j t o! f;obtain⟨j,t,b,f⟩:=m;have:=DQ b;simp only[len]at d;exact absurd f (i j t o! b);obtain⟨u,rfl,o⟩:=hr;exact BG (AB o)
def sW{l:List Ai}{id:Int}(h:l.length<=16777216)(a:jt l id):Ar (CK (l,id)) λr=>0<=r/\r<l.length:=by grind[CK,AA,ADl,AB]
def bc{x:AP×Int}(h:SK B x.1)(k:Dg x.1.2.2.1)(j:jt x.1.2.2.2.2.2.1 x.2):Ar (KW x) λr=>KL B x.1 r.1/\(r.2.1=1\/r.2.1=5):=by unfold KW;refine AA (sW h.2.1 j) λo c=>AA (AI c.1 c.2) λp _=>AA (P:=λs=>(∃u,s= .inl u/\KL B x.1 u.1)\/ ∃u,s= .inr u/\KL B x.1 u.1/\(u.2.1=1\/u.2.1=5)) ?_ λs l=>?_;refine AQ (λ_=>?_) (λ_=>?_);refine AA (JG h.2.1) λq d=>AB (.inl ⟨_,rfl,rfl,LX.refl _,⟨h.1,?_,h.2.2⟩,k⟩);have:=o9 x.1.2.2.2.2.2.1 x.2;have e:=h.2.1;dsimp only at*;rw[d];omega;refine AA (Fk h.sb) λt f=>AK (λn=>?_) (λm=>?_);grind[AA,Bx,AB,KL.refl];have b:=(f m).2.1.kl h u!;refine AA (Jo b.2.2.1 b.2.2.2) λv g=>AB (.inl ⟨_,rfl,b.trans g.1.kl⟩);rcases l with⟨u,rfl,a⟩|⟨u,rfl,a⟩;apply BG;refine AA (Ly a.2.2.1.1) λw i=>AB ⟨⟨a.1,a.2.1,a.2.2.1.locks i,a.2.2.2⟩,.inl rfl⟩;exact A3 (AB a)
def XV{x:AP×Int×Cj}{a:Ai}{s:Int}(h:0<=s/\s<=a.2.2.2.2.1.length/\(a.2.2.2.2.1.length:Int)<=16777216):Ar (AZ (K2 x a) s) λr=>True:=by
 refine AV (λ(s:Int)=>0<=s/\s<=a.2.2.2.2.1.length/\(a.2.2.2.2.1.length:Int)<=16777216) (λ(s:Int)=>((a.2.2.2.2.1.length:Int)-s).toNat) h (λs c=>?_);unfold K2;exact x!
def AG1{l:List Ai}{i:Nat}{t:Ai}(h:l[i]? =some t):t.2.2.2.2.1.length<TP l:=by
 induction l generalizing i with
 |nil=>simp at h
 |cons a r b=>
  unfold TP;rw[Bt,WK];cases i with
  |zero=>simp at h;rw[h];omega
  |succ i=>have:=b (i:=i) (by simpa using h);unfold TP at this;omega
def AIA{l:List Ai}(h: ∀(i:Nat) (t:Ai),l[i]? =some t->t.2.2.2.2.1.length<=4096):TP l<=l.length*4097:=by
 induction l with
 |nil=>simp[TP]
 |cons a r c=>have d:=h 0 a k!;have e:=c (λi t b=>h (i+1) t (by simpa using b));unfold TP at*;grind[List.length_cons]
def ZQ.tp{l:List Ai}(h:ZQ l):TP l<=262208:=by have:=AIA (l:=l) (λi t a=>(h.2 i t a).1);have:=h.1;omega
def Zs{x:AP×Int×Cj}(h:x.1.2.2.2.2.2.1.length<=16777216)(d:TP x.1.2.2.2.2.2.1<=262208)(c:jt x.1.2.2.2.2.2.1 x.2.1):Ar (Jr x) λr=>True:=by unfold Jr;refine AA (sW h c) λe a=>AA (AI a.1 a.2) λf b=>?_;have:=AG1 b.1;refine AA (XV ⟨Ad _,o!⟩) λr _=>?_;grind[BA,AB]
def UR{x:AP×Int×Int}(h:SK B x.1)(z:Dg x.1.2.2.1)(A:ZQ x.1.2.2.2.2.2.1)(p:x.2.1≠0)(y:jt x.1.2.2.2.2.2.1 x.2.1):Ar (Il x) λr=>KL B x.1 r.1/\(r.2.1=x.2.2\/r.2.1=5):=by
 unfold Il;refine AA (bS h.1) λL c=>AA (sW h.2.1 y) λM n=>AA (AI n.1 n.2) λN _=>AQ (λ_=>?_) (λ_=>?_);refine AA (JG h.2.1) λO t=>AA (Ly c) λQ u=>AB ⟨⟨rfl,LX.refl _,⟨u,?_,h.2.2⟩,z⟩,.inl rfl⟩;have:=o9 x.1.2.2.2.2.2.1 x.2.1;have q:=h.2.1;dsimp only at*;rw[t];omega;refine AA (Fk (h.locks c).sb) λf v=>AK (λi=>?_) (λC=>?_);grind[AA,Bx,AB,KL.refl];have j:=(v C).2.1;have o:=j.2.2.2.2.2.1;have K:=(o.2.2.1 p (by show(4:Int)≠1;decide)).2;have D:=A.tp;have b:KL B x.1 f.1:=⟨j.1,j.2.1,(j.kl (h.locks c) u!).2.2⟩
 refine AA (P:=λr=>KL B x.1 r) ?_ λr hr=>AB ⟨hr,.inl rfl⟩;refine AV (λ(s:Int×AP)=>0<=s.1/\s.1<=f.1.2.2.2.2.1.1.length/\KL B x.1 s.2/\s.2.2.2.2.2.2.1=f.1.2.2.2.2.2.1) (λs=>((f.1.2.2.2.2.1.1.length:Int)-s.1).toNat) (s:=((0:Int),f.1)) ⟨Ad _,d!,b,rfl⟩ (λs w=>?_);have⟨m,J,a,d⟩:=w;unfold S0;have I:=b.2.2.1.1.1;refine AC (λi=>?_) (λ_=>AB a);simp[len]at i;have e:=AX (x:=s.1+1);refine AA (AI m i) λR _=>AQ (λ_=>?_) (λ_=>AB ⟨⟨d!,d!,a,d⟩,d!⟩);refine AA (AI m i) λS _=>AA (Zs (by dsimp only;rw[d];exact b.2.2.1.2.1) (by dsimp only at*;rw[d];omega) (by dsimp only;rw[d];exact(o.2.2.2 p rfl))) λE _=>AA (P:=λk=>KL B x.1 k/\k.2.2.2.2.2.1=f.1.2.2.2.2.2.1) ?_ λH g=>AB ⟨⟨d!,d!,g.1,g.2⟩,d!⟩;refine AM (λ_=>?_) (λ_=>AB ⟨a,d⟩);refine AA (AI m i) λF _=>AA (VQ a.2.2.1.1) λG l=>AB ⟨⟨a.1,a.2.1,a.2.2.1.locks l,a.2.2.2⟩,d⟩
end Go.Pm
namespace Go.Pm
open Go Go.Ab
set_option maxHeartbeats 400000
variable {B:Int->Prop}
def bY{x:AP×Cn}:Ar (KR x) λr=>r=0->x.2.1=4\/x.2.1=5\/x.2.1=6\/x.2.1=7\/(0<=x.2.2.2.1/\x.2.2.2.1<16):=by unfold KR;refine AA (P:=λv=>True) (AJ (λ_=>AB trivial) (λ_=>AA (P:=λ_=>True) (AJ (λ_=>AB trivial) (λ_=>AB trivial)) λ_ _=>AB trivial)) λi _=>AA (P:=λs=>(∃u,s= .inl u/\u=1)\/ ∃u,s= .inr u/\(x.2.1=4\/x.2.1=5\/x.2.1=6\/x.2.1=7\/(0<=x.2.2.2.1/\x.2.2.2.1<16))) ?_ λs c=>?_;refine AJ (λ_=>?_) (λ_=>?_);refine AC (λ_=>AB (.inl ⟨_,rfl,rfl⟩)) (λ_=>AC (λ_=>AB (.inl ⟨_,rfl,rfl⟩)) (λ_=>AC (λ_=>AB (.inl ⟨_,rfl,rfl⟩)) (λe=>AC (λ_=>AB (.inl ⟨_,rfl,rfl⟩)) (λf=>AA (P:=λ_=>True) (AJ (λ_=>AB trivial) (λ_=>AB trivial)) λj _=>AB (.inr ⟨_,rfl,?_⟩)))));omega;refine AA (P:=λs=>(∃u,s= .inl u/\u=1)\/ ∃u,s= .inr u/\(x.2.1=4\/x.2.1=5\/x.2.1=6\/x.2.1=7)) ?_ λs c=>?_;refine AQ (λh=>?_) (λ_=>?_);refine AC (λ_=>AB (.inl ⟨_,rfl,rfl⟩)) (λ_=>AC (λ_=>AB (.inl ⟨_,rfl,rfl⟩)) (λ_=>AB (.inr ⟨_,rfl,o!⟩)));refine AA (P:=λb=>b=true->x.2.1=4\/x.2.1=5\/x.2.1=6) ?_ λk g=>?_;grind[AQ,AB,AA];simp_all[AJ,AB];grind[BG,AB,A3];rcases c with⟨u,rfl,d⟩|⟨u,rfl,d⟩;grind[BG,AB];apply A3;refine AM (λ_=>AB n!) (λ_=>AC (λ_=>AB n!) (λ_=>AB λ_=>d))
def VV{x:Int×Cn}:Ar (JT x) λr=>True:=by unfold JT;refine AQ (λ_=>AB trivial) (λ_=>AA (P:=λ_=>True) (AJ (λ_=>AB trivial) (λ_=>AB trivial)) λv _=>AJ (λ_=>AB trivial) (λ_=>AB trivial))
def Zt{x:AP×Int×Cn}(h:SK B x.1):Ar (Js x) λr=>r=0->VK x.1/\jt x.1.2.2.2.2.2.1 x.2.1/\(x.2.2.1=4\/x.2.2.1=5\/x.2.2.1=6\/x.2.2.1=7\/(0<=x.2.2.2.2.1/\x.2.2.2.2.1<16)):=by
 unfold Js;refine AA (B6 h.sb) λv j=>AM (λ_=>AB n!) (λb=>AA (FO h.2.1) λk e=>AC (λ_=>AB n!) (λg=>AA (AI o! e.2.1) λl _=>AK (λ_=>AB n!) (λ_=>AA bY λm f=>AK (λb=>AB λa=>absurd a b) (λc=>AA (IN h.1) λn _=>AA VV λo _=>?_))));have q:(0:Int)=0->VK x.1/\jt x.1.2.2.2.2.2.1 x.2.1/\(x.2.2.1=4\/x.2.2.1=5\/x.2.2.1=6\/x.2.2.1=7\/(0<=x.2.2.2.2.1/\x.2.2.2.2.1<16)):=λ_=>by have⟨t,i,d⟩:=e.2.2 o!;exact⟨j b,⟨_,t,i,d⟩,f c⟩
 refine AJ (λ_=>?_) (λ_=>AB q);refine AK (λ_=>?_) (λ_=>AB q);refine AM (λ_=>AB n!) (λ_=>AM (λ_=>AB n!) (λ_=>AB q))
def ba{x:AP×Int×Cn}(h:SK B x.1)(k:Dg x.1.2.2.1)(n:Pg x.1.2.2.2.1)(a:0<=x.2.2.2.2.1/\x.2.2.2.2.1<16):Ar (KV x) λr=>KL B x.1 r.1/\(r.2.1=1\/r.2.1=3\/r.2.1=5)/\(r.2.1=3->r.2.2.2.1=x.2.2.2.1/\ ¬na x.1.2.2.2.1 x.2.2.2.1/\r.1=x.1):=by unfold KV;have t:=KL.refl h k;refine AA Ij λy m=>AM (λa=>AB ⟨t,.inr (.inl rfl),λ_=>⟨rfl,m.2 a n,rfl⟩⟩) (λd=>AQ (λ_=>?_) (λ_=>?_));refine AA jf λz l=>AA (CM a.1 a.2) λ_ _=>AA (CM a.1 a.2) λ_ _=>AB ⟨⟨rfl,LX.refl _,⟨h.1,h.2.1,h.2.2.1,h.ki.1,h.ki.2.1.frames l.1 l.2,h.ki.2.2.sub l.1⟩,k⟩,(.inl rfl),λs=>absurd s (by show(1:Int)≠3;decide)⟩;refine AA (CM a.1 a.2) λ_ _=>D8 (CM a.1 a.2) λu o _=>AA (P:=λv:De=>v.1=x.2.2.2.1/\v.2.1=x.2.2.2.2.1/\v.2.2.1=u) (AJ (λ_=>AB ⟨rfl,rfl,rfl⟩) (λ_=>AB ⟨rfl,rfl,rfl⟩)) λA b=>?_;have⟨_,_,j,i,f,p,c⟩:=m.1 d;refine AA (V5 h k (by dsimp only;rw[b.2.1];exact a) (.inl rfl) n (by dsimp only;rw[b.1];exact j) λg q e=>?_) λC w=>?_;dsimp only at e⊢;rw[b.2.1,b.2.2,h.ki.same p q (by rw[e,b.1,c,i]),c];exact o;grind[AA,AK,Bx,AB]
theorem eE{x:List Int}:Ar (LZ x) λr=>True:=by unfold LZ;refine AQ (λ_=>AB trivial) (λa=>?_);simp only[len]at a;exact AA (AI (Ad _)) λ_ _=>AB trivial
def jj{x:AP×Int}(h:SK B x.1):Ar (Nu x) λr=>True:=by unfold Nu;refine AA (LN h.1) λa _=>?_;grind[AA,eE,AB]
def kh{x:AP×Int×Cn}(h:SK B x.1)(i:Dg x.1.2.2.1):Ar (PS x) λr=>KL B x.1 r.1/\(r.2.1=3->r.2.2.2.1=x.2.2.2.1/\ ¬na x.1.2.2.2.1 x.2.2.2.1/\r.1.2.2.2.1=x.1.2.2.2.1)/\(r.2.1=2\/r.2.1=3->r.1.2.2.2.2.2.1=x.1.2.2.2.2.2.1):=by
 unfold PS;have q:=KL.refl h i;refine AA (Zt h) λX I=>AK (λ_=>?_) (λd=>?_);exact AA Bx λY V=>AB ⟨q,λd=>by dsimp only at d;omega,λ_=>rfl⟩;obtain⟨u,s,F⟩:=I d;have G:x.2.1≠0:=by obtain⟨j,t,M,W⟩:=s;have:=(u.2.2.2.2.2.1.2 j t M).2.2;omega
 refine AQ (λ_=>?_) (λT=>?_);exact AA (bc h i s) λZ w=>AB ⟨w.1,λd=>by have:=w.2;omega,λd=>by have:=w.2;omega⟩;refine AQ (λ_=>?_) (λU=>?_);refine AA (UR h i u.2.2.2.2.2.1 G s) λv3 E=>AB ?_;have y:=E.2;dsimp only at y;exact⟨E.1,λd=>o!,λd=>o!⟩;refine AA (P:=λb=>b=true↔x.2.2.1=6\/x.2.2.1=7) ?_ λv4 J=>?_;refine AQ (λp=>AB (by simp[p])) (λp=>AB (by simp[p]));refine AJ (λ_=>?_) (λk=>?_);refine AA hY λv5 z=>AA (P:=λv=>v.2=0->v.1.length<=64) ?_ λv7 K=>?_;exact AJ (λ_=>AA gy λv6 p=>AB p) (λ_=>AB z);refine AK (λ_=>?_) (λd=>AB ⟨⟨rfl,LX.refl _,⟨h.1,?_,h.2.2⟩,i⟩,λd=>absurd d (by show(1:Int)≠3;decide),λd=>absurd d (by show¬((1:Int)=2\/(1:Int)=3);decide)⟩);exact AA Bx λS L=>AB ⟨q,λd=>by dsimp only at d;omega,λ_=>rfl⟩;have:=K d;dsimp only;omega;have g:0<=x.2.2.2.2.1/\x.2.2.2.2.1<16:=by
  have: ¬(x.2.2.1=6\/x.2.2.1=7):=λh=>by rw[J.2 h]at k;cases k
  omega
 refine AA VV λv9 _=>AA (Zg h.1) λC l=>AK (λ_=>?_) (λ_=>?_);exact AA Bx λS L=>AB ⟨q,λd=>by dsimp only at d;omega,λ_=>rfl⟩;have f:=h.locks l;have H: ∀m,KL B (x.1.1,(x.1.2.1,(x.1.2.2.1,(x.1.2.2.2.1,(C.1,x.1.2.2.2.2.2))))) m->KL B x.1 m:=λm A=>⟨A.1,A.2.1,A.2.2⟩
 refine AJ (λ_=>?_) (λ_=>?_);refine AA (ba f i u.2.2.2.1 g) λN e=>AQ (λz=>AB ⟨q,λd=>by dsimp only at d;omega,λ_=>rfl⟩) (λ_=>AB ⟨H _ e.1,λd=>?_,λd=>?_⟩);obtain⟨a,b,c⟩:=e.2.2 d;exact⟨a,b,by rw[c]⟩;have D:=e.2.1;obtain⟨a,b,c⟩:=e.2.2 o!;rw[c];refine AA (dv l) λO _=>AC (λ_=>?_) (λ_=>?_);refine AA (UR f i u.2.2.2.2.2.1 G s) λQ n=>?_;have o:=n.2;dsimp only at o;exact AQ (λz=>AB ⟨q,λd=>by dsimp only at d;omega,λ_=>rfl⟩) (λ_=>AB ⟨H _ n.1,λd=>o!,λd=>o!⟩);exact AA (jj f) λR _=>AB ⟨⟨rfl,LX.refl _,f,i⟩,λd=>absurd d (by show(2:Int)≠3;decide),λ_=>rfl⟩
end Go.Pm
