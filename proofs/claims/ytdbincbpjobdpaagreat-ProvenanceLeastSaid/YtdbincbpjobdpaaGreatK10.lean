/- Texts of wip, joined and shortened by wip/tools/pack.py; nothing is assumed. -/
import Derived.Test.YtdbincbpjobdpaaGreatK9
import Derived.KernelRfl
noncomputable section
set_option linter.all false
open Option renaming some->δ,none->ε,bind->σ
open Bool renaming true->ζ,false->η
open List renaming length->θ,replicate->ς
open Go.IntKind renaming wrap->ι
open BitVec renaming ofInt->κ,toNat->π
open Sum renaming elim->ν
open Nat renaming beq->ξ
open Int renaming toNat->ο
open Decidable renaming decide->τ
namespace Go.Pm
open Go Go.Ab
def Yt(c:BitVec 32):BitVec 32:=if c.getLsbD 0=ζ then(c>>>1)^^^2197175160#32 else c>>>1
def nJ:Nat->BitVec 32->BitVec 32
 |0,c=>c
 |n+1,c=>Yt (nJ n c)
def jT(c:BitVec 32)(b:UInt8):BitVec 32:=nJ 8 (c^^^BitVec.ofNat 32 b.toNat)
def AFq(s:BX):BitVec 32:=4294967295#32^^^s.foldl jT 4294967295#32
def PW(s:BX):Int:=((AFq s).toNat:Int)
def iP{a b:BitVec 32}(h:a^^^b=0#32):a=b:=t!
def ACx(a b:BitVec 32):Yt (a^^^b)=Yt a^^^Yt b:=by
 unfold Yt;rw[BitVec.getLsbD_xor,BitVec.ushiftRight_xor_distrib];cases a.getLsbD 0<;>cases b.getLsbD 0<;>simp;grind;grind;have:a>>>1^^^2197175160#32^^^(b>>>1^^^2197175160#32)=(a>>>1^^^b>>>1)^^^(2197175160#32^^^2197175160#32):=by ac_rfl
 grind
theorem xD:∀(n:Nat)(a b:BitVec 32),nJ n (a^^^b)=nJ n a^^^nJ n b
 |0,a,b=>rfl
 |n+1,a,b=>by rw[nJ,nJ,nJ,xD n,ACx]
def AAy{c:BitVec 32}(h:Yt c=0#32):c=0#32:=by
 unfold Yt at h;by_cases b:c.getLsbD 0=ζ;rw[C! b]at h;have a:(c>>>1).getLsbD 31=(2197175160#32).getLsbD 31:=by rw[(iP h)]
 rw[BitVec.getLsbD_ushiftRight]at a;simp_all;rw[D! b]at h;apply o6;intro i d;cases i with
 |zero=>grind
 |succ j=>
  have a:(c>>>1).getLsbD j=(0#32).getLsbD j:=by rw[h]
  grind
def yk:∀(n:Nat){c:BitVec 32},nJ n c=0#32->c=0#32
 |0,c,h=>h
 |n+1,c,h=>yk n (AAy h)
def ABZ{n:Nat}{a b:BitVec 32}(h:nJ n a=nJ n b):a=b:=by refine iP (yk n ?_);rw[xD,h,bW]
def AFl{a b:BitVec 32}{x:UInt8}(h:jT a x=jT b x):a=b:=by have c:=ABZ h;simp_all
def AFm{a:BitVec 32}{x y:UInt8}(h:jT a x=jT a y):x=y:=by
 have:a^^^(a^^^BitVec.ofNat 32 x.toNat)=a^^^(a^^^BitVec.ofNat 32 y.toNat):=by rw[(ABZ h)]
 rw[<-kj,bW,km,<-kj,bW,km]at this;have b:=E! π this;rw[bV,bV]at b;have c:=x.toNat_lt;have d:=y.toNat_lt;exact UInt8.toNat_inj.1 o!
def ADy:∀(s:BX){a b:BitVec 32},s.foldl jT a=s.foldl jT b->a=b
 |[],a,b,h=>h
 |x::r,a,b,h=>AFl (ADy r h)
def AFr{u v:BX}{x y:UInt8}(h:PW (u++x::v)=PW (u++y::v)):x=y:=by
 unfold PW at h;have a:AFq (u++x::v)=AFq (u++y::v):=BitVec.eq_of_toNat_eq o!;unfold AFq at a;rw[Xm,Xm,Xn,Xn]at a;have b:∀p q:BitVec 32,4294967295#32^^^p=4294967295#32^^^q->p=q:=λp q c=>by
  have:4294967295#32^^^(4294967295#32^^^p)=4294967295#32^^^(4294967295#32^^^q):=by rw[c]
  rwa [<-kj,bW,km,<-kj,bW,km]at this
 exact AFm (ADy v (b _ _ a))
def Zf(s:BX):0<=PW s/\PW s<4294967296:=by unfold PW;omega
theorem bvI(c:BitVec 32):κ 32 (c.toNat:Int)=c:=q!
theorem w32(c:BitVec 32):ι .u32 (c.toNat:Int)=(c.toNat:Int):=by rw[wU];omega
theorem fdN(c:BitVec 32)(k:Nat)(a:k<=32):Int.fdiv (c.toNat:Int) (2^(min (ο (k:Int)) 32))=((c>>>k).toNat:Int):=by rw[show min (ο (k:Int)) 32=k by omega,kq _ (by exact_mod_cast Bc (2^k)),BitVec.toNat_ushiftRight,Nat.shiftRight_eq_div_pow];grind
theorem fd1(c:BitVec 32):Int.fdiv (c.toNat:Int) (2^(min (ο 1) 32))=((c>>>1).toNat:Int):=by grind[fdN]
def fd4(c:BitVec 32):Int.fdiv (c.toNat:Int) (2^(min (ο 4) 32))=((c>>>4).toNat:Int):=by grind[fdN]
theorem AGI(c:BitVec 32):((ι .u32 (((π ((κ 32 (c.toNat:Int))&&&(κ 32 1))):Nat):Int))==1)=c.getLsbD 0:=by grind[bvI,w32,BitVec.toNat_and,κ]
def AHK(c:BitVec 32):(bif ((ι .u32 (((π ((κ 32 (c.toNat:Int))&&&(κ 32 1))):Nat):Int))==1)then
     δ (ι .u32 (((π ((κ 32 (Int.fdiv (c.toNat:Int) (2^(min (ο 1) 32))))^^^(κ 32 2197175160))):Nat):Int))
    else
    δ (Int.fdiv (c.toNat:Int) (2^(min (ο 1) 32))):Option Int)=δ ((Yt c).toNat:Int):=by grind[AGI,fd1,bvI,w32,Yt]
def AIZ(c:BitVec 32):Ai IA ((c.toNat:Int),0)=δ ((nJ 8 c).toNat:Int):=by
 have key:As (Ai IA ((c.toNat:Int),0)) λr=>r=((nJ 8 c).toNat:Int):=by refine AW (λ(s:Int×Int)=>0<=s.2/\s.2<=8/\s.1=((nJ s.2.toNat c).toNat:Int)) (λs=>(8-s.2).toNat) ⟨Af _,d!,rfl⟩ ?_;rintro⟨g,a⟩ ⟨e,f,b⟩;dsimp only at e f b;subst b;refine AC (λd=>?_) (λd=>AB (by rw[show a.toNat=8 by omega]));rw[AHK,AD,AZ];refine AB ⟨⟨o!,o!,?_⟩,o!⟩;rw[show(a+1).toNat=a.toNat+1 by omega];rfl
 obtain⟨r,hr,rfl⟩:=key;exact hr
def ADb(c:BitVec 32)(b:UInt8):ι .u32 (((π ((κ 32 (c.toNat:Int))^^^(κ 32 (ι .u32 (b.toNat:Int))))):Nat):Int)=((c^^^BitVec.ofNat 32 b.toNat).toNat:Int):=by grind[ι,wU,bvI,w32]
def AEv{x:BX}{i:Int}(a:0<=i)(c:i<θ x):∃b:UInt8,six x i=δ (b.toNat:Int)/\x.take (i+1).toNat=x.take i.toNat++[b]:=by obtain⟨k,rfl⟩:=EE a;refine⟨x[k],?_,?_⟩;grind[six];simp_all
def wb{x:BX}(h:θ x<=2199023255552):E7 x=δ (PW x):=by
 have key:As (Ai (H9 x) (4294967295,0)) λr=>r=((x.foldl jT 4294967295#32).toNat:Int):=by refine AW (λ(s:Int×Int)=>0<=s.2/\s.2<=θ x/\s.1=(((x.take s.2.toNat).foldl jT 4294967295#32).toNat:Int)) (λs=>((θ x:Int)-s.2).toNat) ⟨Af _,d!,rfl⟩ ?_;rintro⟨f,g⟩ ⟨c,e,d⟩;dsimp only at c e d;subst d;unfold H9;simp only[len];refine AC (λa=>?_) (λa=>AB (by rw[BP o!]));have⟨b,q1,q2⟩:=AEv c a;rw[q1,AD,ADb,AIZ,AD,AZ];refine AB ⟨⟨o!,o!,?_⟩,o!⟩;rw[q2,Xm];rfl
 obtain⟨r,hr,rfl⟩:=key;unfold E7;rw[hr,AD,bvI];rw[show(κ 32 (if(η=ζ)then(-1)else(if(η=ζ)then((2^(32-1))-1)else((2^32)-1))))=4294967295#32 by decide,w32];rfl
def AJy{d:BitVec 32}(b:d.getLsbD 0=η)(c:d.getLsbD 1=η)(f:d.getLsbD 2=η)(g:d.getLsbD 3=η):nJ 4 d=d>>>4:=by
 have st:∀e:BitVec 32,e.getLsbD 0=η->Yt e=e>>>1:=λe a=>by unfold Yt;rw[D! (by rw[a];decide)]
 show Yt (Yt (Yt (Yt d)))=_;grind
def AH7(c:BitVec 32):(c>>>4)^^^nJ 4 (c&&&15#32)=nJ 4 c:=by
 have d:c=(c&&& ~~~15#32)^^^(c&&&15#32):=by apply o6;intro i a;rw[BitVec.getLsbD_xor,BitVec.getLsbD_and,BitVec.getLsbD_and,BitVec.getLsbD_not];grind
 have e:nJ 4 (c&&& ~~~15#32)=c>>>4:=by
  have z:∀i,i<4->(c&&& ~~~15#32).getLsbD i=η:=λi a=>by
   have:i=0\/i=1\/i=2\/i=3:=o!
   grind
  rw[AJy (z 0 g!) (z 1 g!) (z 2 g!) (z 3 g!)];apply o6;intro i a;have b:(15#32).getLsbD (4+i)=η:=by show(15#32).toNat.testBit (4+i)=η;grind
  grind
 grind[xD]
def AIW(c:BitVec 32):Ai LO ((c.toNat:Int),0)=δ ((nJ 4 c).toNat:Int):=by
 have key:As (Ai LO ((c.toNat:Int),0)) λr=>r=((nJ 4 c).toNat:Int):=by refine AW (λ(s:Int×Int)=>0<=s.2/\s.2<=4/\s.1=((nJ s.2.toNat c).toNat:Int)) (λs=>(4-s.2).toNat) ⟨Af _,d!,rfl⟩ ?_;rintro⟨g,a⟩ ⟨e,f,b⟩;dsimp only at e f b;subst b;refine AC (λd=>?_) (λd=>AB (by rw[show a.toNat=4 by omega]));rw[AHK,AD,AZ];refine AB ⟨⟨o!,o!,?_⟩,o!⟩;rw[show(a+1).toNat=a.toNat+1 by omega];rfl
 obtain⟨r,hr,rfl⟩:=key;exact hr
def ADB(t:Fin (15+1)->(Ty.int IntKind.u32).D):Prop:=∀j:Fin 16,t j=((nJ 4 (BitVec.ofNat 32 j.val)).toNat:Int)
def AJR:As (Ky ()) ADB:=by refine AA (P:=ADB) ?_ λr hr=>AB hr;refine AW (λ(s:Int×(Fin (15+1)->(Ty.int IntKind.u32).D))=>0<=s.1/\s.1<=16/\∀j:Fin 16,(j.val:Int)<s.1->s.2 j=((nJ 4 (BitVec.ofNat 32 j.val)).toNat:Int)) (λs=>(16-s.1).toNat) ⟨Af _,g!,λj b=>N! b d!⟩ ?_;rintro⟨h,i⟩ ⟨c,g,d⟩;refine AC (λa=>?_) (λa=>AB λj=>d j (by have:=j.isLt;omega));obtain⟨k,rfl⟩:=EE c;rw[(by grind[wU,BitVec.toNat_ofNat]:ι .u32 (k:Int)=((BitVec.ofNat 32 k).toNat:Int)),AIW,AD];refine AA (DX o! o!) λl e=>AA (DX o! o!) λm f=>AB ?_;grind[AZ,Wi]
def AE6{t:Fin (15+1)->(Ty.int IntKind.u32).D}(b:ADB t)(c:BitVec 32):Gk t (ι .u32 (((π ((κ 32 (c.toNat:Int))&&&(κ 32 15))):Nat):Int))=δ ((nJ 4 (c&&&15#32)).toNat:Int):=by
 rw[bvI,show κ 32 15=15#32 by decide,w32];have a:(c&&&15#32).toNat<16:=by exact Nat.lt_succ_of_le Nat.and_le_right
 unfold Gk;rw[dif_pos o!];refine E! δ ((b ⟨(c&&&15#32).toNat,a⟩).trans ?_);grind
def AJB(c:BitVec 32):ι .u32 (((π ((κ 32 (Int.fdiv (c.toNat:Int) (2^(min (ο 4) 32))))^^^(κ 32 ((nJ 4 (c&&&15#32)).toNat:Int)))):Nat):Int)=((nJ 4 c).toNat:Int):=by rw[fd4,bvI,bvI,AH7,w32]
def ABY:∀(m n:Nat)(c:BitVec 32),nJ m (nJ n c)=nJ (m+n) c
 |0,n,c=>by rw[nJ,DT]
 |m+1,n,c=>by rw[nJ,ABY m n,Nat.succ_add];rfl
def xO{x:BX}(h:θ x<=2199023255552):OT x=δ (PW x):=by
 unfold OT;have⟨t,f,a⟩:=AJR;rw[f,AD];have key:As (Ai (Uf x t) (4294967295,0)) λr=>r=((x.foldl jT 4294967295#32).toNat:Int):=by refine AW (λ(s:Int×Int)=>0<=s.2/\s.2<=θ x/\s.1=(((x.take s.2.toNat).foldl jT 4294967295#32).toNat:Int)) (λs=>((θ x:Int)-s.2).toNat) ⟨Af _,d!,rfl⟩ ?_;rintro⟨i,j⟩ ⟨d,g,e⟩;dsimp only at d g e;subst e;unfold Uf;simp only[len];refine AC (λc=>?_) (λc=>AB (by rw[BP o!]));have⟨b,q1,q2⟩:=AEv d c;rw[q1,AD,ADb,AE6 a,AD,AD,AJB,AE6 a,AD,AD,AJB,AZ];refine AB ⟨⟨o!,o!,?_⟩,o!⟩;rw[q2,Xm,ABY];rfl
 obtain⟨r,hr,rfl⟩:=key;rw[hr,AD,bvI];rw[show(κ 32 (if(η=ζ)then(-1)else(if(η=ζ)then((2^(32-1))-1)else((2^32)-1))))=4294967295#32 by decide,w32];rfl
set_option maxHeartbeats 400000
def jN(n:Nat):BX:=ς n 0
def WN(c:Cg):BX:=C8 (if c.1=ζ then(θ c.2:Int)else 255) 1++(c.2++jN (12-θ c.2))
def cl(a:GO 16 Cg)(i:Nat):Cg:=(Gk a i).getD (η,[])
def Oy(a:GO 16 Cg)(k:Nat):BX:=(List.range k).flatMap λi=>WN (cl a i)
def Ku(x:AS):BX:=C8 x.2.1 8++(C8 x.1 4++(Oy x.2.2 16++jN 24))
def H4(x:AS):BX:=Ku x++(C8 (PW (Ku x)) 4++C8 x.2.1 8)
def mM{a:GO 16 Cg}{i:Nat}(h:i<16):Gk a (i:Int)=δ (cl a i)/\cl a i=a ⟨i,h⟩:=by
 have e:Gk a (i:Int)=δ (a ⟨i,h⟩):=by unfold Gk;rw[dif_pos o!];rfl
 unfold cl;rw[e];exact⟨rfl,rfl⟩
theorem Qb(a:GO 16 Cg)(k:Nat):Oy a (k+1)=Oy a k++WN (cl a k):=by unfold Oy;rw[List.range_succ,bZ,I7,pJ,DN]
def cr{c:Cg}(h:θ c.2<=12):(WN c).length=13:=by unfold WN jN;rw[AY,AY,A0,HP];omega
def HO.cl{x:AS}(h:HO x)(i:Nat):Gt (cl x.2.2 i):=by rcases Ax i 16 with a|a;rw[(mM a).2];exact(h.2.2.2.2 _).1;unfold Go.Pm.cl Gk;rw[dif_neg o!];exact⟨g!,.inr rfl⟩
theorem I8{x:AS}(h:HO x):∀k:Nat,(Oy x.2.2 k).length=13*k
 |0=>rfl
 |k+1=>by rw[Qb,AY,I8 h k,cr (h.cl k).1];omega
def Gz{x:AS}(h:HO x):(Ku x).length=244:=by unfold Ku jN;simp only[AY,A0,I8 h,HP]
theorem cw{x:AS}(h:HO x):(H4 x).length=256:=by unfold H4;simp only[AY,A0,Gz h]
def Ua{x:AS}:(H4 x).take 8=C8 x.2.1 8:=by unfold H4 Ku;rw[A5,Gn (A0 _ _)]
def oE{x:AS}(h:HO x):(H4 x).drop 248=C8 x.2.1 8:=by unfold H4;rw[<-A5,pI (by rw[AY,Gz h,A0])]
def mJ(n:Nat):Eu (ς n 0)=jN n:=by unfold Eu jN;rw[List.map_replicate];rfl
def xm{x:Int}(h:0<=x/\x<=16777216):G1 x=δ (jN x.toNat):=by unfold G1 Go.Ab.mk;rw[C! ⟨h.1,Af _,h.2⟩,AD,mJ]
def nY{s:BX}{n k:Int}(h:θ s<=1099511627776)(a:1<=k/\k<=8):As (Al (s,n,k)) λr=>r=s++C8 n k.toNat:=⟨_,Hq h a.1 a.2,rfl⟩
def sM{x:AS}(h:HO x):D1 x=δ 0:=by have⟨a,g,c⟩:=L8 (x:=x);have⟨b,i,d⟩:=N2 (x:=x);have e:a=ζ:=c.2 ⟨h.1,h.2.1,h.2.2.1,h.2.2.2.1⟩;have f:b=ζ:=d.2 h.2.2.2.2;unfold D1;rw[g,e,AD,i,f];rfl
theorem bP{x:AS}(h:HO x):DD x=δ (H4 x,0):=by
 suffices g:As (DD x) λr=>r=(H4 x,0) by obtain⟨r,hr,rfl⟩:=g;exact hr
 unfold DD;rw[sM h,AD];refine AL (λb=>N! rfl b) λ_=>AA (nY g! g!) λL p=>AA (nY (by rw[p];simp[A0]) g!) λG z=>?_;have w:G=C8 x.2.1 8++C8 x.1 4:=by rw[z,p];rfl
 refine AA (P:=λr=>r=C8 x.2.1 8++(C8 x.1 4++Oy x.2.2 16)) ?_ λf d=>?_
 ·refine Cp (λ(s:BX×Int)=>0<=s.2/\s.2<=16/\s.1=C8 x.2.1 8++(C8 x.1 4++Oy x.2.2 s.2.toNat)) (λ(s:BX×Int)=>(16-s.2).toNat) ⟨Af _,u!,by rw[w];simp[Oy]⟩ ?_;rintro⟨s,i⟩ ⟨u,C,g⟩;dsimp only at u C g;subst g;unfold RZ;dsimp only;refine AC (λb=>?_) (λb=>As.done (by rw[show i.toNat=16 by omega]));have⟨t,K⟩:=mM (a:=x.2.2) (i:=i.toNat) o!;rw[I5 u]at t;have b:=(h.cl i.toNat).1;simp only[t,AD,AZ (x:=i+1)];have J:(C8 x.2.1 8++(C8 x.1 4++Oy x.2.2 i.toNat)).length<=300:=by simp only[AY,A0,I8 h];omega
  refine AA (P:=λv=>v=if(cl x.2.2 i.toNat).1=ζ then((cl x.2.2 i.toNat).2.length:Int)else 255) ?_ λM A=>?_;exact AK (λb=>AB (C! b).symm) (λb=>AB (D! (by rw[b];decide)).symm);refine AA (nY o! g!) λN q=>?_;have y:wi (12-len (cl x.2.2 i.toNat).2)=((12-(cl x.2.2 i.toNat).2.length:Nat):Int):=by rw[AZ i!];simp only[len];omega
  rw[y,xm o!,AD,Cz];refine AA (CE (by simp only[jN,HP];omega)) λn c=>?_;have D:θ n<=24:=by rw[c.2];simp only[jN,HP];omega
  refine AA (CE (by rw[q,AY,A0];simp only[Int.reduceToNat];omega)) λF k=>As.next ⟨d!,d!,?_⟩ d!
  dsimp only;rw[k.1,c.1,q,A,show(i+1).toNat=i.toNat+1 by omega,Qb];simp only[WN,A5,Int.reduceToNat]
 have E:θ f=220:=by rw[d];simp only[AY,A0,I8 h]
 rw[show wi (244-len f)=24 by rw[AZ i!];simp only[len];omega,xm g!,AD];refine AA (CE (by simp only[jN,HP,Int.reduceToNat];omega)) λo l=>?_;have j:o=Ku x:=by rw[l.1,d];simp only[Ku,A5,Int.reduceToNat]
 rw[j,wb (by rw[Gz h];decide),AD];have B:=Zf (Ku x);rw[AZ];refine AA (nY (by rw[Gz h];decide) g!) λH e=>AA (nY (by rw[e,AY,Gz h,A0];decide) g!) λI m=>AB ?_;rw[m,e];simp only[H4,A5,Int.reduceToNat]
def ACD{c d:Cg}(e:Gt c)(f:Gt d)(h:WN c=WN d):c=d:=by obtain⟨g,l⟩:=c;obtain⟨i,m⟩:=d;obtain⟨j,b⟩:=EY h (by rw[A0,A0]);have l1:=e.1;have l2:=f.1;dsimp only at l1 l2;have a:=Xf (k:=1) g! ⟨λ_=>by dsimp only;split<;>omega,by dsimp only;split<;>omega,by dsimp only;split<;>omega⟩ ⟨λ_=>by dsimp only;split<;>omega,by dsimp only;split<;>omega,by dsimp only;split<;>omega⟩ j;dsimp only at a b;cases g<;>cases i;have:=e.2;have:=f.2;simp_all;exfalso;simp at a;omega;exfalso;simp at a;omega;simp at a;exact Ck rfl (EY b o!).1
def tC{x y:AS}(a:HO x)(b:HO y):∀k:Nat,Oy x.2.2 k=Oy y.2.2 k->∀i,i<k->cl x.2.2 i=cl y.2.2 i
 |0,_=>λi c=>N! c o!
 |k+1,h=>by rw[Qb,Qb]at h;obtain⟨d,e⟩:=EY h (by rw[I8 a,I8 b]);intro i c;by_cases f:i=k;subst f;exact ACD (a.cl i) (b.cl i) e;exact tC a b k d i o!
theorem ADt{x y:AS}(a:HO x)(b:HO y)(h:H4 x=H4 y):x=y:=by obtain⟨h,_⟩:=EY h (by rw[Gz a,Gz b]);obtain⟨c,h⟩:=EY h (by rw[A0,A0]);obtain⟨d,h⟩:=EY h (by rw[A0,A0]);obtain⟨e,_⟩:=EY h (by rw[I8 a,I8 b]);have f:=a.1;have g:=a.2.1;have j:=a.2.2.1;have k:=a.2.2.2.1;have l:=b.1;have m:=b.2.1;have n:=b.2.2.1;have o:=b.2.2.2.1;refine Ck (Xf (by decide) ⟨λ_=>by omega,by omega,by omega⟩ ⟨λ_=>by omega,by omega,by omega⟩ d) (Ck (Xf (by decide) ⟨λ_=>by omega,by omega,by omega⟩ ⟨λ_=>by omega,by omega,by omega⟩ c) (funext λi=>?_));have:=tC a b 16 e i.val i.isLt;rw[(mM i.isLt).2,(mM i.isLt).2]at this;exact this
def uQ{s:BX}{n k:Int}(h:θ s<=1099511627776)(a:1<=k/\k<=8):OS (s,n,k)=δ (s++C8 n k.toNat):=by grind[OS]
theorem AAY{n:Int}(h:0<=n/\n<=8000):Kp ([0],n)=δ (jN n.toNat):=by unfold Kp;dsimp only;rw[G! h.1,G! h.2];rfl
theorem AAh{n:Int}{k:Nat}(hn:0<=n)(h:n<256^k)(a:n<9223372036854775808):rd (C8 n k)=n:=by unfold rd;grind[sB,Int.emod_eq_of_lt,AZ]
def AGN{b:BX}{c:Cg}(h:θ b<=1000)(i:θ c.2<=12):KE b c=δ (b++WN c):=by
 suffices e:As (KE b c) λr=>r=b++WN c by obtain⟨r,hr,rfl⟩:=e;exact hr
 unfold KE;refine AA (P:=λv=>v=if c.1=ζ then(θ c.2:Int)else 255) ?_ λj g=>?_;simp_all[AK,AB];rw[uQ o! g!,AD];refine AA (CE (by rw[AY,A0];simp[Int.reduceToNat];omega)) λk d=>?_;rw[AZ (by simp[len];omega),AAY (by simp[len];omega),AD];rw[(by simp only[len];omega:(12-len c.2).toNat=12-θ c.2)];refine AA (CE (by rw[d.2,AY,A0];simp[jN,HP,Int.reduceToNat];omega)) λf a=>AB ?_;grind[WN,List.append_assoc,Int.reduceToNat]
def zC{x:Int}(h:0<=x/\x<64):H6 x=δ ζ:=by grind[H6]
def ACk{x:AS}(h:HO x):WC x=δ ζ:=by unfold WC;rw[zC ⟨h.1,h.2.1⟩,AD,G! (show x.2.1>=0 from h.2.2.1),G! h.2.2.2.1];rfl
def AEY{x:AS}(h:HO x):Uk x=δ ζ:=by
 suffices e:As (Uk x) λr=>r=ζ by obtain⟨r,hr,rfl⟩:=e;exact hr
 unfold Uk;refine AA (P:=λr=>r=.inr ()) ?_ λr hr=>by rw[hr];exact A4 (AB rfl)
 refine Cp (λ(s:Int)=>0<=s/\s<=16) (λs=>(16-s).toNat) ⟨Af _,g!⟩ (λs d=>?_);have⟨g,k⟩:=d;unfold iK;refine AC (λa=>?_) (λ_=>As.done rfl);have i:As (δ (Step.next (wi (s+1))):Option (Step Int (Bool⊕Unit))) (Nn (λ(s:Int)=>0<=s/\s<=16) (λs=>(16-s).toNat) (16-s).toNat λr=>r=.inr ()):=by grind[AZ,As.next]
 refine AA (DX g a) λv f=>?_;have b:=h.2.2.2.2 ⟨s.toNat,o!⟩;rw[<-f]at b;refine AC (λa=>N! a (by have:=b.1.1;simp[len];omega)) (λ_=>AO (λc=>?_) (λj=>?_));refine AL (λhn=>N! (b.1.2.resolve_left (by rw[c];decide)) hn) (λ_=>AK (λa=>by rw[c]at a;cases a) (λ_=>i));simp_all[AK,AP]
def lT{x:AS}(h:HO x):M0 x=δ (H4 x,0):=by
 suffices c:As (M0 x) λr=>r=(H4 x,0) by obtain⟨r,hr,rfl⟩:=c;exact hr
 unfold M0;rw[ACk h,AD,AEY h,AD,CM,A!,A!,uQ g! g!,AD,uQ (by rw[B4,A0];decide) g!,AD];refine AA (P:=λr=>r=C8 x.2.1 8++(C8 x.1 4++Oy x.2.2 16)) ?_ λb g=>?_
 ·refine Cp (λ(s:Int×Nl)=>0<=s.1/\s.1<=16/\s.2=C8 x.2.1 8++(C8 x.1 4++Oy x.2.2 s.1.toNat)) (λ(s:Int×Nl)=>(16-s.1).toNat) ⟨Af _,u!,by simp[Oy]⟩ ?_;rintro⟨i,s⟩ ⟨f,m,c⟩;dsimp only at f m c;subst c;unfold dK;dsimp only;refine AC (λk=>?_) (λk=>As.done (by rw[show i.toNat=16 by omega]));have⟨e,o⟩:=mM (a:=x.2.2) (i:=i.toNat) o!;rw[I5 f]at e;rw[e,AD,AGN (by simp[AY,A0,I8 h];omega) (h.cl i.toNat).1,AD,AZ (x:=i+1)];refine As.next ⟨d!,d!,?_⟩ d!
  dsimp only;rw[show(i+1).toNat=i.toNat+1 by omega,Qb];simp[A5]
 have n:θ b=220:=by grind[List.length_append,A0,I8]
 rw[show wi (244-len b)=24 by rw[AZ (by simp[len];omega)];simp[len];omega,AAY g!,AD];refine AA (CE (by simp[jN,HP,Int.reduceToNat];omega)) λd j=>?_;rw[(by grind[Ku,List.append_assoc,Int.reduceToNat]:d=Ku x),xO (by rw[Gz h];decide),AD];have l:=Zf (Ku x);rw[AZ,uQ (by rw[Gz h];decide) g!,AD,uQ (by rw[AY,Gz h,A0];decide) g!,AD];grind[AB,H4,List.append_assoc,Int.reduceToNat]
def tD(a:GO 16 Cg)(i:Nat):∀k:Nat,i<=k->∃r,Oy a k=Oy a i++r
 |0,h=>⟨[],by rw[show i=0 by omega];rfl⟩
 |k+1,h=>by by_cases e:i=k+1;exact⟨[],by rw[e,DN]⟩;obtain⟨r,hr⟩:=tD a i k o!;exact⟨r++WN (cl a k),by rw[Qb,hr,A5]⟩
def vX{x:AS}(h:HO x){i:Nat}(a:i<16):∃A r,H4 x=A++(WN (cl x.2.2 i)++r)/\θ A=12+13*i:=by have⟨r,hr⟩:=tD x.2.2 (i+1) 16 o!;refine⟨C8 x.2.1 8++(C8 x.1 4++Oy x.2.2 i),r++(jN 24++(C8 (PW (Ku x)) 4++C8 x.2.1 8)),?_,by simp[AY,A0,I8 h];omega⟩;grind[H4,Ku,Qb,List.append_assoc]
def AA8{x a:GO 16 Cg}{i:Int}{c:Cg}(h:∀j:Fin 16,a j=if(j.val:Int)<i then x j else(η,[]))(e:0<=i/\i<16)(d:∀b,x ⟨i.toNat,b⟩=c):∀j:Fin 16,Wi a i c j=if(j.val:Int)<i+1 then x j else(η,[]):=by grind[Wi,Fin.ext]
def yC{x a:GO 16 Cg}{i:Int}(h:∀j:Fin 16,a j=if(j.val:Int)<i then x j else(η,[]))(d:0<=i/\i<16)(c:∀b,x ⟨i.toNat,b⟩=(η,[])):∀j:Fin 16,a j=if(j.val:Int)<i+1 then x j else(η,[]):=by grind[Fin.ext]
def xX{a t:BX}{n k:Int}(h:(θ a:Int)+θ t<=2199023255552)(b:1<=k)(d:k<=8)(e:k<=θ t)(g:t.take k.toNat=C8 n k.toNat)(hn:0<=n)(f:n<256^k.toNat)(c:n<9223372036854775808):HA (a++t,(θ a:Int),k)=δ n:=by grind[HA,Xg,AAh]
def AGT{x:AS}(h:HO x):WO (H4 x)=δ (x,ζ):=by
 suffices C:As (WO (H4 x)) λr=>r=(x,ζ) by obtain⟨r,hr,rfl⟩:=C;exact hr
 have l:=cw h;have O:=h.1;have S:=h.2.1;have Q:=h.2.2.1;have T:=h.2.2.2.1;have q1:HA (H4 x,8,4)=δ x.1:=by have:=xX (a:=C8 x.2.1 8) (t:=C8 x.1 4++(Oy x.2.2 16++(jN 24++(C8 (PW (Ku x)) 4++C8 x.2.1 8)))) (n:=x.1) (k:=4) (by simp only[AY,A0,I8 h,jN,HP];omega) g! g! (by simp[AY,A0];omega) (by exact Gn (A0 _ _)) O (by simp[Int.reduceToNat];omega) o!;rw[A0]at this;rw[<-this];simp only[H4,Ku,A5];rfl
 have q2:HA (H4 x,0,8)=δ x.2.1:=by have:=xX (a:=[]) (t:=H4 x) (n:=x.2.1) (k:=8) (by rw[l];decide) g! g! (by rw[l];decide) Ua Q (by simp[Int.reduceToNat];omega) o!;exact this
 unfold WO;rw[q1,AD,q2,AD];refine AA (P:=λr=>∃z,r=.inr (x,z)) ?_ λr hr=>by obtain⟨z,rfl⟩:=hr;exact A4 (AB rfl)
 refine Cp (λ(s:Int×AS×AS)=>0<=s.1/\s.1<=16/\s.2.1.1=x.1/\s.2.1.2.1=x.2.1/\∀j:Fin 16,s.2.1.2.2 j=if(j.val:Int)<s.1 then x.2.2 j else(η,[])) (λ(s:Int×AS×AS)=>(16-s.1).toNat) ⟨Af _,u!,rfl,rfl,λj=>by rw[D! d!];rfl⟩ ?_;rintro⟨i,⟨p,n,a⟩,z⟩ ⟨o,N,G,hn,f⟩;dsimp only at o N G hn f;subst G hn;unfold kF;dsimp only;refine AC (λg=>?_) (λg=>As.done ⟨z,?_⟩)
 ·rw[AZ (x:=i*13),AZ (x:=12+i*13),AZ (x:=12+i*13+1),AZ (x:=i+1)];have⟨R,m⟩:=mM (a:=x.2.2) (i:=i.toNat) o!;obtain⟨A,r,B,K⟩:=vX h (i:=i.toNat) o!;have b:=h.cl i.toNat
  generalize L:cl x.2.2 i.toNat=c at*;have F:θ A+(13+θ r)=256:=by have:=l;rw[B,AY,AY,cr b.1]at this;exact this
  have e:HA (H4 x,12+i*13,1)=δ (if c.1=ζ then(θ c.2:Int)else 255):=by have y:=b.1;have:=xX (a:=A) (t:=WN c++r) (n:=if c.1=ζ then(θ c.2:Int)else 255) (k:=1) (by rw[AY,cr b.1];omega) g! g! (by rw[AY,cr b.1];omega) (by unfold WN;rw[List.append_assoc];exact List.take_left' (A0 _ _)) (by split<;>omega) (by simp[Int.reduceToNat];split<;>omega) (by split<;>omega);rw[<-B]at this;rw[<-this,K];congr 3;omega
  rw[e,AD];have H:∀q:GO 16 Cg,(∀j:Fin 16,q j=if(j.val:Int)<i+1 then x.2.2 j else(η,[]))->As (δ (Step.next (i+1,(x.1,x.2.1,q),z)):Option (Step (Int×AS×AS) ((Bool×AS)⊕(AS×AS)))) (Nn (λ(s:Int×AS×AS)=>0<=s.1/\s.1<=16/\s.2.1.1=x.1/\s.2.1.2.1=x.2.1/\∀j:Fin 16,s.2.1.2.2 j=if(j.val:Int)<s.1 then x.2.2 j else(η,[])) (λ(s:Int×AS×AS)=>(16-s.1).toNat) (16-i).toNat λr=>∃z,r=.inr (x,z)):=λq w=>As.next ⟨d!,d!,rfl,rfl,w⟩ d!
  by_cases d:c.1=ζ;rw[C! d];have y:=b.1;rw[beq_eq_false_iff_ne.2 o!,A!,F! o!,A!,AZ];obtain⟨s,C,D⟩:=CY (s:=H4 x) (lo:=12+i*13+1) (hi:=12+i*13+1+(θ c.2:Int)) o! o! (by rw[l];omega);have E:s=c.2:=by
   rw[D.1,B];have I:(12+i*13+1).toNat=θ A+1:=o!
   have J:(12+i*13+1+(θ c.2:Int)).toNat-(12+i*13+1).toNat=θ c.2:=o!
   rw[J,I,<-Nq,Q4];unfold WN;rw[C! d,A5,pI (A0 _ _),A5,X2]
  rw[C,E,AD];have u:∃v,Gk a i=δ v:=by obtain⟨v,m,_⟩:=DX (a:=a) o g;exact⟨v,m⟩
  have⟨v,u⟩:=u;rw[u,AD,AD,AD,Sum.elim_inl];exact H _ (AA8 f ⟨o,g⟩ λM=>m.symm.trans (Ck d rfl));rw[D! d,beq_iff_eq.2 rfl,B!,AD,Sum.elim_inl];exact H _ (yC f ⟨o,g⟩ λM=>m.symm.trans (Ck (by simpa using d) (b.2.resolve_left d)))
 refine E! Sum.inr (Ck (Ck rfl (Ck rfl (funext λj=>?_))) rfl);exact(f j).trans (C! o!)
theorem ABO{x:AS}(h:HO x)(hn:x.2.1≠0):H4 x≠jN 256:=λe=>hn (by have:=congrArg (List.take 8) e;rw[Ua]at this;have a:=h.2.2.1;have b:=h.2.2.2.1;exact Xf (k:=8) (by decide) ⟨λ_=>by omega,by omega,by omega⟩ ⟨λ_=>by omega,by omega,by omega⟩ (this.trans (by decide)))
theorem y0:XN ()=δ (jN 256):=by grind[XN,AAY]
theorem ACd{x:AS}(h:HO x)(hn:x.2.1≠0):Pk (H4 x)=δ (x,0):=by
 have b:=cw h;unfold Pk;have⟨m,q1,d⟩:=CY (s:=H4 x) (lo:=0) (hi:=8) g! g! (by rw[b];decide);have⟨j,q2,e⟩:=CY (s:=H4 x) (lo:=248) (hi:=256) g! g! (by rw[b];decide);have⟨l,q3,f⟩:=CY (s:=H4 x) (lo:=0) (hi:=244) g! g! (by rw[b];decide);have g:j=C8 x.2.1 8:=by rw[e.1];show List.take 8 (List.drop 248 (H4 x))=_;rw[oE h,BP (by rw[A0];exact An _)]
 have i:l=Ku x:=f.1.trans (by show List.take 244 (H4 x)=_;unfold H4;exact Gn (Gz h));have c:=Zf (Ku x);have q4:HA (H4 x,244,4)=δ (PW (Ku x)):=by have:=xX (a:=Ku x) (t:=C8 (PW (Ku x)) 4++C8 x.2.1 8) (n:=PW (Ku x)) (k:=4) (by simp only[AY,A0,Gz h];decide) g! g! (by simp only[AY,A0];decide) (Gn (A0 _ _)) o! (by simp[Int.reduceToNat];omega) o!;rw[Gz h]at this;exact this
 rw[(by simp[len];omega:len (H4 x)=256),H!,A!,y0,AD,beq_eq_false_iff_ne.2 (ABO h hn),A!,q1,AD,q2,AD,d.1.trans Ua,g,H!,A!,q3,AD,i,q4,AD,xO (by rw[Gz h];decide),AD,AZ,H!,A!,AGT h,AD,lT h,AD,H!,H!];rfl
def nC(x:AS):BX:=if x.2.1=0 then jN 256 else H4 x
theorem AES{x:AS}(h:HO x)(a:x.2.1=0->x=(x.1,0,GO.all (η,[]))):GS (nC x,x.1)=δ (x,0):=by unfold GS nC;rw[zC ⟨h.1,h.2.1⟩,AD,CM,A!];by_cases hn:x.2.1=0;rw[C! hn];rw[(by grind[Pk,jN,List.length_replicate,y0]:Pk (jN 256)=δ ((0,0,GO.all (η,[])),7)),AD];exact E! (λq=>δ (q,(0:Int))) (a hn).symm;grind[ACd]
def Hd(p:BX):BX:=C8 (θ p:Int) 4++(p++C8 (PW (C8 (θ p:Int) 4++p)) 4)
theorem Ep(p:BX):(Hd p).length=θ p+8:=by grind[Hd,List.length_append,A0]
theorem bQ{p:BX}(h:θ p<=8392):Dc p=δ (Hd p):=by
 unfold Dc;simp only[len];rw[F! o!,A!,Hq k! g! g!,AD,B4];have b:(C8 (θ p:Int) 4++p).length=θ p+4:=by grind[List.length_append,A0]
 rw[(by grind[sapp,A0]:sapp (C8 (θ p:Int) (ο 4)) p=δ (C8 (θ p:Int) 4++p)),AD,wb o!,AD];have a:=Zf (C8 (θ p:Int) 4++p);rw[AZ,Hq o! g! g!,AD,A5];rfl
def UF(al:Nat)(t:BX):BX×Int×Int:=
 if θ t<4 then([],0,5)else
 if rd (t.take 4)>8392 then([],0,2)else
 if(θ t:Int)<rd (t.take 4)+8 then([],0,5)else
 if rd ((t.drop (4+(rd (t.take 4)).toNat)).take 4)≠PW (t.take (4+(rd (t.take 4)).toNat))then([],0,3)else
 ((t.drop 4).take (rd (t.take 4)).toNat,(al:Int)+8+rd (t.take 4),0)
def rd4{t:BX}(h:4<=θ t):0<=rd (t.take 4)/\rd (t.take 4)<4294967296:=by
 have a:(t.take 4).length=4:=by rw[BR];omega
 have:=(AAg (l:=t.take 4) o!).1 o!;rw[a]at this;exact this
theorem Vk{a t:BX}(h:(θ a:Int)+θ t<=2199023255552):CQ (a++t,(θ a:Int))=δ (UF (θ a) t):=by
 have b:len (a++t)=(θ a:Int)+θ t:=by grind[List.length_append]
 have o:((a++t).length:Int)=(θ a:Int)+θ t:=b;unfold CQ UF;dsimp only;rw[F! o!,A!,F! o!,A!,jQ h g! g!];by_cases g:θ t<4;rw[D! o!,C! g];rfl;rw[C! o!,D! g,AD,show ο 4=4 from rfl];have⟨p,u⟩:=rd4 (t:=t) o!;generalize hn:rd (t.take 4)=n at*;obtain⟨m,rfl⟩:=EE p;rw[show((0:Int) !=0)=η by decide,A!];by_cases d:(m:Int)>8392;rw[G! d,B!,C! d];rw[F! d,A!,D! d,b,AZ,AZ];by_cases i:(θ t:Int)<(m:Int)+8;rw[G! o!,B!,C! i];rw[F! o!,A!,D! i,Cz];have f:wi (wi ((θ a:Int)+4)+(m:Int))=((a++t.take (4+m)).length:Int):=by rw[AZ (x:=(θ a:Int)+4),AZ,AY,BR];omega
 have j:a++t=(a++t.take (4+m))++t.drop (4+m):=by rw[A5,Dr]
 have s:((t.drop (4+m)).length:Int)=θ t-(4+m):=by rw[C5];omega
 have c:((a++t.take (4+m)).length:Int)=θ a+4+m:=by rw[AY,BR];omega
 have l:Ay (a++t,wi (wi ((θ a:Int)+4)+(m:Int)),4)=δ (rd ((t.drop (4+m)).take 4),0):=by
  rw[f];conv=>lhs;rw[j]
  rw[jQ o! g! g!,C! o!];rfl
 have q:R0 (a++t) (θ a:Int) (wi (wi ((θ a:Int)+4)+(m:Int)))=δ (t.take (4+m)):=by unfold R0;rw[f,C! o!,c,Cz,Q4,show((θ a:Int)+4+m).toNat-θ a=4+m by omega]
 have r:R0 (a++t) (wi ((θ a:Int)+4)) (wi (wi ((θ a:Int)+4)+(m:Int)))=δ ((t.drop 4).take m):=by unfold R0;rw[f,AZ (x:=(θ a:Int)+4),C! o!,c,show((θ a:Int)+4).toNat=θ a+4 by omega,Xl,Vq o!,B4,S7,show((θ a:Int)+4+m).toNat-(θ a+4)=m by omega]
 rw[l,AD,q,AD,wb (by rw[BR];omega),AD,r];have⟨q1,q2⟩:=rd4 (t:=t.drop (4+m)) o!;have k:ι .u32 (rd ((t.drop (4+m)).take 4))=rd ((t.drop (4+m)).take 4):=by rw[wU];omega
 rw[k];by_cases e:rd ((t.drop (4+m)).take 4)=PW (t.take (4+m));rw[D! (by simp[e]),e,H!,A!,AD,AZ (x:=(θ a:Int)+8),AZ];rw[C! e,bne_iff_ne.2 e,B!]
theorem AER{x:BX}{i:Int}(a:0<=i)(h:i>θ x):By (x,i,4)=δ (0,5):=by grind[By]
theorem WZ{a t:BX}(h:(θ a:Int)+θ t<=2199023255552):Dm (a++t,(θ a:Int))=δ (UF (θ a) t):=by
 have f:len (a++t)=(θ a:Int)+θ t:=by grind[List.length_append]
 have p:((a++t).length:Int)=(θ a:Int)+θ t:=f;unfold Dm UF;dsimp only;rw[F! o!,A!,F! o!,A!,Xg h g! g!];by_cases i:θ t<4;rw[D! o!,C! i];rfl;rw[C! o!,D! i,AD,show ο 4=4 from rfl];have⟨q,w⟩:=rd4 (t:=t) o!;generalize hn:rd (t.take 4)=n at*;obtain⟨m,rfl⟩:=EE q;rw[show((0:Int) !=0)=η by decide,A!];by_cases d:(m:Int)>8392;rw[G! d,B!,C! d];rw[F! d,A!,D! d];have k:wi (wi ((θ a:Int)+4)+(m:Int))=(θ a:Int)+4+m:=by grind[AZ]
 by_cases j:(θ t:Int)<(m:Int)+8;rw[C! j];have:By (a++t,wi (wi ((θ a:Int)+4)+(m:Int)),4)=δ (0,5):=by
  rw[k];by_cases v:(θ a:Int)+4+m>(a++t).length;grind[AER];have c:(θ a:Int)+4+m=((a++t.take (4+m)).length:Int):=by grind[List.length_append,List.length_take]
  have g:a++t=(a++t.take (4+m))++t.drop (4+m):=by rw[A5,Dr]
  grind[List.length_drop,Xg]
 rw[this];rfl;rw[D! j,Cz];have c:wi (wi ((θ a:Int)+4)+(m:Int))=((a++t.take (4+m)).length:Int):=by grind[List.length_append,List.length_take]
 have g:a++t=(a++t.take (4+m))++t.drop (4+m):=by rw[A5,Dr]
 have u:((t.drop (4+m)).length:Int)=θ t-(4+m):=by rw[C5];omega
 have b:((a++t.take (4+m)).length:Int)=θ a+4+m:=by rw[AY,BR];omega
 have l:By (a++t,wi (wi ((θ a:Int)+4)+(m:Int)),4)=δ (rd ((t.drop (4+m)).take 4),0):=by
  rw[c];conv=>lhs;rw[g]
  rw[Xg o! g! g!,C! o!];rfl
 have r:R0 (a++t) (θ a:Int) (wi (wi ((θ a:Int)+4)+(m:Int)))=δ (t.take (4+m)):=by unfold R0;rw[c,C! o!,b,Cz,Q4,show((θ a:Int)+4+m).toNat-θ a=4+m by omega]
 have s:R0 (a++t) (wi ((θ a:Int)+4)) (wi (wi ((θ a:Int)+4)+(m:Int)))=δ ((t.drop 4).take m):=by unfold R0;rw[c,AZ (x:=(θ a:Int)+4),C! o!,b,show((θ a:Int)+4).toNat=θ a+4 by omega,Xl,Vq o!,B4,S7,show((θ a:Int)+4+m).toNat-(θ a+4)=m by omega]
 rw[l,AD,show(((rd ((t.drop (4+m)).take 4),(0:Int)):Int×Int).2 !=0)=η from rfl,A!,r,AD,xO (by rw[BR];omega),AD,s];have o:=Zf (t.take (4+m));rw[AZ (x:=PW (t.take (4+m)))];by_cases e:rd ((t.drop (4+m)).take 4)=PW (t.take (4+m));rw[D! (by simp[e]),e,H!,A!,AD,k,AZ];refine E! δ (Ck rfl (Ck ?_ rfl));dsimp only;omega;rw[C! e,bne_iff_ne.2 e,B!]
def xw{a:Nat}{t:BX}(h:(UF a t).2.2=0):(UF a t).1.length<=8392/\(∃c,t=Hd (UF a t).1++c)/\(UF a t).2.1=(a:Int)+8+(UF a t).1.length:=by
 unfold UF at h⊢;by_cases j:θ t<4;rw[C! j]at h;exact N! h g!;rw[D! j]at h⊢;obtain⟨q,r⟩:=rd4 (t:=t) o!;by_cases k:rd (t.take 4)>8392;rw[C! k]at h;exact N! h g!;rw[D! k]at h⊢;by_cases o:(θ t:Int)<rd (t.take 4)+8;rw[C! o]at h;exact N! h g!;rw[D! o]at h⊢;by_cases b:rd ((t.drop (4+(rd (t.take 4)).toNat)).take 4)≠PW (t.take (4+(rd (t.take 4)).toNat));rw[C! b]at h;exact N! h g!;rw[D! b]at h⊢;have b:=Decidable.not_not.1 b;dsimp only;have e:(t.take 4).length=4:=by rw[BR];omega
 have g:C8 (rd (t.take 4)) 4=t.take 4:=by have:=xF (l:=t.take 4) o!;rwa [e]at this
 generalize hn:rd (t.take 4)=n at*;obtain⟨m,rfl⟩:=EE q;rw[Cz]at b⊢;have i:((t.drop 4).take m).length=m:=by rw[BR,C5];omega
 refine⟨o!,?_,o!⟩;have p:t.take (4+m)=C8 (m:Int) 4++(t.drop 4).take m:=by rw[List.take_add,g]
 have f:((t.drop (4+m)).take 4).length=4:=by rw[BR,C5];omega
 have d:C8 (PW (t.take (4+m))) 4=(t.drop (4+m)).take 4:=by rw[<-b];have:=xF (l:=(t.drop (4+m)).take 4) o!;rwa [f]at this
 refine⟨t.drop (4+m+4),?_⟩;unfold Hd;rw[i,<-p,d,<-A5,<-p];conv=>lhs;rw[<-Dr (4+m) t,<-Dr 4 (t.drop (4+m)),Nq]
 rw[A5]
theorem mX{c:Nat}{p a:BX}(h:θ p<=8392):UF c (Hd p++a)=(p,(c:Int)+8+θ p,0):=by
 have d:bR 4 (θ p:Int):=⟨λ_=>⟨o!,by rw[show(256:Int)^4=4294967296 by decide];omega⟩,o!⟩
 have e:=Zf (C8 (θ p:Int) 4++p);have b:bR 4 (PW (C8 (θ p:Int) 4++p)):=⟨λ_=>⟨o!,by rw[show(256:Int)^4=4294967296 by decide];omega⟩,o!⟩
 unfold UF;rw[(by grind[Hd,List.append_assoc,List.take_left',A0]:(Hd p++a).take 4=C8 (θ p:Int) 4),qN g! d,Cz,(by grind[Hd,List.append_assoc,List.take_left',List.length_append,A0]:(Hd p++a).take (4+θ p)=C8 (θ p:Int) 4++p),(by grind[Hd,List.append_assoc,List.drop_left',List.length_append,A0]:(Hd p++a).drop (4+θ p)=C8 (PW (C8 (θ p:Int) 4++p)) 4++a),(by grind[Hd,List.append_assoc,List.drop_left',A0]:(Hd p++a).drop 4=p++(C8 (PW (C8 (θ p:Int) 4++p)) 4++a)),(by rw[AY,(Ep p)]:(Hd p++a).length=θ p+8+θ a),D! o!,D! o!,D! o!,Gn (A0 _ _),qN g! b,D! k!,Gn rfl]
def CI(b:Dn):Prop:=θ b.1<=1099511627776/\0<=b.2.1/\b.2.1<=θ b.1
def NW{b:Dn}{x:Int}(h:CI b)(c:0<=x/\x<=8):As (BQ b x) λr=>CI r.2/\(x<=4->0<=r.1/\r.1<4294967296):=by
 unfold BQ;unfold CI at*
 exact x!
def N4{b:Dn}{x:Int}(h:CI b)(d:0<=x/\x<=4294967296):As (Cy b x) λr=>CI r.2:=by
 unfold Cy;unfold CI at*
 exact x!
def WS{b:Dn}{x:Unit}(h:CI b):As (Cm b x) λr=>CI r.2:=by
 unfold Cm;repeat' with_reducible first|intro a|apply AC|apply AP|apply AL|apply AK|apply AB|(refine AM ?_ (NW ?_ ?_);intro r hr)|(refine AM ?_ (N4 ?_ ?_);intro r hr)
 all_goals ((try dsimp[len]at*);(try first|omega|assumption|grind[CI]))
theorem aa{x:BX}(h:θ x<=1099511627776):As (D7 x) λr=>r.2=0->L5 r.1:=by
 unfold D7;have b:CI (x,0,0):=⟨h,k!,k!⟩
 exact x!
def Ww{x:BX×List Int}{s:BX×Int}(h:0<=s.2/\s.2<=θ x.2/\θ x.2<=16777216/\θ x.1<=1073741824/\(θ s.1:Int)<=θ x.1+8*s.2):As (Ai (K5 x) s) λr=>(θ r:Int)<=θ x.1+8*θ x.2:=by
 refine AW (λ(s:BX×Int)=>0<=s.2/\s.2<=θ x.2/\θ x.2<=16777216/\θ x.1<=1073741824/\(θ s.1:Int)<=θ x.1+8*s.2) (λ(s:BX×Int)=>((θ x.2:Int)-s.2).toNat) h (λs b=>?_);unfold K5;exact x!
def ZN{x:BX×List Int}(h:θ x.2<=16777216/\θ x.1<=1073741824):As (Hh x) λr=>(θ r:Int)<=θ x.1+8*θ x.2:=by
 unfold Hh;exact x!
def XZ{x:List Am}{s:BX×Int}(h:0<=s.2/\s.2<=θ x/\Y0 x/\(θ s.1:Int)<=10+40000*s.2):As (Ai (ME x) s) λr=>(θ r:Int)<=10+40000*θ x:=by
 refine AW (λ(s:BX×Int)=>0<=s.2/\s.2<=θ x/\Y0 x/\(θ s.1:Int)<=10+40000*s.2) (λ(s:BX×Int)=>((θ x:Int)-s.2).toNat) h (λs c=>?_);unfold ME;have⟨e,f,⟨b,a⟩,g⟩:=c;repeat' with_reducible first|intro d|apply AC|apply AK|apply AB|(refine AM ?_ (Dd ?_);intro r hr)|(refine AM ?_ (ZN ?_);intro r hr)|(refine AM ?_ (AJ ?_ ?_);rintro r ⟨hr,i⟩)
 all_goals try (have j:=a _ _ v!)
 all_goals try unfold VTx at*
 all_goals dsimp[len]at*
 all_goals first|omega|(refine⟨⟨?_,?_,⟨b,a⟩,?_⟩,?_⟩<;>(simp (disch:=omega) only[AZ];omega))|grind
def Sb{x:List Am}:As (KZ x) λr=>r.1.length<=16777216:=by
 unfold KZ;repeat' with_reducible first|intro a|apply AO|apply AK|apply AB|(apply AA (Dz);intro r hr)|(refine AM ?_ (Dd ?_);intro r hr)|(refine AM ?_ (XZ ?_);intro r hr)
 all_goals ((try dsimp[len]at*);(try first|omega|assumption|grind[Y0]))
def CJ(b:B8):Prop:=θ b.1<=1099511627776/\0<=b.2.1/\b.2.1<=θ b.1
def GD{b:B8}{x:Int}(h:CJ b)(c:0<=x/\x<=8):As (Cc b x) λr=>CJ r.2/\(x<=2->0<=r.1/\r.1<65536):=by
 unfold Cc;unfold CJ at*
 exact x!
def Uo  {s:Int×List Int×B8}(h:0<=s.1/\s.1+θ s.2.1<=65536/\CJ s.2.2):As (Ai (JA) s) λr=>CJ r.2/\θ r.1<=65536:=by
 refine AW (λ(s:Int×List Int×B8)=>0<=s.1/\s.1+θ s.2.1<=65536/\CJ s.2.2) (λ(s:Int×List Int×B8)=>s.1.toNat) h (λs c=>?_);unfold JA;exact x!
def WT{b:B8}{x:Int}(h:CJ b)(a:0<=x/\x<=2):As (F9 b x) λr=>CJ r.2:=by
 unfold F9;exact x!
def XY  {s:Int×List Am×B8}(h:0<=s.1/\s.1+θ s.2.1<=65536/\CJ s.2.2):As (Ai (MD) s) λr=>CJ r.2/\θ r.1<=65536:=by
 refine AW (λ(s:Int×List Am×B8)=>0<=s.1/\s.1+θ s.2.1<=65536/\CJ s.2.2) (λ(s:Int×List Am×B8)=>s.1.toNat) h (λs c=>?_);unfold MD;exact x!
def Sa{x:BX}(h:θ x<=1099511627776):As (KY x) λr=>θ r.1<=65536/\(r.2=0->Y0 r.1):=by
 unfold KY;have b:CJ (x,0,η):=⟨h,k!,k!⟩
 exact x!
def XX{x:Bu}{s:BX×Int}(h:0<=s.2/\s.2<=θ x/\θ x<=64/\(θ s.1:Int)<=10+24*s.2):As (Ai (Ib x) s) λr=>θ r<=2000:=by
 refine AW (λ(s:BX×Int)=>0<=s.2/\s.2<=θ x/\θ x<=64/\(θ s.1:Int)<=10+24*s.2) (λ(s:BX×Int)=>((θ x:Int)-s.2).toNat) h (λs b=>?_);unfold Ib;exact x!
def SZ{x:Bu}:As (ID x) λr=>r.1.length<=2000:=by
 unfold ID;repeat' with_reducible first|intro a|apply AO|apply AK|apply AB|(apply AA (GC);intro r hr)|(refine AM ?_ (Dd ?_);intro r hr)|(refine AM ?_ (XX ?_);intro r hr)
 all_goals ((try dsimp[len]at*);(try first|omega|assumption|grind[mY]))
def XW{x:BX}{a:Int×Int}{s:Int×List Bi}(h:0<=s.1/\s.1<=a.1/\a.1<=65536/\θ x<=1099511627776/\θ s.2<=s.1):As (Ai (Ia x a) s) λr=>θ r<=65536:=by
 refine AW (λ(s:Int×List Bi)=>0<=s.1/\s.1<=a.1/\a.1<=65536/\θ x<=1099511627776/\θ s.2<=s.1) (λ(s:Int×List Bi)=>(a.1-s.1).toNat) h (λs d=>?_);unfold Ia;exact x!
def SY{x:BX}(h:θ x<=1099511627776):As (Ef x) λr=>(r.2=0->mY r.1)/\θ r.1<=65536:=by
 unfold Ef;exact x!
def Qm{x:CZ}{s:Int}(h:0<=s/\s<=θ x.2.2.1/\(θ x.2.2.1:Int)<=16777216):As (Ai (NP x) s) λr=>r≠.inl ζ:=by
 refine AW (λ(s:Int)=>0<=s/\s<=θ x.2.2.1/\(θ x.2.2.1:Int)<=16777216) (λ(s:Int)=>((θ x.2.2.1:Int)-s).toNat) h (λs b=>?_);unfold NP;exact x!
def sV(x:CZ):Prop:=1<=x.1/\x.1<=64/\Y0 x.2.2.1/\mY x.2.2.2.2/\θ x.2.2.2.2=x.1
def OE{x:CZ}(h:x.2.2.2.1.length<=16777216):As (G5 x) λr=>r=true->sV x:=by
 unfold G5 sV
 repeat' first
   |with_reducible apply AC<;>intro a
   |with_reducible apply AO<;>intro a
   |with_reducible apply AL<;>intro a
   |(with_reducible apply BG<;>(intro u b;try subst b))
   |with_reducible apply AB
   |(with_reducible apply AA (Dz);intro r hr)
   |(with_reducible refine AM ?_ (Pc ?_);intro r hr)
   |(with_reducible apply AA (GC);intro r hr)
   |(with_reducible refine AM ?_ (Qm ?_);intro r hr)
 all_goals ((try dsimp[len]at*);(try first|omega|assumption|grind[Y0]))
def Xc{x:CZ}{s:BX×Int}(h:0<=s.2/\s.2<=θ x.2.2.2.1/\θ x.2.2.2.1<=16777216/\(θ s.1:Int)<=100000000+24*s.2):As (Ai (Ie x) s) λr=>θ r<=1073741824:=by
 refine AW (λ(s:BX×Int)=>0<=s.2/\s.2<=θ x.2.2.2.1/\θ x.2.2.2.1<=16777216/\(θ s.1:Int)<=100000000+24*s.2) (λ(s:BX×Int)=>((θ x.2.2.2.1:Int)-s.2).toNat) h (λs b=>?_);unfold Ie;exact x!
def aw{x:CZ}(h:θ x.2.2.2.1<=16777216):As (Gd x) λr=>θ r.1<=2147483648:=by
 unfold Gd;exact x!
def UY(c:Cg):BX:=bif c.1 then C8 (θ c.2:Int) 1++c.2 else C8 255 1
def Bz(e:AE):BX:=
 C8 e.1 8++(C8 e.2.1 1++(C8 e.2.2.1 4++(C8 e.2.2.2.1 8++(C8 e.2.2.2.2.1 8++(C8 e.2.2.2.2.2.1 8++(C8 e.2.2.2.2.2.2.1.1 4++(C8 e.2.2.2.2.2.2.1.2.1 1++
 (UY e.2.2.2.2.2.2.1.2.2.1++(UY e.2.2.2.2.2.2.1.2.2.2++(C8 (θ e.2.2.2.2.2.2.2:Int) 4++e.2.2.2.2.2.2.2))))))))))
theorem jx{c:Cg}(h:Gt c):(UY c).length<=13:=by
 unfold UY;cases c.1 with
 |true=>rw[B!,AY,A0];have:=h.1;omega
 |false=>grind[A0]
def ABE{s:BX}{c:Cg}(h:θ s<=1099511627776)(a:θ c.2<=8192):GJ (s,c)=δ (s++UY c):=by grind[GJ,UY,Bool.not_false,Hq,Bool.not_true,sapp,C8,ο,List.length_append,A0,List.append_assoc]
def L5.cells{e:AE}(h:L5 e):Gt e.2.2.2.2.2.2.1.2.2.1/\Gt e.2.2.2.2.2.2.1.2.2.2/\θ e.2.2.2.2.2.2.2<=8192/\bR 8 e.1/\bR 1 e.2.1/\bR 4 e.2.2.1/\bR 8 e.2.2.2.1/\bR 8 e.2.2.2.2.1/\bR 8 e.2.2.2.2.2.1/\bR 4 e.2.2.2.2.2.2.1.1/\bR 1 e.2.2.2.2.2.2.1.2.1:=by
 have⟨a1,a2,a3,a4,a5,a6,a7,a8,j⟩:=h;have k:∀n:Int,0<=n->n<=1099511627776->bR 8 n:=λn l m=>⟨n!,o!⟩
 have p:∀n:Int,0<=n->n<=1073741824->bR 4 n:=λn l m=>⟨λ_=>by rw[show(256:Int)^4=4294967296 by decide];omega,o!⟩
 have o:∀n:Int,0<=n->n<=255->bR 1 n:=λn l m=>⟨λ_=>by rw[show(256:Int)^1=256 by decide];omega,o!⟩
 have z:Gt (η,[]):=⟨g!,.inr rfl⟩
 refine and_assoc.1 (and_assoc.1 ⟨?_,k _ o! o!,?_⟩);rcases j with⟨k1,f,d,g,c,a⟩|⟨k1,f,d,g,c,a,i,b⟩|⟨k1,f,d,g,c,a,i,b⟩|⟨k1,f,d,g,c,a,i⟩|j;exact⟨⟨a.2.2.2.2.1,a.2.2.2.2.2⟩,by rw[d];decide⟩;exact⟨⟨b.2.2.2.2.1,b.2.2.2.2.2⟩,by rw[c];decide⟩;rw[c,a];exact⟨⟨z,z⟩,g!⟩;rw[a];exact⟨⟨z,z⟩,i⟩;have⟨k1,f,d,g,c,a,i,b⟩:=j;rw[i,b];exact⟨⟨z,z⟩,g!⟩;have q:1<=e.2.1/\e.2.1<=8/\0<=e.2.2.1/\e.2.2.1<=1073741824/\0<=e.2.2.2.2.2.2.1.1/\e.2.2.2.2.2.2.1.1<64/\0<=e.2.2.2.2.2.2.1.2.1/\e.2.2.2.2.2.2.1.2.1<16:=by rcases j with⟨k1,f,d,g,c,a⟩|⟨k1,f,d,g,c,a,i,b⟩|⟨k1,f,d,g,c,a,i,b⟩|⟨k1,f,d,g,c,a,i⟩|j;have:=a.1;have:=a.2.1;have:=a.2.2.1;have:=a.2.2.2.1;omega;have:=b.1;have:=b.2.1;have:=b.2.2.1;have:=b.2.2.2.1;omega;grind[P2];grind[P2];grind[P2]
 exact⟨o _ o! o!,p _ o! o!,k _ o! o!,k _ o! o!,k _ o! o!,p _ o! o!,o _ o! o!⟩
theorem SI{e:AE}(h:L5 e):(Bz e).length<=8392:=by have⟨a,b,c,_⟩:=h.cells;grind[jx,Bz,List.length_append,A0]
theorem qS{e:AE}(h:L5 e):Fc e=δ (Bz e,0):=by have⟨c,d,i,_⟩:=h.cells;have l1:=jx c;have l2:=jx d;have⟨b,f,g⟩:=CV (x:=e);have a:b=ζ:=g.2 h;subst a;unfold Fc;rw[f,AD,CM,A!];rw[Hq k! g! g!,AD,B4];rw[Hq (by simp only[AY,A0];simp only[Int.reduceToNat];omega) g! g!,AD];rw[Hq (by simp only[AY,A0];simp only[Int.reduceToNat];omega) g! g!,AD];rw[Hq (by simp only[AY,A0];simp only[Int.reduceToNat];omega) g! g!,AD];rw[Hq (by simp only[AY,A0];simp only[Int.reduceToNat];omega) g! g!,AD];rw[Hq (by simp only[AY,A0];simp only[Int.reduceToNat];omega) g! g!,AD];rw[Hq (by simp only[AY,A0];simp only[Int.reduceToNat];omega) g! g!,AD];rw[Hq (by simp only[AY,A0];simp only[Int.reduceToNat];omega) g! g!,AD];rw[ABE (by simp only[AY,A0];simp only[Int.reduceToNat];omega) (by have:=c.1;omega),AD];rw[ABE (by simp only[AY,A0];simp[Int.reduceToNat];omega) (by have:=d.1;omega),AD];rw[Hq (by simp only[AY,A0];simp[Int.reduceToNat];omega) g! g!,AD];unfold sapp;rw[C! (by simp only[AY,A0];simp[Int.reduceToNat];omega),AD];simp[A5];rfl
def CS(x p:BX)(c:BX×Int×Int):Prop:=c.1=x/\(c.2.2=0->∃rest,x=p++rest/\c.2.1=θ p)
def sQ{t:BX}{k:Nat}(h:k<=θ t)(a:k<=8):bR k (rd (t.take k))/\C8 (rd (t.take k)) k=t.take k:=by grind[List.length_take,AAg,xF]
def bL{x p:BX}{c:BX×Int×Int}{k:Nat}(h:CS x p c)(o:θ x<=1099511627776)(q:1<=k)(m:k<=8):As (BQ c (k:Int)) λr=>CS x (p++C8 r.1 k) r.2/\(r.2.2.2=0->bR k r.1)/\(c.2.2≠0->r=(0,c)):=by have⟨s,l,e⟩:=c;have⟨g,i⟩:=h;dsimp only at g i;subst g;unfold BQ;refine AL (λd=>AB ⟨⟨rfl,λb=>N! b d⟩,λb=>N! b d,λ_=>rfl⟩) (λd=>?_);dsimp only at d;subst d;have⟨a,hr,n⟩:=i rfl;subst hr n;rw[AY]at o;rw[jQ o! o! o!];by_cases j:(k:Int)<=θ a;rw[C! j,AD,Cz];have⟨q1,q2⟩:=sQ (t:=a) (k:=k) o! m;rw[show((0:Int) !=0)=η by decide,A!];refine AB ⟨⟨rfl,λ_=>⟨a.drop k,?_,?_⟩⟩,λ_=>q1,λf=>N! rfl f⟩;grind[List.append_assoc,List.take_append_drop];grind[AZ,List.length_append,A0];rw[D! j,AD];rw[show((5:Int) !=0)=ζ by decide,B!];exact AB ⟨⟨rfl,λb=>N! (show(5:Int)=0 from b) g!⟩,λb=>N! (show(5:Int)=0 from b) g!,λf=>N! rfl f⟩
def AEj{x p:BX}{c:BX×Int×Int}{n:Int}(h:CS x p c)(k:θ x<=1099511627776)(hn:c.2.2=0->0<=n/\n<4294967296):As (Cy c n) λr=>CS x (p++r.1) r.2/\(r.2.2.2=0->(θ r.1:Int)=n/\c.2.2=0):=by have⟨s,g,e⟩:=c;have⟨d,f⟩:=h;dsimp only at d f hn;subst d;unfold Cy;by_cases j:e=0;subst j;have⟨a,hr,i⟩:=f rfl;have⟨l,q⟩:=hn rfl;subst hr i;obtain⟨m,rfl⟩:=EE l;rw[AY]at k;rw[show((0:Int) !=0)=η by decide,A!];simp only[len];rw[show wi (((p++a).length:Int)-(θ p:Int))=θ a by rw[AY,AZ];omega];by_cases o:(m:Int)<=θ a;rw[F! o!,A!];rw[(by grind[AZ,R0,List.length_append,List.drop_left]:R0 (p++a) (wi (wi ((θ p:Int)+(m:Int))-(m:Int))) (wi ((θ p:Int)+(m:Int)))=δ (a.take m)),AD];refine AB ⟨⟨rfl,λ_=>⟨a.drop m,?_,?_⟩⟩,λ_=>⟨?_,by first|rfl|trivial⟩⟩;grind[List.append_assoc,List.take_append_drop];grind[AZ,List.length_append,List.length_take];grind[List.length_take];rw[G! o!,B!];exact AB ⟨⟨rfl,λb=>N! (show(5:Int)=0 from b) g!⟩,λb=>N! (show(5:Int)=0 from b) g!⟩;grind[AB]
def AEg{x p:BX}{c:BX×Int×Int}(h:CS x p c)(i:θ x<=1099511627776):As (Cm c ()) λr=>CS x (p++UY r.1) r.2/\(r.2.2.2=0->Gt r.1):=by unfold Cm;refine AA (bL (k:=1) h i g! g!) λv n=>?_;have⟨⟨f,j⟩,q,y⟩:=n;refine AL (λd=>AB ⟨⟨f,λb=>N! b d⟩,λb=>N! b d⟩) (λd=>?_);have⟨e,hr,g⟩:=j d;have m:=(q d).1 g!;rw[show(256:Int)^1=256 by decide]at m;refine AP (λa=>AB ⟨⟨f,λ_=>⟨e,?_,?_⟩⟩,λ_=>⟨Bc _,.inr rfl⟩⟩) (λa=>?_);dsimp only;rw[a]at hr;exact hr;dsimp only;rw[a]at g;exact g;refine AC (λ_=>AB ⟨⟨f,λb=>N! (show(4:Int)=0 from b) g!⟩,λb=>N! (show(4:Int)=0 from b) g!⟩) (λl=>?_);refine AA (AEj (x:=x) (p:=p++C8 v.1 1) ⟨f,j⟩ i (λ_=>o!)) λw o=>AB ?_;have⟨⟨s,z⟩,t⟩:=o;refine⟨⟨s,λb=>?_⟩,λb=>?_⟩;grind[UY,C8,List.append_assoc];dsimp only at b⊢;have⟨u,_⟩:=t b;exact⟨d!,.inl rfl⟩
def Yp{x p a:BX}{n:Int}{k:Nat}(e:x=p++(C8 n k++a))(d:θ x<=1099511627776)(b:1<=k)(c:k<=8)(hn:bR k n):BQ (x,(θ p:Int),0) (k:Int)=δ (n,x,((p++C8 n k).length:Int),0):=by grind[θ,List.length_append,A0,BQ,jQ,Int.toNat_natCast,List.take_left',qN,AZ]
theorem AEi{x p w a:BX}(c:x=p++(w++a))(d:θ x<=1099511627776):Cy (x,(θ p:Int),0) (θ w:Int)=δ (w,x,((p++w).length:Int),0):=by
 have b:=E! θ c;simp[AY]at b;unfold Cy;dsimp only;rw[show((0:Int) !=0)=η by decide,A!];simp only[len];rw[show τ ((θ w:Int)>wi ((θ x:Int)-(θ p:Int)))=η from F! (by rw[AZ];omega),A!];have e:R0 x (wi (wi ((θ p:Int)+(θ w:Int))-(θ w:Int))) (wi ((θ p:Int)+(θ w:Int)))=δ w:=by rw[AZ (x:=(θ p:Int)+(θ w:Int)),AZ];unfold R0;rw[C! o!,c,show((θ p:Int)+(θ w:Int)-(θ w:Int)).toNat=θ p by omega,Q4,show((θ p:Int)+(θ w:Int)).toNat-θ p=θ w by omega,X2]
 grind[AZ,List.length_append]
def AEf{x p a:BX}{c:Cg}(e:x=p++(UY c++a))(i:θ x<=1099511627776)(k:Gt c):Cm (x,(θ p:Int),0) ()=δ (c,x,((p++UY c).length:Int),0):=by
 have⟨b,d⟩:=c;have⟨j,f⟩:=k;dsimp only at j f;unfold Cm;cases b with
 |false=>
  have l:d=[]:=by rcases f with h|h;cases h;exact h
  subst l;rw[(rfl:UY (η,[])=C8 255 1)]at e⊢;rw[show(1:Int)=((1:Nat):Int)from rfl,Yp e i g! g! ⟨λ_=>g!,g!,g!⟩];rfl
 |true=>have g:UY (ζ,d)=C8 (θ d:Int) 1++d:=rfl;rw[g,A5]at e;rw[g];rw[show(1:Int)=((1:Nat):Int)from rfl,Yp e i g! g! ⟨λ_=>by rw[show(256:Int)^1=256 by decide];omega,o!⟩,AD];grind[AEi,List.append_assoc]
def AIT{x:BX}(a:θ x<=1099511627776):As (D7 x) λr=>r.2=0->x=Bz r.1/\Gt r.1.2.2.2.2.2.2.1.2.2.1/\Gt r.1.2.2.2.2.2.2.1.2.2.2/\bR 4 (θ r.1.2.2.2.2.2.2.2:Int)/\Cq r.1=δ ζ:=by
 unfold D7;have I:CS x [] (x,0,0):=⟨rfl,λ_=>⟨x,rfl,rfl⟩⟩
 refine AA (bL (k:=8) I a g! g!) λO y=>AA (bL (k:=1) y.1 a g! g!) λP z=>AA (bL (k:=4) z.1 a g! g!) λQ A=>AA (bL (k:=8) A.1 a g! g!) λR B=>AA (bL (k:=8) B.1 a g! g!) λS C=>AA (bL (k:=8) C.1 a g! g!) λT D=>AA (bL (k:=4) D.1 a g! g!) λU E=>AA (bL (k:=1) E.1 a g! g!) λV F=>D6 (AEg F.1 a) λq M o=>D6 (AEg o.1 a) λs w p=>AA (bL (k:=4) p.1 a g! g!) λj b=>AA (AEj (n:=j.1) b.1 a (λc=>?_)) λJ f=>?_;have:=(b.2.1 c).1 g!;rw[show(256:Int)^4=4294967296 by decide]at this;exact this;refine AL (λh=>AB λc=>N! c h) (λh=>AL (λ_=>AB n!) (λG=>D6 (CV) λK i _=>AO (λ_=>AB n!) (λH=>AB λ_=>?_)));subst H;obtain⟨q11,d⟩:=f.2 h;have l:s.2.2.2=0:=TW λe=>by have:=b.2.2 e;rw[this]at d;exact e d
 have u:=p.2 l;have L:q.2.2.2=0:=TW λe=>by
  have:s=((η,[]),q.2):=by have:=w;unfold Cm BQ at this;rw[bne_iff_ne.2 e,B!,AD,bne_iff_ne.2 e,B!]at this;injection this with this;exact this.symm
  rw[this]at l;exact e l
 have t:=o.2 L;obtain⟨g,m,N⟩:=f.1.2 h;have hr:g=[]:=by simp only[len]at G;have v:=E! θ m;rw[AY]at v;exact EZ o!
 subst hr;refine⟨?_,t,u,?_,i⟩;rw[m];unfold Bz;dsimp only;rw[q11];simp only[A5,B4,DN];dsimp only;rw[q11];exact b.2.1 d
def AEh{e:AE}(h:L5 e):D7 (Bz e)=δ (e,0):=by
 obtain⟨s,t,H,w,y,z,A,B,C,D,E⟩:=h.cells;have I:=SI h;have g:bR 4 (θ e.2.2.2.2.2.2.2:Int):=⟨λ_=>by rw[show(256:Int)^4=4294967296 by decide];omega,o!⟩
 have a:Bz e=[]++(C8 e.1 8++(C8 e.2.1 1++(C8 e.2.2.1 4++(C8 e.2.2.2.1 8++(C8 e.2.2.2.2.1 8++(C8 e.2.2.2.2.2.1 8++(C8 e.2.2.2.2.2.2.1.1 4++(C8 e.2.2.2.2.2.2.1.2.1 1++
 (UY e.2.2.2.2.2.2.1.2.2.1++(UY e.2.2.2.2.2.2.1.2.2.2++(C8 (θ e.2.2.2.2.2.2.2:Int) 4++(e.2.2.2.2.2.2.2++[])))))))))))):=by rw[DN];rfl
 generalize Bz e=x at*;have i:BQ (x,((0:Int)),0) 8=_:=Yp (p:=[]) (k:=8) a o! g! g! w;rw[B4]at i;rw[B4]at a;have j:=Yp (k:=1) a o! g! g! y;rw[<-A5]at a;have l:=Yp (k:=4) a o! g! g! z;rw[<-A5]at a;have m:=Yp (k:=8) a o! g! g! A;rw[<-A5]at a;have n:=Yp (k:=8) a o! g! g! B;rw[<-A5]at a;have o:=Yp (k:=8) a o! g! g! C;rw[<-A5]at a;have q:=Yp (k:=4) a o! g! g! D;rw[<-A5]at a;have r:=Yp (k:=1) a o! g! g! E;rw[<-A5]at a;have F:=AEf a o! s;rw[<-A5]at a;have G:=AEf a o! t;rw[<-A5]at a;have c:=Yp (k:=4) a o! g! g! g;rw[<-A5]at a;have d:=AEi a o!;rw[DN]at a;rw[<-a]at d;unfold D7;rw[i,AD];rw[show((1:Nat):Int)=1 from rfl]at j r;rw[show((4:Nat):Int)=4 from rfl]at l q c;rw[show((8:Nat):Int)=8 from rfl]at m n o;rw[j,AD,l,AD,m,AD,n,AD,o,AD,q,AD,r,AD,F,AD,G,AD,c,AD,d,AD];obtain⟨b,u,v⟩:=CV (x:=e);have f:b=ζ:=v.2 h;subst f;dsimp only[len];rw[show((0:Int) !=0)=η by decide,A!,H!,A!];rw[show(e.1,e.2.1,e.2.2.1,e.2.2.2.1,e.2.2.2.2.1,e.2.2.2.2.2.1,(e.2.2.2.2.2.2.1.1,e.2.2.2.2.2.2.1.2.1,e.2.2.2.2.2.2.1.2.2.1,e.2.2.2.2.2.2.1.2.2.2),e.2.2.2.2.2.2.2)=e from rfl,u,AD,CM,A!]
def KR(l:List AE):BX:=(l.map λe=>Hd (Bz e)).flatten
theorem SL(l:List AE)(e:AE):KR (l++[e])=KR l++Hd (Bz e):=by unfold KR;grind
theorem oL(e:AE)(l:List AE):KR (e::l)=Hd (Bz e)++KR l:=rfl
def rk{l:List AE}(h:∀e∈l,L5 e):(KR l).length<=8400*θ l:=by
 induction l with
 |nil=>exact An _
 |cons e r b=>have c:=b λx a=>h x (Aw.2 (.inr a));have d:=SI (h e (Aw.2 (.inl rfl)));rw[oL,AY,Ep,Ba];omega
def ACR{x p a:BX}{at_:Int}{k:Nat}(c:x=p++a)(e:at_=θ p)(i:θ x≤1099511627776)(h:1≤k)(f:k≤8)(g:k≤θ a):
  ∃n b,Ay (x,at_,(k:Int))=δ (n,0)/\By (x,at_,(k:Int))=δ (n,0)/\x=(p++C8 n k)++b/\bR k n/\θ b+k=θ a:=by
 have d:=E! θ c;rw[AY]at d;obtain⟨q1,q2⟩:=sQ (t:=a) g f;refine⟨rd (a.take k),a.drop k,?_,?_,?_,q1,?_⟩;rw[c,e,jQ o! o! o!,C! o!,Cz];rw[c,e,Xg o! o! o!,C! o!,Cz];rw[q2,A5,Dr];exact c;rw[C5];omega
def kM{x p rest:BX}{at_ n:Int}{k:Nat}(a:x=p++(C8 n k++rest))(d:at_=θ p)(f:θ x≤1099511627776)(e:1≤k)(c:k≤8)(hn:bR k n):
  Ay (x,at_,(k:Int))=δ (n,0)/\By (x,at_,(k:Int))=δ (n,0):=by
 have b:=E! θ a;simp only[AY,A0]at b;refine⟨?_,?_⟩;rw[a,d,jQ (by rw[AY,A0];omega) o! o!,C! (by rw[AY,A0];omega),Cz,Gn (A0 _ _),qN c hn];rw[a,d,Xg (by rw[AY,A0];omega) o! o!,C! (by rw[AY,A0];omega),Cz,Gn (A0 _ _),qN c hn]
def ZH{x:List Av×Int×Bool×Cs}{s:Int×List Av}(h:0<=s.1/\s.1<=θ x.1/\θ x.1<=16777216/\θ s.2<=s.1):As (Ai (OA x) s) λr=>θ r<=θ x.1:=by
 refine AW (λ(s:Int×List Av)=>0<=s.1/\s.1<=θ x.1/\θ x.1<=16777216/\θ s.2<=s.1) (λ(s:Int×List Av)=>((θ x.1:Int)-s.1).toNat) h (λs b=>?_);unfold OA;exact x!
def KW{x:List Av×Int×Bool×Cs}(h:θ x.1<=16777216):As (GL x) λr=>θ r<=θ x.1:=by
 unfold GL;exact x!
def ZE{x:A9×Int}{s:Int}(h:0<=s/\s<=θ x.1.1/\(θ x.1.1:Int)<=16777216/\0<=x.2/\x.2<θ x.1.2):As (Ai (N6 x) s) λr=>True:=by
 refine AW (λ(s:Int)=>0<=s/\s<=θ x.1.1/\(θ x.1.1:Int)<=16777216/\0<=x.2/\x.2<θ x.1.2) (λ(s:Int)=>((θ x.1.1:Int)-s).toNat) h (λs a=>?_);unfold N6;exact x!
def ZF{x:A9×Int}{s:Int}(h:0<=s/\s<=x.2/\(x.2:Int)<=16777216/\0<=x.2/\x.2<θ x.1.2):As (Ai (N7 x) s) λr=>True:=by
 refine AW (λ(s:Int)=>0<=s/\s<=x.2/\(x.2:Int)<=16777216/\0<=x.2/\x.2<θ x.1.2) (λ(s:Int)=>((x.2:Int)-s).toNat) h (λs a=>?_);unfold N7;exact x!
def gF{x:A9×Int}(h:θ x.1.1<=4096/\θ x.1.2<=4096)(b:0<=x.2/\x.2<θ x.1.2):As (Ma x) λr=>True:=by
 unfold Ma;exact x!
def ZG{x:List Av×Av}{s:Bool×Int×List Av}(h:0<=s.2.1/\s.2.1<=θ x.1/\θ x.1<=4096/\θ s.2.2<=s.2.1+1/\(s.1=η->(θ s.2.2:Int)<=s.2.1)):As (Ai (N9 x) s) λr=>θ r.2<=θ x.1+1/\(r.1=η->θ r.2<=θ x.1):=by
 refine AW (λ(s:Bool×Int×List Av)=>0<=s.2.1/\s.2.1<=θ x.1/\θ x.1<=4096/\θ s.2.2<=s.2.1+1/\(s.1=η->(θ s.2.2:Int)<=s.2.1)) (λ(s:Bool×Int×List Av)=>((θ x.1:Int)-s.2.1).toNat) h (λs c=>?_);unfold N9;repeat' with_reducible first|intro a|apply AC|apply AO|apply AL|(apply BF;try dsimp only)|apply Bh|apply B0|apply AB|(apply AA (Um);intro r hr)|(refine AM ?_ (AJ ?_ ?_);rintro r ⟨hr,f⟩)|(refine AM ?_ (Ad ?_);rintro r ⟨hr,d,b⟩)
 all_goals try (have e:=AZ (x:=s.2.1+1))
 all_goals (first|omega|grind)
def gG{x:List Av×Av}(h:θ x.1<=4096):As (Mb x) λr=>θ r<=θ x.1+1:=by
 unfold Mb;exact x!
def XT{B:Nat}(i:B<=2000){s:Int×A9}(h:0<=s.1/\s.1<=s.2.2.length/\s.2.1.length+s.2.2.length<=B):As (Ai Rb s) λr=>r.1.length+r.2.length<=B:=by refine AW (λs=>0<=s.1/\s.1<=s.2.2.length/\s.2.1.length+s.2.2.length<=B) (λs=>s.2.2.length*3000+((s.2.2.length:Int)-s.1).toNat) h (λs d=>?_);have⟨b,e,c⟩:=d;refine AC (λa=>?_) (λa=>AB c);simp[len]at a;refine AA (gF d! ⟨b,a⟩) λv _=>AA (P:=λv:Int×A9=>(v=s)\/(v.1= -1/\v.2.1.length<=s.2.1.length+1/\v.2.2.length+1=s.2.2.length)) ?_ λm g=>?_;refine AK (λ_=>?_) (λ_=>AB (.inl rfl));refine AA (AJ b a) λj _=>AA (gG d!) λk c=>AA (Bn o! b) λl f=>?_;grind[AZ,AA,Bn,Ad,AB];grind[AB,AZ]
def JM{B:Nat}{x:A9}(a:B<=2000)(h:θ x.1+θ x.2<=B):As (Ff x) λr=>θ r.1+θ r.2<=B:=by exact AA (XT a ⟨k!,k!,h⟩) λr hr=>AB hr
theorem GG.of{x:A9}{B:Nat}(a:B<=2000)(h:x.1.length+x.2.length<=B):GG x:=⟨by omega,by omega⟩
def GG.nil:GG (([],[]):A9):=⟨k!,k!⟩
def MA{x:A9×Int}(h:GG x.1):As (Hf x) λr=>GG r:=by refine AA (FM h) λv d=>AO (λ_=>AB h) (λc=>?_);have g:=d c;refine AA (KW h.1) λa e=>AA (KW h.2) λb f=>AA (JM (B:=1024) g! ?_) λr hr=>AB (GG.of g! hr);grind[Zv]
def af{x:A9×Int}(h:GG x.1):As (O3 x) λr=>GG r:=by refine AA (FM h) λv c=>AO (λ_=>AB h) (λa=>?_);have e:=c a;refine AA (KW h.2) λb d=>AA (JM (B:=1024) g! ?_) λr hr=>AB (GG.of g! hr);grind[Zv]
def Ul{x:A9×Int×Cs}(h:GG x.1):As (MZ x) λr=>GG r:=by refine AA (FM h) λv c=>AO (λ_=>AB h) (λa=>?_);have e:=c a;refine AA (KW h.1) λb d=>AA (JM (B:=1024) g! ?_) λr hr=>AB (GG.of g! hr);grind[Zv]
def Wu{x:A9×Int}{s:Int×Av}(h:0<=s.1/\s.1<=θ x.1.2/\θ x.1.2<=16777216):As (Ai (K3 x) s) λr=>True:=by
 refine AW (λ(s:Int×Av)=>0<=s.1/\s.1<=θ x.1.2/\θ x.1.2<=16777216) (λ(s:Int×Av)=>((θ x.1.2:Int)-s.1).toNat) h (λs b=>?_);unfold K3;exact x!
def IZ{x:A9×Int}(h:GG x.1):As (FN x) λr=>r.2=true->Zv x.1:=by
 unfold FN;repeat' with_reducible first|apply AK<;>intro b|(apply BF;try dsimp only)|apply Bh|apply B0|apply Mz|(apply BG<;>(intro u a;try subst a))|apply AB|(refine AM ?_ (FM ?_);intro r hr)|(refine AM ?_ (Wu ?_);intro r hr)
 all_goals ((try dsimp[len]at*);(try first|omega|assumption|grind[GG]))
def YU{x:A9×Av}{s:Int}(h:0<=s/\s<=θ x.1.2/\(θ x.1.2:Int)<=16777216/\θ x.1.1<=16777216):As (Ai (ND x) s) λr=>∀u,r=.inl u->0<=u/\u<=θ x.1.2:=by
 refine AW (λ(s:Int)=>0<=s/\s<=θ x.1.2/\(θ x.1.2:Int)<=16777216/\θ x.1.1<=16777216) (λ(s:Int)=>((θ x.1.2:Int)-s).toNat) h (λs a=>?_);unfold ND;exact x!
def dR{x:A9×Av}(h:GG x.1):As (Io x) λr=>0<=r/\r<=x.1.2.length:=by
 unfold Io;repeat' with_reducible first|apply AP<;>intro b|(apply BG<;>(intro u a;try subst a))|apply AB|(refine AM ?_ (IB ?_);intro r hr)|(refine AM ?_ (YU ?_);intro r hr)
 all_goals ((try dsimp[len]at*);(try first|omega|assumption|grind[GG]))
def ZD{x:A9×Av}(h:GG x.1):As (N5 x) λr=>GG r.1:=by refine AA (FM h) λv o=>AO (λ_=>AB GG.nil) (λl=>?_);have n:=o l;unfold Zv at n;refine AA N8 λ_ _=>AO (λ_=>AB GG.nil) (λ_=>AA (IZ h) λz _=>?_);apply AK<;>intro m;simp_all[AK,AB,GG.nil];refine AK (λ_=>AB h) (λ_=>AA (IB h.1) λ_ _=>AK (λ_=>AB h) (λ_=>AK (λ_=>AB GG.nil) (λ_=>AA (dR h) λp e=>AA (Bn o! e.1 e.2) λq j=>AA (Bn e.1 (by simp[len];omega) i!) λs a=>?_)));have f:=a.2;simp[len]at f;refine AA (Ad w!) λt b=>?_;have g:=b.2.1;simp at g;refine AA (Ad w!) λu c=>?_;have i:=c.2.1;simp at i;refine AA (Ad o!) λw k=>AA (JM (B:=1025) g! d!) λy d=>AA (IB d!) λ_ _=>AB (GG.of g! d)
def ZK{x:List Int×Int}{s:Bool×Int×List Int}(h:0<=s.2.1/\s.2.1<=θ x.1/\θ x.1<=4096/\θ s.2.2<=s.2.1+1/\(s.1=η->(θ s.2.2:Int)<=s.2.1)):As (Ai (N3 x) s) λr=>θ r.2<=θ x.1+1/\(r.1=η->θ r.2<=θ x.1):=by
 refine AW (λ(s:Bool×Int×List Int)=>0<=s.2.1/\s.2.1<=θ x.1/\θ x.1<=4096/\θ s.2.2<=s.2.1+1/\(s.1=η->(θ s.2.2:Int)<=s.2.1)) (λ(s:Bool×Int×List Int)=>((θ x.1:Int)-s.2.1).toNat) h (λs b=>?_);unfold N3;repeat' with_reducible first|intro a|apply AC|apply AO|apply AL|apply AK|(apply BF;try dsimp only)|apply Bh|apply B0|apply AB|(refine AM ?_ (AJ ?_ ?_);rintro r ⟨hr,g⟩)|(refine AM ?_ (Ad ?_);rintro r ⟨hr,f,d⟩)
 all_goals try dsimp[len]at*
 all_goals try (have e:=AZ (x:=s.2.1+1))
 all_goals try (have c:=b.2.2.2.2 v!)
 all_goals (try simp[Ba,Bb,Bool.true_eq_false,false_implies,and_true]at*)
 all_goals first|omega|grind
def O7{x:List Int×Int}(h:θ x.1<=4096):As (FV x) λr=>θ r<=θ x.1+1:=by
 unfold FV;exact x!
def Wv{x:A9}{s:List Int×Int}(h:0<=s.2/\s.2<=θ x.2/\θ x.2<=4096/\θ s.1<=s.2):As (Ai (K4 x) s) λr=>θ r<=θ x.2:=by
 refine AW (λ(s:List Int×Int)=>0<=s.2/\s.2<=θ x.2/\θ x.2<=4096/\θ s.1<=s.2) (λ(s:List Int×Int)=>((θ x.2:Int)-s.2).toNat) h (λs b=>?_);unfold K4;exact x!
def ZJ{x:A9}(h:GG x):As (Jv x) λr=>r.length<=4096:=by
 unfold Jv;repeat' with_reducible first|apply AK<;>intro a|(apply BF;try dsimp only)|apply Bh|apply B0|apply AB|(refine AM ?_ (FM ?_);intro r hr)|(refine AM ?_ (Wv ?_);intro r hr)
 all_goals ((try dsimp[len]at*);(try first|omega|assumption|grind[AZ,Zv]))
theorem ag{x:A9×Int}{b:Av×Bool}{s:List Int×Int}(h:0<=s.2/\s.2<=θ x.1.1/\θ x.1.1<=1024/\θ s.1<=s.2):As (Ai (O4 x b) s) λr=>θ r<=θ x.1.1:=by
 refine AW (λ(s:List Int×Int)=>0<=s.2/\s.2<=θ x.1.1/\θ x.1.1<=1024/\θ s.1<=s.2) (λ(s:List Int×Int)=>((θ x.1.1:Int)-s.2).toNat) h (λs c=>?_);unfold O4;exact x!
theorem ah{x:A9×Int}{b:Av×Bool}{s:List Int×Int}(h:0<=s.2/\s.2<=θ x.1.2/\θ x.1.2<=1024/\θ s.1<=s.2+1024):As (Ai (O5 x b) s) λr=>θ r<=4096:=by
 refine AW (λ(s:List Int×Int)=>0<=s.2/\s.2<=θ x.1.2/\θ x.1.2<=1024/\θ s.1<=s.2+1024) (λ(s:List Int×Int)=>((θ x.1.2:Int)-s.2).toNat) h (λs c=>?_);unfold O5;exact x!
def Lb{x:A9×Int}(h:GG x.1):As (IK x) λr=>θ r<=4096:=by unfold IK;refine AA (IZ h) λc b=>AO (λ_=>AB k!) (λa=>?_);grind[Zv,AA,ag,ah,AB]
theorem QB{x:A9×List Int×Int}{a:List Int}{s:Int}(h:0<=s/\s<=θ a/\(θ a:Int)<=16777216/\1<=θ x.2.1/\θ x.2.1<=4096):As (Ai (MB x a) s) λr=>∀u,r=.inl u->u=x.2.1:=by
 refine AW (λ(s:Int)=>0<=s/\s<=θ a/\(θ a:Int)<=16777216/\1<=θ x.2.1/\θ x.2.1<=4096) (λ(s:Int)=>((θ a:Int)-s).toNat) h (λs c=>?_);unfold MB;exact x!
def XU{x:A9×List Int×Int}{b:Int}{s:Bool×Int}(h:0<=s.2/\s.2<=θ x.2.1/\θ x.2.1<=4096):As (Ai (MC x b) s) λr=>True:=by
 refine AW (λ(s:Bool×Int)=>0<=s.2/\s.2<=θ x.2.1/\θ x.2.1<=4096) (λ(s:Bool×Int)=>((θ x.2.1:Int)-s.2).toNat) h (λs c=>?_);unfold MC;exact x!
def AFn(d:Nat){x:A9×List Int×Int}(h:GG x.1)(o:1<=θ x.2.1)(A:(θ x.2.1:Int)+d=x.2.2)(p:x.2.2<=4096):As (oH Ej (d+1) x) λr=>θ r<=4096:=by
 induction d generalizing x with
 |zero=>show As (Ej _ x) _;unfold Ej;have e:=AZ (x:=(θ x.2.1:Int)-1);refine AA (AJ (by simp[len];rw[e];omega) (by simp[len];rw[e];omega)) λv _=>AA (Lb h) λm f=>AP (λ_=>?_) (λc=>N! (by simp[len];omega) c);refine AA (QB ⟨k!,k!,o!,o,o!⟩) λr hr=>BG (λu a=>AB (by rw[hr u a];omega)) (λ_ _=>AB k!)
 |succ d t=>show As (Ej _ x) _;unfold Ej;have e:=AZ (x:=(θ x.2.1:Int)-1);refine AA (AJ (by simp[len];rw[e];omega) (by simp[len];rw[e];omega)) λv _=>AA (Lb h) λm f=>AP (λ_=>?_) (λ_=>?_);grind[AA,QB,BG,AB];refine AA (P:=λr=>∀u,r=.inl u->θ u<=4096) ?_ λr hr=>BG (λu a=>AB (hr u a)) (λ_ _=>AB k!);refine AW (λ(s:Int)=>0<=s/\s<=θ m) (λ(s:Int)=>((θ m:Int)-s).toNat) (s:=(0:Int)) ⟨g!,o!⟩ (λs q=>?_);unfold Rc;have b:=AZ (x:=s+1);refine AC (λc=>?_) (λ_=>AB (λu a=>by cases a));simp[len]at c;refine AA (AJ q.1 c) λB _=>AA (XU ⟨k!,k!,o!⟩) λw _=>AK (λ_=>AB ⟨by rw[b];omega,by rw[b];omega⟩) (λ_=>AA (Ad w!) λy g=>?_);have k:=g.2.1;simp[Bb]at k;refine AA (Ad w!) λn i=>?_;have l:=i.2.1;simp[Ba,Bb]at l;refine AA (t (x:=(x.1,n,x.2.2)) h d! d! p) λz j=>AC (λ_=>AB λu a=>by cases a;exact j) (λ_=>AB ⟨by rw[b];omega,by rw[b];omega⟩)
def ai{x:A9×List Int×Int}(h:GG x.1)(a:1<=θ x.2.1)(d:(θ x.2.1:Int)<=x.2.2)(b:x.2.2<=4096):As (O6 x) λr=>True:=by have⟨r,hr,_⟩:=AFn (x.2.2-θ x.2.1).toNat h a o! b;have⟨s,c⟩:=fy hr;exact⟨s,c,O!⟩
def dS{x:A9×Int}(h:GG x.1):As (La x) λr=>True:=by unfold La;refine AA (P:=λ_=>True) ?_ λr _=>BG (λ_ _=>AB trivial) (λ_ _=>AB trivial);refine AW (λs=>1<=s/\s<=4097) (λs=>(4097-s).toNat) ⟨g!,g!⟩ (λs d=>?_);unfold SV;have a:=AZ (x:=s+1);refine AA (ZJ h) λe c=>AC (λb=>?_) (λ_=>AB trivial);simp[len]at b;refine AA (ai h k! (by show(1:Int)<=s;omega) (by show s<=4096;omega)) λf _=>AC (λ_=>AB trivial) (λ_=>AB ⟨by rw[a];omega,by rw[a];omega⟩)
def TP(l:List Am):Nat:=(l.map λt=>θ t.2.2.2.2.1+1).sum
theorem AHe{l:List Am}{i:Nat}{o n:Am}(h:l[i]?=δ o):TP (l.set i n)+θ o.2.2.2.2.1=TP l+θ n.2.2.2.2.1:=by
 induction l generalizing i with
 |nil=>simp at h
 |cons t r a=>
  cases i with
  |zero=>simp at h;subst h;simp[TP];omega
  |succ i=>have:=a (i:=i) (by simpa using h);simp[TP,List.set_cons_succ,Bf,Vn]at*;omega
def vF{l:List Am}{id:Int}:TP (l.filter λt=>t.1 !=id)<=TP l:=by
 induction l with
 |nil=>simp
 |cons t r a=>simp[Q5];split;simp[TP,Bf,Vn]at*;omega;simp[TP,Bf,Vn]at*;omega
def wc{l:List Am}{id:Int}{i:Nat}{t:Am}(h:l[i]?=δ t)(a:t.1=id):TP (l.filter λt=>t.1 !=id)<TP l:=by
 induction l generalizing i with
 |nil=>simp at h
 |cons u r b=>
  have q:=vF (l:=r) (id:=id);cases i with
  |zero=>simp at h;subst h;simp[Q5,a,H!,Pg,if_false];simp[TP,Bf,Vn]at*;omega
  |succ i=>have:=b (i:=i) (by simpa using h);simp[Q5];split<;>(simp[TP,Bf,Vn]at*;omega)
def YX{x:List Am×Int}{s:Int×List Am}(h:0<=s.1/\s.1<=θ x.1/\θ x.1<=64/\θ s.2=s.1):As (Ai (NG x) s) λr=>θ r<=θ x.1:=by
 refine AW (λ(s:Int×List Am)=>0<=s.1/\s.1<=θ x.1/\θ x.1<=64/\θ s.2=s.1) (λ(s:Int×List Am)=>((θ x.1:Int)-s.1).toNat) h (λs c=>?_);unfold NG;exact x!
def Tu{x:List Am×Int}:As (Iq x) λr=>r.2=0->r.1.length=x.1.length+1/\r.1.length<=64:=by
 unfold Iq;repeat' with_reducible first|intro a|apply AC|apply AO|apply AP|apply AK|apply AB|(apply AA (Dz);intro r hr)|(refine AM ?_ (IF ?_);intro r hr)|(refine AM ?_ (YX ?_);intro r hr)|(refine AM ?_ (Ad ?_);rintro r ⟨hr,b,c⟩)|(refine AM ?_ (Bn ?_ ?_ ?_);rintro r ⟨hr,b⟩)
 all_goals ((try dsimp[len]at*);(try first|omega|assumption|grind[AZ,Y0]))
def ACq(l:List Am)(id:Int):List Am:=l.filter λt=>t.1 !=id
theorem oo(l:List Am)(id:Int):(ACq l id).length<=θ l:=FF _ _
theorem AGb(l:List Am)(id:Int):TP (ACq l id)<=TP l:=vF
theorem AGc{l:List Am}{id:Int}{i:Nat}{t:Am}(h:l[i]?=δ t)(a:t.1=id):TP (ACq l id)<TP l:=wc h a
def lM{a:Type}{l:List a}{n:Int}{p:a->Bool}{x:a}(b:0<=n)(c:l[n.toNat]?=δ x):(l.take (n+1).toNat).filter p=(l.take n.toNat).filter p++(if p x=ζ then [x]else []):=by
 have e:(n+1).toNat=n.toNat+1:=o!
 grind[List.take_add_one,Option.toList_some]
def oF{a:Type}{l:List a}{n:Int}{p:a->Bool}(b:0<=n):(((l.take n.toNat).filter p).length:Int)<=n:=by grind[List.length_filter_le,List.length_take]
def Xa{x:List Am×Int}{s:Int×List Am}(h:0<=s.1/\s.1<=θ x.1/\θ x.1<=16777216/\s.2=(x.1.take s.1.toNat).filter (λt=>t.1 !=x.2)):As (Ai (MF x) s) λr=>r=x.1.filter λt=>t.1 !=x.2:=by
 refine AW (λ(s:Int×List Am)=>0<=s.1/\s.1<=θ x.1/\θ x.1<=16777216/\s.2=(x.1.take s.1.toNat).filter (λt=>t.1 !=x.2)) (λ(s:Int×List Am)=>((θ x.1:Int)-s.1).toNat) h (λs f=>?_);unfold MF;have⟨b,i,e,c⟩:=f;have a:=oF (l:=x.1) (p:=λt:Am=>t.1 !=x.2) b;rw[<-c]at a;repeat' with_reducible first|intro d|apply AC|apply AL|apply AK|(apply BF;try dsimp only)|apply Bh|apply B0|apply AB|(refine AM ?_ (AJ ?_ ?_);rintro r ⟨hr,k⟩)|(refine AM ?_ (Ad ?_);rintro r ⟨hr,j,g⟩)
 all_goals dsimp[len]at*
 all_goals first|omega|(rw[(AZ (x:=s.1+1))];refine⟨⟨o!,o!,e,?_⟩,o!⟩;rw[lM b v!];grind)|(rw[c,BP o!])|(simp;omega)
def JO{x:List Am×Int}(h:θ x.1<=16777216):As (Gc x) λr=>r=ACq x.1 x.2:=by
 unfold Gc ACq
 exact x!
def NI{x:Am}(h:θ x.2.2.2.2.1<=16777216):As (IG x) λr=>r.1=x.1/\r.2.2.2.2=x.2.2.2.2:=by
 unfold IG;exact x!
def Lf{x:List Am×Int×Am}(h:θ x.1<=16777216)(a:0<=x.2.1/\x.2.1<θ x.1):As (IM x) λr=>r=x.1.set x.2.1.toNat x.2.2:=by unfold IM;refine AA (Ad (by simpa using h)) λr hr=>?_;have⟨hr,b,_⟩:=hr;rw[B4]at hr;subst hr;refine AA (AJ a.1 a.2) λ_ _=>AA (AJ a.1 a.2) λ_ _=>AB rfl
def Rf{x:List Am×AE}{a:Am}{s:Int×List Int}(h:0<=s.1/\s.1<=θ a.2.2.2.2.1/\θ a.2.2.2.2.1<=4096/\θ s.2<=s.1):As (Ai (OD x a) s) λr=>θ r<=θ a.2.2.2.2.1:=by
 refine AW (λ(s:Int×List Int)=>0<=s.1/\s.1<=θ a.2.2.2.2.1/\θ a.2.2.2.2.1<=4096/\θ s.2<=s.1) (λ(s:Int×List Int)=>((θ a.2.2.2.2.1:Int)-s.1).toNat) h (λs d=>?_);unfold OD;exact x!
def jR(l:List Am)(id:Int):Prop:=∃(j:Nat)(t:Am),l[j]?=δ t/\t.1=id
theorem jR.set{l:List Am}{i:Nat}{n:Am}{id:Int}(h:i<θ l)(hn:n.1=id):jR (l.set i n) id:=⟨i,n,by rw[Gy h],hn⟩
def AA4(l:List Am)(kind tx:Int)(m:List Am):Prop:=θ m<=θ l/\(tx=0->m=l)/\(tx≠0->kind≠1->(kind≠4->TP m<TP l)/\TP m<=TP l)/\(tx≠0->kind=4->jR m tx)
def gJ{x:List Am×AE}:As (GM x) λr=>r.2=0->AA4 x.1 x.2.2.1 x.2.2.2.1 r.1:=by
 unfold GM;repeat' with_reducible first|intro a|apply AC|apply AO|apply AP|apply AL|apply AK|(apply BF;try dsimp only)|apply Bh|apply B0|apply Mz|(apply BK;try dsimp only)|(apply A4;try dsimp only)|(apply BG<;>(intro u c;try subst c))|apply AB|(apply AA (Dz);intro r hr)|(apply AA (CV);intro r hr)|(refine AM ?_ (IF ?_);intro r hr)|(refine AM ?_ (Rf ?_);intro r hr)|(refine AM ?_ (JO ?_);intro r hr)|(refine AM ?_ (NI ?_);intro r hr)|(refine AM ?_ (Lf ?_ ?_);intro r hr)|(refine AM ?_ (AJ ?_ ?_);rintro r ⟨hr,f⟩)|(refine AM ?_ (Ad ?_);rintro r ⟨hr,e,b⟩)
 all_goals dsimp[len]at*
 all_goals first|omega|(intro d;exact N! d g!)|(unfold Y0 VTx at*;(first|omega|grind[AA4,AHe,AGc,AGb,oo,List.length_set,jR.set]))
variable {B:Int->Prop}
def Sc{x:List Am×Int}:As (IE x) λr=>r.2=0->Y0 x.1/\0<=r.1/\r.1<x.1.length:=by
 unfold IE;repeat' with_reducible first|intro a|apply AC|apply AO|apply AL|apply AK|apply AB|(apply AA (Dz);intro r hr)|(refine AM ?_ (IF ?_);intro r hr)|(refine AM ?_ (AJ ?_ ?_);rintro r ⟨hr,b⟩)
 all_goals ((try dsimp[len]at*);(try first|omega|assumption|grind[AZ,Y0]))
def gK{x:List Am×Int}:As (Me x) λr=>r.2=0->θ r.1<=64:=by
 unfold Me;repeat' with_reducible first|intro a|apply AP|apply AL|apply AK|apply AB|(apply AA (Sc);intro r hr)|(refine AM ?_ (Lf ?_ ?_);intro r hr)|(refine AM ?_ (AJ ?_ ?_);rintro r ⟨hr,e⟩)|(refine AM ?_ (Ad ?_);rintro r ⟨hr,d,b⟩)
 all_goals try dsimp[len]at*
 all_goals first|omega|(intro c;exact N! c v!)|grind[Y0,VTx,List.length_set]
def gI{x:List Am×Int×Int}:As (Md x) λr=>r.2=0->θ r.1<=64:=by
 unfold Md;repeat' with_reducible first|intro a|apply AC|apply AL|apply AK|apply AB|(apply AA (Sc);intro r hr)|(refine AM ?_ (NI ?_);intro r hr)|(refine AM ?_ (Lf ?_ ?_);intro r hr)|(refine AM ?_ (AJ ?_ ?_);rintro r ⟨hr,e⟩)|(refine AM ?_ (Ad ?_);rintro r ⟨hr,b,c⟩)|(refine AM ?_ (Bn ?_ ?_ ?_);rintro r ⟨hr,b⟩)
 all_goals try dsimp[len]at*
 all_goals first|omega|(intro d;exact N! d v!)|grind[Y0,VTx,List.length_set,AZ]
def jB{x:Bu×Int×Bi}(h:θ x.1<=16777216)(a:0<=x.2.1/\x.2.1<θ x.1):As (Nd x) λr=>r=x.1.set x.2.1.toNat x.2.2:=by unfold Nd;refine AA (Ad (by simpa using h)) λr hr=>?_;have⟨hr,b,_⟩:=hr;rw[B4]at hr;subst hr;refine AA (AJ a.1 a.2) λ_ _=>AA (AJ a.1 a.2) λ_ _=>AB rfl
def Un{x:Bu×AE}:As (Hg x) λr=>r.2=0->θ r.1=θ x.1/\(x.2.2.1≠7->r.1=x.1)/\(x.2.2.1=7->0<=x.2.2.2.2.2.2.2.1.1/\∃w,x.1[x.2.2.2.2.2.2.2.1.1.toNat]?=δ w/\r.1=x.1.set x.2.2.2.2.2.2.2.1.1.toNat ((if x.2.2.2.2.2.2.1>w.1 then x.2.2.2.2.2.2.1 else w.1),w.2)):=by
 unfold Hg;refine AA GC λv i=>AO (λa=>AB n!) (λa=>AA CV λl k=>AO (λa=>AB n!) (λf=>AL (λa=>AB λ_=>⟨rfl,λ_=>rfl,λe=>N! e a⟩) (λd=>?_)));have i:L5 x.2:=q!
 have c:0<=x.2.2.2.2.2.2.2.1.1:=by grind[L5,VE,Oe,P2]
 refine AC (λa=>AB n!) (λg=>?_);simp[len]at g;refine AA (AJ c) λw j=>AA (jB (by have:=(by grind:mY x.1).2;dsimp only;omega) ⟨c,d!⟩) λu h=>AB λ_=>?_;subst h;exact⟨k!,λe=>N! d e,λ_=>⟨c,w,j.1,rfl⟩⟩
def Kb{x:AT×Int}(h:SB x.1):As (Eh x) λr=>Bp x.1=δ ζ->KP x.1.1 x.1.2.2.1.2.1 x.1.2.2.2.1.2.1 x.1.2.2.2.2.2.2.2 x.1.2.2.2.2.2.2.1->0<=x.2->x.2<x.1.1->r=Bd x.1.2.2.1.2.1 x.2:=by unfold Eh;refine D6 (CA h) λv u t=>AO (λa=>AB λe=>?_) (λa=>?_);rw[u,a]at e;cases e;refine AC (λa=>AB λ_ _ p=>N! p o!) (λp=>AC (λa=>AB λ_ _ _ q=>N! q o!) (λq=>AA Ip λg s=>AK (λa=>AB λ_ c d j=>?_) (λk=>?_)));have⟨_,_,_,e,f,n,b⟩:=s.1 a;have:=(c x.2 d j).1 f n (by rw[b];exact e);rw[b]at this;rw[this];exact KB _ _;refine AA (Jy h) λl o=>AK (λa=>AB λ_ c d j=>(c x.2 d j).2.1 _ (o.1 a).1 (o.1 a).2) (λm=>AA (AJ o! (by have:=(t a).2.2.2.2.2.2.2;omega)) λr hr=>AB λ_ c d j=>?_);exact((c x.2 d j).2.2 r hr.1).2 (o.2 m) λf n e=>by have⟨i,w⟩:=DU n;exact N! ⟨i,f,w,e⟩ (s.2 k (t a).2.2.2.1)
def LX(a b:Aa):Prop:=b.1=a.1/\a.2.2<=b.2.2/\∃t,b.2.1=a.2.1++t
def LX.refl(a:Aa):LX a a:=⟨rfl,Af _,[],k!⟩
def LX.trans{a b c:Aa}(h:LX a b)(g:LX b c):LX a c:=by have⟨i,k,t,j⟩:=h;have⟨d,f,u,e⟩:=g;exact⟨d.trans i,bX k f,t++u,by rw[e,j,A5]⟩
def LX.get{a b:Aa}(h:LX a b){i:Nat}{e:AE}(f:a.2.1[i]?=δ e):b.2.1[i]?=δ e:=by have⟨c,_,t,d⟩:=h;grind[List.getElem?_append_left,Nat.lt_or_ge,List.getElem?_eq_none]
def AJj(k:AT)(z:AE)(m:AT):Prop:=
 ∃e,m.2.2.1.2.1=k.2.2.1.2.1++[e]/\e.1=k.2.2.1.1+θ k.2.2.1.2.1/\e.2.1=z.2.1/\e.2.2.2.2.2=z.2.2.2.2.2/\
  (KP k.1 k.2.2.1.2.1 k.2.2.2.1.2.1 k.2.2.2.2.2.2.2 k.2.2.2.2.2.2.1->(e.2.1=1\/e.2.1=2)->0<=e.2.2.2.2.2.2.1.1->e.2.2.2.2.2.2.1.1<k.1->e.2.2.2.2.1=Bd k.2.2.1.2.1 e.2.2.2.2.2.2.1.1)/\
  (z.2.1≠7->m.2.2.2.2.2.2.1=k.2.2.2.2.2.2.1)/\
  (z.2.1=7->0<=z.2.2.2.2.2.2.1.1/\∃w,k.2.2.2.2.2.2.1[z.2.2.2.2.2.2.1.1.toNat]?=δ w/\m.2.2.2.2.2.2.1=k.2.2.2.2.2.2.1.set z.2.2.2.2.2.2.1.1.toNat ((if z.2.2.2.2.2.1>w.1 then z.2.2.2.2.2.1 else w.1),w.2))
def zZ(k:AT)(z:AE)(m:AT):Prop:=
 m.1=k.1/\LX k.2.2.1 m.2.2.1/\Do m.2.2.1/\m.2.2.2.1=k.2.2.2.1/\m.2.2.2.2.1=k.2.2.2.2.1/\AA4 k.2.2.2.2.2.1 z.2.1 z.2.2.1 m.2.2.2.2.2.1/\m.2.2.2.2.2.2.2=k.2.2.2.2.2.2.2/\SB m/\AJj k z m
def F4{x:AT×AE}(h:SB x.1):As (ET x) λr=>r.2.2=0->VK x.1/\zZ x.1 x.2 r.1/\r.2.1=x.1.2.2.1.1+θ x.1.2.2.1.2.1:=by
 unfold ET;refine D6 (CA h) λv q E=>AO (λa=>AB n!) (λa=>?_);have n:=E a;rw[a]at q;refine AA (P:=λs=>(∃u,s=.inl u/\u.2.1≠0)\/∃u,s=.inr u/\u.1.2.1=x.2.2.1/\u.1.2.2.1=x.2.2.2.1/\u.1.2.2.2.2.2=x.2.2.2.2.2.2) ?_ λs D=>?_
 ·repeat' with_reducible first|intro a|apply AC|apply AO|apply AL|apply AK|(apply BF;try dsimp only)|apply Bh|apply B0|apply Mz|(apply BK;try dsimp only)|(apply A4;try dsimp only)|(apply BG<;>(intro u b;try subst b))|apply AB|(refine AM ?_ (Fh ?_);intro r hr)|(refine AM ?_ (AJ ?_ ?_);rintro r ⟨hr,N⟩)
  all_goals ((try dsimp[len]at*);(try first|omega|assumption|grind[AZ,SB]))
 rcases D with⟨u,rfl,b⟩|⟨u,rfl,b⟩;exact BK (AB λc=>N! c b);apply A4;refine AA (CK) λO A=>AA (P:=λv:AE=>v.2.1=x.2.2.1/\v.2.2.1=x.2.2.2.1/\v.2.2.2.2.2=x.2.2.2.2.2.2/\(KP x.1.1 x.1.2.2.1.2.1 x.1.2.2.2.1.2.1 x.1.2.2.2.2.2.2.2 x.1.2.2.2.2.2.2.1->(v.2.1=1\/v.2.1=2)->0<=v.2.2.2.2.2.2.1.1->v.2.2.2.2.2.2.1.1<x.1.1->v.2.2.2.2.1=Bd x.1.2.2.1.2.1 v.2.2.2.2.2.2.1.1)) ?_ λt d=>?_;refine AK (λa=>?_) (λa=>AB ⟨b.1,b.2.1,b.2.2,λ_ n=>N! (A.2 n) (by simp[a])⟩);exact AA (Kb h) λw F=>AB ⟨b.1,b.2.1,b.2.2,λo _ G H=>F q o G H⟩;refine AA (ae) λi B=>AL (λa=>AB (λc=>N! c a)) (λa=>?_);have⟨a1,a2,a3,a4,a5,a6⟩:=B a;dsimp only at a2 a3 a4 a5 a6;refine AA (G3) λp e=>AA (gJ) λI l=>AL (λa=>AB (λc=>N! c a)) (λf=>AA (Un) λJ m=>AL (λa=>AB (λc=>N! c a)) (λg=>AB λ_=>⟨n,?_⟩))
 have L:=a2.1;have M:θ i.1.2.1=θ x.1.2.2.1.2.1+1:=by rw[a3];simp
 have⟨K,y,k,z⟩:=e.1 (e.2 a1 d! d!);dsimp only at y k z;have C:p.1=(i.2.1,t.2):=by
  have:(i.2.1-i.1.1).toNat=θ x.1.2.2.1.2.1:=o!
  rw[this,a3]at k;simpa using k.symm
 have hn:=l f;have j:=(m g).2;rw[C]at hn j;dsimp only at hn j;rw[d.1,d.2.1]at hn;rw[d.1,d.2.2.1]at j;exact⟨⟨rfl,⟨a4,Int.le_of_eq a6.symm,_,a3⟩,a1,rfl,rfl,hn,rfl,⟨h.1,by have:=hn.1;have:=h.2.1;dsimp only at*;omega,h.2.2⟩,(i.2.1,t.2),a3,a5,d.1,d.2.2.1,d.2.2.2,j⟩,a5⟩
def zZ.ki{k m:AT}{z:AE}(h:zZ k z m)(b:KI B k)(a:z.2.1≠1/\z.2.1≠2/\z.2.1≠6/\z.2.1≠7):KI B m:=by obtain⟨a1,_,_,a4,_,_,a7,_,e,c,g,d,i,j,f,l⟩:=h;unfold KI;rw[a1,a4,a7,c,f a.2.2.2];rw[<-d]at a;exact⟨b.1.app ⟨λh=>o!,λh=>o!,λh=>o!⟩,b.2.1.app ⟨a.1,a.2.1⟩,b.2.2⟩
def zZ.sk{k m:AT}{z:AE}(h:zZ k z m)(a:SK B k)(b:z.2.1≠1/\z.2.1≠2/\z.2.1≠6/\z.2.1≠7):SK B m:=h.2.2.2.2.2.2.2.1.sk (h.ki a.ki b)
end Go.Pm
namespace Go.Pm
open Go Go.Ab
set_option maxHeartbeats 400000
def DI(d:Br):Prop:=θ d.1<=64/\(∀(i:Nat)(s:BX),d.1[i]?=δ s->θ s=256)/\d.2.2.1=[]/\d.2.2.2.2=[]
def XS{x:Int}{s:Int×List BX}(h:0<=s.1/\s.1<=x/\x<=64/\s.2.length=s.1/\ ∀(i:Nat) (t:BX),s.2[i]? =some t->t=Eu (List.replicate (Int.toNat 256) 0)):As (Ai (L9 x) s) λr=>(r.length:Int)=x/\ ∀(i:Nat) (t:BX),r[i]? =some t->t=Eu (List.replicate (Int.toNat 256) 0):=by
 refine AW (λ(s:Int×List BX)=>0<=s.1/\s.1<=x/\x<=64/\s.2.length=s.1/\ ∀(i:Nat) (t:BX),s.2[i]? =some t->t=Eu (List.replicate (Int.toNat 256) 0)) (λ(s:Int×List BX)=>(x-s.1).toNat) h (λs c=>?_);unfold L9;have⟨f,g,a,j,b⟩:=c;have k:(Eu (List.replicate (Int.toNat 256) 0)).length=256:=by rw[MP,HP];rfl
 repeat' with_reducible first|intro d|apply AC|apply AK|apply AB|(refine AM ?_ (Ad ?_);rintro r ⟨hr,l,e⟩)
 all_goals first|omega|(generalize Eu (List.replicate (Int.toNat 256) 0)=bs at*;simp;omega)|(generalize Eu (List.replicate (Int.toNat 256) 0)=bs at*;rw[(AZ (x:=s.1+1))];refine⟨⟨o!,o!,a,q!,?_⟩,o!⟩;grind)|(exact⟨o!,b⟩)
def SS{x:Int}(h:0<=x/\x<=64):As (O1 x) λr=>(θ r:Int)=x/\∀(i:Nat)(t:BX),r[i]?=δ t->t=Eu (ς (ο 256) 0):=by exact AA (XS ⟨Af _,h.1,h.2,rfl,λi t a=>by simp at a⟩) λr hr=>AB hr
def iu{x:Int}:As (KG x) λr=>r.2=0->DI r.1/\θ r.1.1=x/\∀(i:Nat)(t:BX),r.1.1[i]?=δ t->t=Eu (ς (ο 256) 0):=by refine AC (λb=>AB n!) (λb=>AC (λb=>AB n!) (λc=>AA (SS o!) λr hr=>AB λ_=>⟨⟨d!,λi t d=>?_,rfl,rfl⟩,hr⟩));rw[hr.2 i t d,MP,HP];rfl
def dO{x:Br×C2}:As (LW x) λr=>True:=by
 unfold LW;exact x!
def YN{x:Br}{s:Int}(h:0<=s/\s<=θ x.1/\(θ x.1:Int)<=16777216):As (Ai (M2 x) s) λr=>r≠.inl ζ:=by
 refine AW (λ(s:Int)=>0<=s/\s<=θ x.1/\(θ x.1:Int)<=16777216) (λ(s:Int)=>((θ x.1:Int)-s).toNat) h (λs b=>?_);unfold M2;exact x!
def YO{x:Br}{s:Int}(h:0<=s/\s<=x.2.2.1.length/\(x.2.2.1.length:Int)<=16777216):As (Ai (M3 x) s) λr=>r≠ .inl true:=by
 refine AW (λ(s:Int)=>0<=s/\s<=x.2.2.1.length/\(x.2.2.1.length:Int)<=16777216) (λ(s:Int)=>((x.2.2.1.length:Int)-s).toNat) h (λs b=>?_);unfold M3;repeat' with_reducible first|intro a|apply AC|apply AK|apply AB|(refine AM ?_ (AJ ?_ ?_);rintro r ⟨hr,c⟩)
 all_goals ((try dsimp[len]at*);(try first|omega|assumption|grind[AZ]|((try simp (disch:=omega) only[AZ,len]at*)<;>(try intros)<;>(try and_intros)<;>(try intros)<;>(first|omega|assumption|grind))))
def YP{x:Br}{s:Int}(h:0<=s/\s<=θ x.2.2.2.2/\(θ x.2.2.2.2:Int)<=16777216):As (Ai (M4 x) s) λr=>r≠.inl ζ:=by
 refine AW (λ(s:Int)=>0<=s/\s<=θ x.2.2.2.2/\(θ x.2.2.2.2:Int)<=16777216) (λ(s:Int)=>((θ x.2.2.2.2:Int)-s).toNat) h (λs b=>?_);unfold M4;exact x!
def dM{x:Br}(h:θ x.2.2.1<=16777216):As (LV x) λr=>r=ζ->1<=θ x.1/\θ x.1<=64:=by
 unfold LV;exact x!
def M8{x:Br×Int}(h:θ x.1.2.2.1<=16777216):As (GZ x) λr=>r=0->0<=x.2/\x.2<θ x.1.1/\θ x.1.1<=64:=by
 unfold GZ;exact x!
def Wt{x:List Int×Int}{s:Int×List Int}(h:0<=s.1/\s.1<=θ x.1/\θ x.1<=16777216/\θ s.2<=s.1):As (Ai (K2 x) s) λr=>θ r<=θ x.1:=by
 refine AW (λ(s:Int×List Int)=>0<=s.1/\s.1<=θ x.1/\θ x.1<=16777216/\θ s.2<=s.1) (λ(s:Int×List Int)=>((θ x.1:Int)-s.1).toNat) h (λs c=>?_);unfold K2;exact x!
def Ra{x:List Int×Int}(h:θ x.1<=16777216):As (FL x) λr=>θ r<=θ x.1:=by
 unfold FL;exact x!
def aZ{x:List Int×Int}{s:Int}(h:0<=s/\s<=θ x.1/\(θ x.1:Int)<=16777216):As (Ai (O2 x) s) λr=>True:=by
 refine AW (λ(s:Int)=>0<=s/\s<=θ x.1/\(θ x.1:Int)<=16777216) (λ(s:Int)=>((θ x.1:Int)-s).toNat) h (λs b=>?_);unfold O2;exact x!
def iv{x:List Int×Int}(h:θ x.1<=16777216):As (Na x) λr=>True:=by
 unfold Na;exact x!
def gC{x:Br×Int}(h:DI x.1):As (MX x) λr=>r.2=0->r.1.length=256/\0<=x.2/\x.1.1[x.2.toNat]? =some r.1:=by
 unfold MX;repeat' with_reducible first|intro a|apply AL|apply AK|apply AB|(refine AM ?_ (M8 ?_);intro r hr)|(refine AM ?_ (iv ?_);intro r hr)|(refine AM ?_ (AJ ?_ ?_);rintro r ⟨hr,b⟩)
 all_goals ((try dsimp[len]at*);(try first|omega|assumption|grind[DI]))
def DI.set{d:Br}{l:List BX}{i:Int}{t:BX}{u:List Int}{w:Int}{b:Bool}(h:DI d)(c:l=d.1)(n:θ t=256)(e:θ u<=([]:List Int).length):DI (Eo l i t,w,u,b,[]):=by subst c;have⟨a,f,g,k⟩:=h;refine⟨by simpa[Eo]using a,λj s m=>?_,sY.1 (by simpa using e),rfl⟩;grind[Eo]
def gD{x:Br×Int×BX×Int}(h:DI x.1):As (Qg x) λr=>r.2=0->DI r.1/\∃o,0<=x.2.1/\x.1.1[x.2.1.toNat]?=δ o/\r.1.1=Eo x.1.1 x.2.1 (x.2.2.1.take x.2.2.2.toNat++o.drop x.2.2.2.toNat):=by
 have⟨C,s,n,t⟩:=h;refine AA (M8 (by dsimp only;rw[n];simp)) λF i=>AL (λg=>AB (λa=>N! a g)) (λg=>AC (λ_=>AB n!) (λc0=>AC (λ_=>AB n!) (λB=>AL (λ_=>AB n!) (λv=>?_))));have⟨b,c,E⟩:=i g;simp only[len]at v;refine AA (Ad w!) λw j=>AA (Ad (by rw[n];simp)) λz k=>AA (Ad (by rw[t];simp)) λA m=>?_;have j:w=x.1.1:=q!
 have k:z=[]:=q!
 have m:A=[]:=q!
 subst j k m;refine AA (CY (Af _)) λG e=>AA (AJ b c) λH _=>AA (AJ b c) λq p=>?_;have D:=s _ _ p.1;refine AA (CY o! i! (by simp[len])) λI f=>AA (CE (by simp only[len]at f;omega)) λJ u=>AA (AJ b c) λ_ _=>AA (AJ b c) λ_ _=>AA (Ra k!) λy d=>AB λ_=>⟨h.set rfl (by simp only[len]at f;omega) d,q,b,p.1,?_⟩
 dsimp only;rw[u.1,e.1,f.1,BP (l:=q.drop _) (by simp[len])];simp
def whole{l:List BX}{i:Nat}{s o a b r:BX}(h:len s=256)(f:∀(i:Nat)(s:BX),l[i]?=δ s->θ s=256)(hr:r=a++b)(c:a=List.take (ο 256-ο 0) (List.drop (ο 0) s))(d:b=List.take ((len o).toNat-ο 256) (List.drop (ο 256) o))(g:l[i]?=δ o):r=s:=by have j:=f _ _ g;have e:List.drop (ο 256) o=[]:=kw (by simp only[Int.reduceToNat];omega);simp only[len]at h;rw[hr,c,d,e,List.take_nil,DN];exact BP w!
def dN{x:Br×Int×BX}(h:DI x.1):As (Pt x) λr=>r.2=0->DI r.1/\0<=x.2.1/\r.1.1=Eo x.1.1 x.2.1 x.2.2:=by
 have⟨B,o,i,j⟩:=h;refine AA (M8 (by dsimp only;rw[i];simp)) λC g=>?_;refine AL (λb=>AB (λc=>absurd c b)) (λb=>?_);refine AL (λb=>AB n!) (λd=>?_);refine AP (λb=>AB n!) (λq=>?_);refine AA (Ad w!) λy t=>?_;refine AA (Ad (by rw[i];simp)) λz u=>?_;refine AA (Ad (by rw[j];simp)) λA v=>?_;have l:y=x.1.1:=q!
 have m:z=[]:=q!
 have n:A=[]:=q!
 subst l m n;have l1: ∀s,s.1=0->Ai (M5 x) s=some s.2:=λs e=>by rw[HG];unfold M5;rw[j,e];rfl
 rw[l1 _ rfl];apply BF;have l2: ∀a s,a.1=[]->s.2.1=0->Ai (M6 x a) s=some (s.1,(s.2.2.2.2.2.2.1,(s.2.2.2.2.2.1,s.2.2.2.2.2.2.2))):=λa s f e=>by rw[HG];unfold M6;rw[f,e];rfl
 have w: ∀a s,a.1=[]->s.1=0->Ai (M7 a) s=some (s.2.2.2.2.2.1,(s.2.2.2.2.1,s.2.2.2.2.2.2)):=λa s f e=>by rw[HG];unfold M7;rw[f,e];rfl
 rw[l2 _ _ rfl rfl];repeat' with_reducible first|apply AC<;>intro b|apply AO<;>intro b|apply AP<;>intro b|apply AL<;>intro b|apply AK<;>intro b|(apply BF;try dsimp only)|apply Bh|apply B0|apply AB|(rw[w _ _ rfl rfl];apply BF;dsimp only)|(refine AM ?_ (Ra ?_);intro r hr)|(refine AM ?_ (AJ ?_ ?_);rintro r ⟨hr,q⟩)|(refine AM ?_ (Ad ?_);rintro r ⟨hr,k,p⟩)|(refine AM ?_ (CE ?_);rintro r ⟨hr,k⟩)|(refine AM ?_ (CY ?_ ?_ ?_);rintro r ⟨hr,k⟩)
 all_goals first|omega|(simp;done)|(intro c;exact absurd c g!)|(exact λ_=>⟨h.set rfl q! hr,(g v!).1,congrArg (Eo _ _) (whole d o v! v! v! v!)⟩)|(cases b;done)|grind
def DC(p:Bw):Nat:=p.2.1.countP λf=>f.2.1
def UC(p:Bw):Nat:=p.2.1.countP λf=>f.2.2.2
def zx{a:Type}{l:List a}{i:Nat}{o n:a}{q:a->Bool}(h:l[i]?=δ o):(l.set i n).countP q+(if q o=ζ then 1 else 0)=l.countP q+(if q n=ζ then 1 else 0):=q!
theorem Ld{x:Bw×Int×BH}(h:θ x.1.2.1<=16777216)(a:0<=x.2.1/\x.2.1<θ x.1.2.1):As (IL x) λr=>r=(x.1.1,x.1.2.1.set x.2.1.toNat x.2.2,x.1.2.2):=by refine AA (Ad (by simpa using h)) λr hr=>?_;have⟨hr,b,_⟩:=hr;subst hr;refine AA (AJ a.1 a.2) λ_ _=>AA (AJ a.1 a.2) λ_ _=>AB rfl
def core(f:BH):AS×Bool×Int:=(f.1,f.2.1,f.2.2.1)
def CF(l:List BH):List (AS×Bool×Int):=l.map core
def AHP{l:List BH}{i:Nat}{f g:BH}(h:l[i]?=δ f)(a:core g=core f):CF (l.set i g)=CF l:=by unfold CF;apply I6;grind
theorem sL{l m:List BH}(h:CF m=CF l){i:Nat}{f:BH}(a:m[i]?=δ f):∃g,l[i]?=δ g/\core g=core f:=by
 have:(CF m)[i]?=δ (core f):=by unfold CF;rw[List.getElem?_map,a];rfl
 rw[h]at this;unfold CF at this;grind
def AHO{l m:List BH}(h:CF m=CF l):θ m=θ l:=by have:=E! θ h;simpa[CF]using this
def AA1{p:Bw}:DC p=(CF p.2.1).countP λc=>c.2.1:=by unfold DC CF;rw[List.countP_map];rfl
theorem KO.congr{l m:List BH}{n:Int}(h:CF m=CF l)(d:KO l n):KO m n:=by refine⟨λi f r b=>?_,λi j f g c s b q=>?_⟩;have⟨g,a,o⟩:=sL h b;have:=d.1 i g r a;grind[core,oy];have⟨e,a,o⟩:=sL h b;have⟨k,p,t⟩:=sL h q;have:=d.2 i j e k c s a p;grind[core]
def PN.uniq{p:Bw}(h:PN p){i j:Nat}{f g:BH}(a:p.2.1[i]?=δ f)(b:p.2.1[j]?=δ g)(e:f.1.1=g.1.1):f=g:=by have c:=h.2.2.2.2.2.2;grind
def XV{c:List (AS×Bool×Int)}{z:Int}{s:Bw}(h:c=CF s.2.1/\z=s.1/\0<=s.2.2/\s.2.2<s.2.1.length/\s.2.1.length<=64):As (Ai Re s) λr=>c=CF r.2.1/\z=r.1/\0<=r.2.2/\r.2.2<r.2.1.length/\r.2.1.length<=64:=by
 refine AW (λs=>c=CF s.2.1/\z=s.1/\0<=s.2.2/\s.2.2<s.2.1.length/\s.2.1.length<=64) UC h (λs n=>?_);have⟨k,l,i,j,m⟩:=n;refine AA (AJ i j) λf q=>AK (λo=>?_) (λo=>AB ⟨k,l,i,j,m⟩);refine AA (AJ i j) λd t=>?_;have e:d=f:=q!
 subst e;refine AA (Ld d! ⟨i,j⟩) λp u=>?_;subst u;refine AP (λv=>?_) (λv=>AB ?_);grind;rw[(AZ (x:=s.2.2+1))];refine⟨⟨?_,l,(pA (len (s.2.1.set s.2.2.toNat (d.1,d.2.1,d.2.2.1,false))) (a:=s.2.2+1) o!),(o9 (s.2.2+1) (b:=len (s.2.1.set s.2.2.toNat (d.1,d.2.1,d.2.2.1,false))) w!),by rw[Xz];exact m⟩,?_⟩;rw[k];exact(AHP (g:=(d.1,d.2.1,d.2.2.1,false)) q.1 rfl).symm;unfold UC;grind
def ak{x:Bw}:As (O8 x) λr=>(r.2.2=0->PN x/\PN r.1/\CF r.1.2.1=CF x.2.1/\nU r.1 r.2.1)/\(PN x->θ x.2.1≠0->r.2.2=0):=by refine AA ER λv g=>AO (λc=>AB ⟨n!,λh _=>?_⟩) (λc=>?_);grind;have b:=g.1 c;have e:=b;have⟨k,l,m,i,n,o⟩:=b;refine AP (λa=>AB ⟨n!,λ_ h=>N! a (by simpa[len]using h)⟩) (λa=>?_);simp only[len]at a;refine AA (XV ⟨rfl,rfl,i,o!⟩) λp b=>?_;have⟨q1,q2,q3,q4,q5⟩:=b;refine AA (AJ q3 q4) λf d=>?_;have j:=AHO q1;refine AB ⟨λ_=>⟨e,⟨d!,d!,d!,q3,.inr q4,?_⟩,q1.symm,_,f,d.1,rfl⟩,λ_ _=>rfl⟩;grind[KO.congr]
def gH{x:Bw×Int}:As (Mc x) λr=>PN x.1->∀(i:Nat)(f:BH),x.1.2.1[i]?=δ f->f.1.1=x.2->f.2.1=η->(∀g∈r.1.2.1,g∈x.1.2.1)/\∀g∈x.1.2.1,g.2.1=ζ->g∈r.1.2.1:=by
 unfold Mc;refine AA ER λv A=>AO (λn=>AB λo=>N! (A.2 o) (by simp[n])) (λn=>?_);have o:=A.1 n;have T:=o.2.1;have U:=o.2.2.1;refine AA (Gb o!) λi G=>?_;have⟨R,J,K,L⟩:=G;refine AC (λn=>AB λ_ j f p e _=>N! ⟨j,f,p,e⟩ (L n)) (λH=>?_);have⟨k,I,t⟩:=K o!;refine AA (AJ o! J) λw Q=>?_;have B:w=k:=by grind[Option.some.inj]
 subst B;refine AK (λu=>AB λ_ j f p e l=>?_) (λu=>?_);have:=o.uniq p I (by rw[e,t]);subst this;rw[u]at l;cases l;have O:=AZ (x:=i+1);refine AA (Bn) λa C=>AA (Bn o! (by simp[len];omega) i!) λb D=>?_;have S:=C.2;have M:=D.2;simp[len]at M;refine AA (Ad (by rw[Bb];omega)) λc s=>?_;have N:=s.2.1;rw[Bb]at N;refine AA (Ad o!) λd E=>?_;have q:∀(j:Nat)(f:BH),x.1.2.1[j]?=δ f->f.1.1=x.2->f.2.1=η->(∀g∈d,g∈x.1.2.1)/\∀g∈x.1.2.1,g.2.1=ζ->g∈d:=by intro j f p e l;refine⟨λg y=>?_,λg y F=>?_⟩;grind[List.mem_of_mem_take,List.mem_of_mem_drop];have⟨m,z⟩:=DU y;rw[(by grind[List.take_of_length_le,List.length_drop]:d=x.1.2.1.take i.toNat++x.1.2.1.drop (i.toNat+1)),Ak];rcases QX m i.toNat with h|h|h;exact .inl (BN (i:=m) (by rw[Jk h];exact z));grind[Option.some.inj];exact .inr (BN (i:=m-(i.toNat+1)) (by rw[Km];rw[show i.toNat+1+(m-(i.toNat+1))=m by omega];exact z))
 refine AA (P:=λ_=>True) (AC (λ_=>AB trivial) (λ_=>AB trivial)) λV _=>AA (P:=λ_=>True) (AC (λ_=>AB trivial) (λ_=>AB trivial)) λW _=>AB λ_=>q
theorem dT{x:Bw×Int×Int}:As (Pu x) λr=>r.2=0->PN x.1/\DC r.1<=DC x.1/\(∀(i:Nat) (f:BH),x.1.2.1[i]? =some f->f.1.1=x.2.1->f.2.1=true->f.1.2.1=x.2.2->DC r.1<DC x.1)/\(∀g∈r.1.2.1,∃f∈x.1.2.1,f.1.1=g.1.1/\f.1=g.1)/\ ∀f∈x.1.2.1,f.1.1≠x.2.1->f∈r.1.2.1:=by
 refine AA ER λv C=>?_;refine AO (λb=>AB (λo=>absurd o (by decide))) (λb=>?_);have l:=C.1 b;have J:=l.2.2.1;have I:=l.2.1;refine AA (Gb (by dsimp only;omega)) λi B=>?_;have⟨G,D,E,H⟩:=B;refine AC (λb=>AB (λo=>absurd o (by decide))) (λb=>?_);have⟨f,c,d⟩:=E (by omega);refine AA (AJ (by omega) D) λg z=>?_;have e:g=f:=by grind
 subst e;refine AC (λb=>AB (λo=>absurd o (by decide))) (λA=>?_);refine AO (λs=>AB (λ_=>⟨l,An _,λj k m a h _=>?_,λg z=>⟨g,z,rfl,rfl⟩,λf c _=>c⟩)) (λs=>?_);have:=l.uniq m c (by rw[a,d]);subst this;rw[s]at h;cases h;refine AA (P:=λn:BH=>(g.1.2.1=x.2.2->n.2.1=false)/\n.1=g.1) ?_ λn hn=>?_
 ·repeat' with_reducible first|refine AC ?_ ?_<;>intro b|refine AO ?_ ?_<;>intro b|refine AP ?_ ?_<;>intro b|refine AK ?_ ?_<;>intro b|(refine BF ?_;try dsimp only)|refine Bh ?_|refine B0 ?_|refine AB ?_|(refine AM ?_ (AJ ?_ ?_);rintro r ⟨hr,F⟩)
  all_goals grind
 refine AA (Ld (by dsimp only;omega) ⟨by dsimp only;omega,by dsimp only;omega⟩) λp y=>?_;subst y;refine AB λ_=>?_;have u:=zx (q:=λf:BH=>f.2.1) (n:=n) c;rw[s]at u;refine⟨l,?_,λj k m a h t=>?_,ABl c hn.2,λk m w=>xd c k m (by rw[d];exact w)⟩;unfold DC;dsimp only;simp at u;split at u<;>omega;have:=l.uniq m c (by rw[a,d]);subst this;rw[hn.1 t]at u;unfold DC;dsimp only;simp at u;omega
def SP{x:AS}:As (DD x) λr=>r.2=0->HO x/\r.1=H4 x:=by have⟨v,b,h⟩:=N1 (x:=x);by_cases a:v=0;exact⟨_,bP (h a),λ_=>⟨h a,rfl⟩⟩;unfold DD;rw[b,AD];exact AL (λ_=>AB λe=>N! e a) (λe=>N! e a)
theorem re:Ii ()=δ (jN 256):=by unfold Ii;rw[xm g!];rfl
def XQ{x:BX}{s:Int×AS×AS}(h:0<=s.1/\s.1<=16/\θ x=256):As (Ai (Gi x) s) λr=>∀u,r=.inl u->u.1=4:=by
 refine AW (λ(s:Int×AS×AS)=>0<=s.1/\s.1<=16/\θ x=256) (λ(s:Int×AS×AS)=>(16-s.1).toNat) h (λs e=>?_);unfold Gi;obtain⟨g,i,j⟩:=e;have b:=AZ (x:=s.1*13);have c:=AZ (x:=12+s.1*13);have d:=AZ (x:=12+s.1*13+1);rw[b,c,d];repeat' with_reducible first|intro a|apply AC|apply AP|apply AK|apply AB|(refine AM ?_ (DX ?_ ?_);intro r hr)|(refine AM ?_ (CY ?_ ?_ ?_);rintro r ⟨hr,f⟩)|(refine AM ?_ (RE ?_ ?_);rintro r ⟨hr,f⟩)
 all_goals try dsimp only[len]at*
 all_goals first|omega|grind[AZ]
def aY{x:BX}(h:θ x<=1099511627776):As (Ec x) λr=>(r.2=0->HO r.1/\x=H4 r.1/\x≠jN 256)/\(r.2=7->x=jN 256):=by
 unfold Ec;rw[re,AD];repeat' with_reducible first|intro b|apply AP|apply AL|apply AK|(apply BK;try dsimp only)|(apply A4;try dsimp only)|(apply BG<;>(intro u c;try subst c))|apply AB|(refine AM ?_ (Cj ?_);intro r hr)|(refine AM ?_ (Ps ?_);intro r hr)|(refine AM ?_ (XQ ?_);intro r hr)|(apply AA (SP);intro r hr)|(refine AM ?_ (CY ?_ ?_ ?_);rintro r ⟨hr,d⟩)
 all_goals try dsimp only[len]at*
 all_goals first|trivial|omega|(exact⟨n!,n!⟩)|grind
def iq{x:Int}:As (DO x) λr=>r=(x,0,GO.all (η,[])):=by
 unfold DO;exact x!
def Rd(s:BX)(p:Int)(q:AS):Prop:=q.1=p/\((s=jN 256/\q=(p,0,GO.all (η,[])))\/(HO q/\s=H4 q/\s≠jN 256))
def YL{x:BX×Int}(h:θ x.1<=1099511627776):As (Cv x) λr=>r.2=0->Rd x.1 x.2 r.1:=by refine AC (λ_=>AB n!) (λ_=>AC (λ_=>AB n!) (λ_=>AA (aY h) λv c=>AP (λd=>?_) (λ_=>AP (λf=>AL (λ_=>AB n!) (λb=>AB λa=>⟨b,.inr (c.1 a)⟩)) (λhn=>AB λa=>N! a hn))));exact AA iq λw e=>AB λ_=>by rw[e];exact⟨rfl,.inl ⟨c.2 d,rfl⟩⟩
def dV{x:Bu×Int×Int×BX}(h:θ x.2.2.2<=1099511627776):As (Le x) λr=>r.2=0->Rd x.2.2.2 x.2.1 r.1:=by
 unfold Le;repeat' with_reducible first|intro a|apply AC|apply AO|apply AL|apply AK|apply AB|(apply AA (GC);intro r hr)|(refine AM ?_ (YL ?_);intro r hr)|(refine AM ?_ (AJ ?_ ?_);rintro r ⟨hr,c⟩)
 all_goals try dsimp only[len]at*
 all_goals first|assumption|omega|(intro b;exact N! b v!)|(intro b;exact N! b g!)|(intro _;exact hr v!)|grind
def Tq{x:AS×Du}:As (Ik x) λr=>(r.2=0->Oe x.2/\Gk x.1.2.2 x.2.2.1=δ x.2.2.2.1)/\(Oe x.2->x.2.1=x.1.1->Gk x.1.2.2 x.2.2.1=δ x.2.2.2.1->r=((x.1.1,x.1.2.1,Wi x.1.2.2 x.2.2.1 x.2.2.2.2),0)):=by unfold Ik;refine AA Tr λv g=>AO (λe=>AB ⟨n!,λh=>N! (g.2 h) (by simp[e])⟩) (λe=>?_);have b:=g.1 e;refine AL (λe=>AB ⟨n!,λ_ h=>N! h e⟩) (λj=>?_);obtain⟨c,i,_⟩:=DX (a:=x.1.2.2) b.2.2.1 b.2.2.2.1;rw[i];refine BF (BF (AK (λd=>AB ⟨n!,λ_ _ h=>?_⟩) (λd=>BF (BF (AB ⟨λ_=>⟨b,?_⟩,λ_ _ _=>rfl⟩)))));rw[Bg h]at d;simp at d;obtain⟨k,l⟩:=c;simp at d;rw[d.1,d.2]
def AA0{x:AS}{e:AE}(h:HO x)(d:L5 e)(f:e.2.1=1\/e.2.1=2)(b:e.2.2.2.2.2.2.1.1=x.1)(g:e.2.2.2.2.1=x.2.1)(c:Gk x.2.2 e.2.2.2.2.2.2.1.2.1=δ e.2.2.2.2.2.2.1.2.2.1):Is (x,e)=δ (upd x e,0):=by
 suffices i:As (Is (x,e)) λr=>r=(upd x e,0) by obtain⟨r,hr,rfl⟩:=i;exact hr
 have a:Oe e.2.2.2.2.2.2.1:=by grind[L5,VE]
 refine AA CV λv j=>AO (λa=>N! (j.2 d) (by simp[a])) (λ_=>AA CK λw k=>AO (λa=>N! (k.2 f) (by simp[a])) (λ_=>?_));rw[sM h];refine BF (AL (λa=>N! rfl a) (λ_=>AL (λa=>N! b a) (λ_=>AL (λa=>N! g a) (λ_=>AA Tq λr hr=>?_))));rw[hr.2 a b c];exact AL (λa=>N! rfl a) (λ_=>AB rfl)
def dQ{x:AE×List AE}(h:θ x.2<=16777215):As (LZ x) λr=>r=x.1::x.2:=by
 unfold LZ;exact x!
def Hs(L:List AE):Prop:=∀(i:Nat)(e:AE),L[i]?=δ e->e.1=1+i/\L5 e
def Do.num{l:Aa}(h:Do l)(a:l.1=1):Hs l.2.1:=λi e b=>by have:=h.2.2.2.2.2 i e b;rw[a]at this;exact this
def Hs.take{L:List AE}(h:Hs L)(k:Nat):Hs (L.take k):=λi e a=>h i e q!
def dx{L:List AE}{k:Nat}(h:k<θ L):L.take (k+1)=L.take k++[L[k]]:=by rw[Co,Ar h];rfl
def Hs.at{L:List AE}(h:Hs L){k:Nat}(a:k<θ L):L[k].1=1+k/\L5 L[k]:=h k _ (Ar a)
def gj{L:List AE}(h:Hs L)(p:Int):Bd L p<=θ L:=by
 have:=oK (p:=p) (b:=θ L+1) L 0 o! λe c=>by have⟨i,a⟩:=DU c;have:=(h i e a).1;have:=C1 a;omega
 unfold Bd;omega
def RK{L:List AE}(h:Hs L)(p:Int)(j:Nat):∀k:Nat,j<=k->Bd (L.take j) p<=Bd (L.take k) p
 |0,hj=>by rw[show j=0 by omega];exact Af _
 |k+1,hj=>by by_cases e:j=k+1;rw[e];exact Af _;have c:=RK h p j k o!;by_cases a:k<θ L;rw[dx a,PL];have b:=gj (h.take k) p;have d:=(h.at a).1;rw[BR]at b;split<;>omega;rw[BP (l:=L) (i:=k+1) o!];rwa [BP (l:=L) (i:=k) o!]at c
def xE{L:List AE}(h:Hs L){p:Int}{i:Nat}{e:AE}(a:L[i]?=δ e)(c:cu p e=ζ){k:Nat}(d:i<k):e.1<=Bd (L.take k) p:=by have b:=C1 a;have:=RK h p (i+1) k d;rw[dx b,PL,(Bg ((Ar b).symm.trans a):L[i]=e),C! c]at this;exact this
def wC{L:List AE}(h:Hs L){p:Int}{j k:Nat}(g:Bd (L.take j) p=Bd (L.take k) p):((L.take k).drop j).filter (cu p)=[]:=by refine List.filter_eq_nil_iff.2 λe f d=>?_;obtain⟨i,a⟩:=DU f;rw[Km]at a;have b:=C1 a;rw[BR]at b;rw[Jk o!]at a;have:=xE h a d (k:=k) o!;have c:=gj (h.take j) p;have:=(h _ _ a).1;rw[BR]at c;omega
def ui(L:List AE){j k:Nat}(h:j<=k):L.take k=L.take j++(L.take k).drop j:=by
 conv=>lhs;rw[<-Dr j (L.take k)]
 rw[Kt,QY h]
def lZ{L:List AE}{p:Int}{j k:Nat}(h:j<=k):st (L.take k) p=(((L.take k).drop j).filter (cu p)).foldl upd (st (L.take j) p):=by
 conv=>lhs;rw[ui L h]
 exact ABo _ _ _
theorem lY{L:List AE}(h:Hs L){p:Int}{j k:Nat}(b:Bd (L.take j) p=Bd (L.take k) p):st (L.take j) p=st (L.take k) p:=by rcases Nat.le_total j k with a|a;rw[lZ a,wC h b];rfl;rw[lZ a,wC h b.symm];rfl
def sA{L:List AE}(h:Hs L){p:Int}:∀{k:Nat},0<Bd (L.take k) p->∃(i:Nat)(e:AE),i<k/\L[i]?=δ e/\cu p e=ζ/\(i:Int)+1=Bd (L.take k) p
 |0,hk=>N! hk (by simp[Bd])
 |k+1,hk=>by by_cases b:k<θ L;rw[dx b,PL]at hk⊢;by_cases a:cu p L[k]=ζ;rw[C! a];exact⟨k,L[k],o!,Ar b,a,by have:=(h.at b).1;omega⟩;rw[D! a]at hk⊢;obtain⟨i,e,d,r⟩:=sA h hk;exact⟨i,e,o!,r⟩;rw[BP (l:=L) (i:=k+1) o!]at hk⊢;rw[<-BP (l:=L) (i:=k) o!]at hk;obtain⟨i,e,d,f,g,c⟩:=sA h hk;rw[BP (l:=L) (i:=k) o!]at c;exact⟨i,e,o!,f,g,c⟩
def Uz{L:List AE}(h:Hs L)(p:Int)(k:Nat):0<=Bd (L.take k) p:=RK h p 0 k (Bc _)
def Xp{L:List AE}(h:Hs L){p:Int}{k:Nat}:Bd (L.take (Bd (L.take k) p).toNat) p=Bd (L.take k) p:=by
 have f:=Uz h p k;by_cases d:Bd (L.take k) p=0;rw[d];rfl;obtain⟨i,e,g,a,c,hn⟩:=sA h (by omega:0<Bd (L.take k) p);have b:(Bd (L.take k) p).toNat=i+1:=o!
 have:=xE h a c (k:=i+1) o!;have:=gj (h.take (i+1)) p;have:=(h i e a).1;rw[b];rw[BR]at*;omega
theorem Ys{L:List AE}(h:Hs L){p:Int}(b:0<=p/\p<64)(d:θ L<=1099511627776):∀k:Nat,HO (st (L.take k) p)
 |0=>⟨b.1,b.2,Af 0,(by decide:(0:Int)<=1099511627776),λi=>⟨⟨Bc 12,.inr rfl⟩,λ_=>rfl⟩⟩
 |k+1=>by
  have a:=Ys h b d k;by_cases c:k<θ L;rw[dx c,AAx];split;rename_i m;have⟨g,j⟩:=h.at c;have e:Oe L[k].2.2.2.2.2.2.1:=by grind[L5,VE,cu]
  refine⟨a.1,a.2.1,by show 0<=L[k].1;omega,by show L[k].1<=_;omega,λi=>⟨?_,λf=>?_⟩⟩;show Gt (Wi _ _ _ i);unfold Wi;split;exact e.2.2.2.2.2;exact(a.2.2.2.2 i).1;have:L[k].1=0:=f;omega;exact a;rw[BP (l:=L) (i:=k+1) o!];rwa [BP (l:=L) (i:=k) o!]at a
def OKs:AS->List AE->Prop
 |_,[]=>True
 |x,e::r=>(HO x/\L5 e/\(e.2.1=1\/e.2.1=2)/\e.2.2.2.2.2.2.1.1=x.1/\e.2.2.2.2.1=x.2.1/\Gk x.2.2 e.2.2.2.2.2.2.1.2.1=δ e.2.2.2.2.2.2.1.2.2.1)/\OKs (upd x e) r
def OKs.snoc:∀{x:AS}{l:List AE}{e:AE},OKs x l->OKs (l.foldl upd x) [e]->OKs x (l++[e])
 |_,[],_,_,h=>h
 |_,_::_,_,h,g=>⟨h.1,OKs.snoc h.2 g⟩
def xK{n:Int}{L:List AE}(h:Hs L)(g:LI n L){p:Int}(o:0<=p/\p<64)(m:θ L<=1099511627776)(j:Nat):∀k:Nat,j<=k->OKs (st (L.take j) p) (((L.take k).drop j).filter (cu p))
 |0,hj=>by rw[show j=0 by omega];exact trivial
 |k+1,hj=>by
  by_cases e:j=k+1;rw[e,Vq (by rw[BR];omega)];exact trivial;have c:=xK h g o m j k o!;by_cases b:k<θ L;rw[dx b,pH (by rw[BR];omega),HY,Q5,kz];split;rename_i q;refine c.snoc ⟨?_,O!⟩;rw[<-lZ o!];have r:=g k _ (Ar b);have a:(L[k].2.1=1\/L[k].2.1=2)/\L[k].2.2.2.2.2.2.1.1=p:=by simpa[cu]using q
  have⟨d,f⟩:=r.1 a.1;rw[a.2]at d f;exact⟨Ys h o m k,(h.at b).2,a.1,by rw[a.2,U3],by rw[d,KB],f⟩;rw[DN];exact c;rw[BP (l:=L) (i:=k+1) o!];rwa [BP (l:=L) (i:=k) o!]at c
def oC{L:List AE}(h:Hs L){p:Int}{m j k:Nat}(l:m<=j)(n:Bd (L.take m) p=Bd (L.take j) p):((L.take k).drop m).filter (cu p)=((L.take k).drop j).filter (cu p):=by rw[<-Dr (j-m) ((L.take k).drop m),HY,Nq,show m+(j-m)=j by omega];refine(E! (· ++_) (List.filter_eq_nil_iff.2 λe g f=>?_)).trans (B4 _);obtain⟨i,a⟩:=DU g;have c:=C1 a;rw[BR]at c;rw[Jk o!,Km]at a;have b:=C1 a;rw[BR]at b;rw[Jk o!]at a;have:=xE h a f (k:=j) o!;have d:=gj (h.take m) p;have:=(h _ _ a).1;rw[BR]at d;omega
def AIL{n:Int}{l:Aa}(t:Do l)(C:l.1=1)(I:LI n l.2.1){p:Int}(T:0<=p/\p<64){j k:Nat}(A:Bd (l.2.1.take j) p<=Bd (l.2.1.take k) p):As (Qh (l,p,Bd (l.2.1.take k) p,Bd (l.2.1.take j) p)) λr=>r=(((l.2.1.take k).drop j).filter (cu p),0):=by
 have b:=t.num C;have O:=Uz b p k;have Q:=Uz b p j;have R:=t.2.2.1;refine AA Bo λv B=>AO (λa=>N! (B.2 t) (by simp[a])) (λ_=>AC (λa=>N! a d!) (λ_=>AC (λa=>N! a d!) (λ_=>AC (λa=>N! a d!) (λ_=>AC (λa=>N! a d!) (λ_=>AA (P:=λr=>r=.inr (((l.2.1.take k).drop j).filter (cu p),Bd (l.2.1.take j) p)) ?_ λr hr=>?_)))))
 ·refine Cp (λ(s:List AE×Int)=>∃m:Nat,m<=k/\s=(((l.2.1.take k).drop m).filter (cu p),Bd (l.2.1.take m) p)/\Bd (l.2.1.take j) p<=s.2) (λs=>s.2.toNat) ⟨k,An _,by rw[Vq (by rw[BR];omega)];rfl,A⟩ ?_;rintro s ⟨m,S,rfl,x⟩;unfold Tt;dsimp only at x⊢;refine AC (λa=>?_) (λa=>As.done ?_)
  ·obtain⟨i,e,K,q,o,J⟩:=sA b (by omega:0<Bd (l.2.1.take m) p);have z:=C1 q;have c:(e.2.1=1\/e.2.1=2)/\e.2.2.2.2.2.2.1.1=p:=by simpa[cu]using o
   refine AA G3 λg D=>?_;have F:=D.2 t d! d!;have⟨_,_,u,_⟩:=D.1 F;dsimp only at u;rw[C,show(Bd (l.2.1.take m) p-1).toNat=i by omega,q]at u;rw[F,<-Bg u];refine AL (λa=>N! rfl a) (λ_=>AA CK λw N=>AO (λa=>N! (N.2 c.1) (by simp[a])) (λ_=>AL (λa=>N! c.2 a) (λ_=>?_)));have y:=FF (cu p) ((l.2.1.take k).drop m);rw[C5,BR]at y;have d:=((I i e q).1 c.1).1;rw[c.2]at d;have E:=Xp b (p:=p) (k:=m);rw[show(Bd (l.2.1.take m) p).toNat=i+1 by omega]at E;have L:=Xp b (p:=p) (k:=j);have M:=RK b p (Bd (l.2.1.take j) p).toNat i o!;refine AA (dQ d!) λf H=>As.next ⟨i,o!,?_,d!⟩ (by dsimp only;rw[d];have:=gj (b.take i) p;rw[BR]at this;omega)
   rw[d,H,<-oC b (m:=i+1) (j:=m) o! E,TX (l:=l.2.1.take k) (i:=i) (by rw[BR];omega),Q5];have G:(l.2.1.take k)[i]'(by rw[BR];omega)=e:=by rw[List.getElem_take];exact Bg ((Ar z).symm.trans q)
   rw[G,C! o]
  have e:Bd (l.2.1.take m) p=Bd (l.2.1.take j) p:=o!
  rw[e];rcases Nat.le_total m j with h|h;rw[oC b h e];rw[oC b h e.symm]
 subst hr;exact A4 (AC (λa=>N! a d!) (λ_=>AB rfl))
def AHa{n:Int}{l:Aa}(f:Do l)(C:l.1=1)(F:LI n l.2.1){p:Int}(t:0<=p/\p<64){j k:Nat}:As (Qq (l,st (l.2.1.take j) p,Bd (l.2.1.take k) p)) λr=>r=(if Bd (l.2.1.take j) p<=Bd (l.2.1.take k) p then st (l.2.1.take k) p else st (l.2.1.take j) p,0):=by
 generalize G:(if Bd (l.2.1.take j) p<=Bd (l.2.1.take k) p then st (l.2.1.take k) p else st (l.2.1.take j) p)=y;have d:=f.num C;have S:=Uz d p k;have T:=f.2.2.1;have q:=Ys d t o!;suffices Q:As (Qr (l,st (l.2.1.take j) p,Bd (l.2.1.take k) p)) λr=>r.1=y/\r.2.2=0 from AA Q λr hr=>AB (by rw[hr.1,hr.2]);refine AA (P:=λr=>∃b:List AE,r=(b,0)/\θ b<=4096/\OKs (st (l.2.1.take j) p) b/\b.foldl upd (st (l.2.1.take j) p)=y) ?_ λr hr=>?_;refine AA Bo λv w=>AO (λa=>N! (w.2 f) (by simp[a])) (λ_=>?_);rw[sM (q j)];refine BF (AL (λa=>N! rfl a) (λ_=>AC (λa=>N! a d!) (λ_=>AC (λa=>AB ?_) (λa=>?_))));rw[KB]at a;refine⟨[],rfl,k!,O!,?_⟩;rw[<-G];split;exact lY d (by dsimp only at a;omega);rfl;rw[KB]at a;have c:j<=k:=by rcases Nat.le_total j k with h|h;exact h;have:=RK d p k j h;dsimp only at a;omega
 have e:((st (l.2.1.take j) p).1,Bd (l.2.1.take k) p,(st (l.2.1.take j) p).2.1)=(p,Bd (l.2.1.take k) p,Bd (l.2.1.take j) p):=by rw[U3,KB]
 dsimp only at e⊢;rw[e];refine AA (AIL f C F t (by dsimp only at a;omega)) λr hr=>AB ⟨_,hr,?_,xK d F t o! j k c,by rw[<-G,C! (by dsimp only at a;omega)];exact(lZ c).symm⟩;have o:=FF (cu p) ((l.2.1.take k).drop j);rw[C5,BR]at o;omega
 ·obtain⟨b,rfl,m,O,u⟩:=hr;refine AL (λa=>N! rfl a) (λ_=>AA (P:=λr=>∃z,r=.inr (y,z)) ?_ λr hr=>?_)
  ·refine Cp (λ(s:Int×AS×AS)=>∃A B,b=A++B/\s.1=θ A/\OKs s.2.1 B/\B.foldl upd s.2.1=y) (λ(s:Int×AS×AS)=>((θ b:Int)-s.1).toNat) ⟨[],b,rfl,rfl,O,u⟩ ?_;rintro⟨i,x,z⟩ ⟨A,B,rfl,D,E,g⟩;dsimp only at D E g;subst D;unfold Tw;dsimp only[len];rw[AY]at m;refine AC (λa=>?_) (λa=>As.done ?_)
   ·obtain _|⟨e,B⟩:=B;simp at a;have R:ix (A++e::B) (θ A:Int)=δ e:=by unfold ix;rw[C! o!,Cz,Ci (An _),Gp];rfl
    obtain⟨⟨H,I,J,K,L,M⟩,N⟩:=E;rw[R,AD,AA0 H I J K L M,AD,AZ (x:=(θ A:Int)+1)];refine AL (λa=>N! rfl a) (λ_=>As.next ⟨A++[e],B,k!,k!,N,g⟩ d!)
   obtain _|⟨e,B⟩:=B;exact⟨z,by rw[<-g];rfl⟩;simp at a;omega
  obtain⟨z,rfl⟩:=hr;exact A4 (AB ⟨rfl,rfl⟩)
variable {B:Int->Prop}
def KS(B:Int->Prop)(k m:AT):Prop:=m.1=k.1/\LX k.2.2.1 m.2.2.1/\Do m.2.2.1/\m.2.2.2.2.1=k.2.2.2.2.1/\m.2.2.2.2.2.1=k.2.2.2.2.2.1/\SK B m
def KS.refl{k:AT}(h:SK B k)(a:Do k.2.2.1):KS B k k:=⟨rfl,LX.refl _,a,rfl,rfl,h⟩
def KS.trans{a b c:AT}(h:KS B a b)(g:KS B b c):KS B a c:=⟨g.1.trans h.1,h.2.1.trans g.2.1,g.2.2.1,g.2.2.2.1.trans h.2.2.2.1,g.2.2.2.2.1.trans h.2.2.2.2.1,g.2.2.2.2.2⟩
def LX.of{a b:Aa}(h:b.1=a.1)(g:b.2.1=a.2.1)(d:a.2.2<=b.2.2):LX a b:=⟨h,d,[],by rw[g,DN]⟩
def KI.of{k m:AT}(h:KI B k)(a:m.1=k.1)(b:m.2.2.1.2.1=k.2.2.1.2.1)(c:m.2.2.2.1=k.2.2.2.1)(d:m.2.2.2.2.2.2=k.2.2.2.2.2.2):KI B m:=by unfold KI;rw[a,b,c,d];exact h
def sO{x:Aa×Int}(h:Do x.1)(c:x.2<=x.1.1+θ x.1.2.1-1):As (EK x) λr=>r.2=0:=by refine AA Bo λv d=>AO (λa=>?_) (λ_=>?_);grind;refine AA Ee λe b=>?_;rw[h.last]at b;exact AC (λa=>N! a o!) (λ_=>AB rfl)
def Jx{x:AT×Int}(h:SK B x.1)(c:Do x.1.2.2.1):As (F5 x) λr=>KS B x.1 r/\r.2.2.2.1=x.1.2.2.2.1/\(x.2<=x.1.2.2.1.1+θ x.1.2.2.1.2.1-1->x.2<=r.2.2.1.2.2):=by unfold F5;refine AA Fe λv d=>?_;have d:=d c;refine AA (Ju.and (sO c (by dsimp only;split<;>omega))) λw a=>?_;have⟨i,e,j,k,f⟩:=a.1 a.2;refine Bh (AP (λb=>AB ⟨⟨rfl,LX.of j e k,i,rfl,rfl,SB.sk h.sb (h.ki.of rfl e rfl rfl)⟩,rfl,λg=>?_⟩) (λb=>N! a.2 b));dsimp only at f⊢;split at f<;>omega
def ZO{x:AT×Int×Int}(h:SK B x.1)(p:∃f∈x.1.2.2.2.1.2.1,f.1.1=x.2.1/\f.1.2.1=x.2.2):As (Jz x) λr=>r.2=0->VK x.1/\KS B x.1 r.1/\DC r.1.2.2.2.1<=DC x.1.2.2.2.1/\∀(i:Nat)(f:BH),x.1.2.2.2.1.2.1[i]?=δ f->f.1.1=x.2.1->f.2.1=ζ->f.1.2.1=x.2.2->DC r.1.2.2.2.1<DC x.1.2.2.2.1:=by unfold Jz;refine AA (CA h.sb) λv O=>AO (λb=>AB n!) (λb=>?_);have A:=O b;refine AC (λb=>AB n!) (λ_=>AC (λb=>AB n!) (λ_=>AC (λb=>AB n!) (λ_=>AA Fe λ_ _=>AC (λb=>AB n!) (λ_=>AA Fg λi L=>AA (P:=λs=>(∃u,s=.inl u/\u.1≠0)\/∃u,s=.inr u/\(DC u.1<=DC x.1.2.2.2.1/\∀(i:Nat)(f:BH),x.1.2.2.2.1.2.1[i]?=δ f->f.1.1=x.2.1->f.2.1=ζ->f.1.2.1=x.2.2->DC u.1<DC x.1.2.2.2.1)/\(∀g∈u.1.2.1,∃f∈x.1.2.2.2.1.2.1,f.1.1=g.1.1/\f.1=g.1)/\∀f∈x.1.2.2.2.1.2.1,f.1.1≠x.2.1->f∈u.1.2.1) ?_ λs N=>?_))));refine AC (λb=>?_) (λb=>AB (.inr ⟨_,rfl,⟨An _,λj f M q _ _=>N! (L.2.2.2 A.2.2.2.1 ⟨j,f,M,q⟩) b⟩,λg K=>⟨g,K,rfl,rfl⟩,λf n _=>n⟩));grind[AA,dT,AL,AB];rcases N with⟨u,rfl,t⟩|⟨u,rfl,t,m,y⟩;exact BK (AB λc=>N! c t);apply A4;refine AA (F4 h.sb) λa J=>AL (λb=>AB (λc=>N! c b)) (λb=>AB λ_=>?_);have⟨_,⟨a1,a2,a3,a4,a5,a6,a7,a8,e,E,Q,F,o,R,S,G⟩,_⟩:=J b;have⟨f,n,H,I⟩:=p;have⟨q0,w,C,D⟩:=G rfl;have T:=h.ki.2.2 f n;have d:=E! (λz=>z.2.1) ((h.ki.2.1 x.2.1 o! o!).1 f n H);rw[KB]at d;refine⟨A,⟨a1,a2,a3,a5,a6.2.1 rfl,a8.1,a8.2.1,a8.2.2,?_⟩,t⟩;unfold KI;dsimp only at F o C D⊢;rw[a1,a7,E,D];have k:=E! (λz=>z.1) o;have l:=E! (λz=>z.2.1.1) o;dsimp only at k l;refine⟨h.ki.1.app ⟨λh=>o!,λ_=>?_,λh=>o!⟩,(h.ki.2.1.written o! o! o! m y C).app o!,h.ki.2.2.sub m⟩;rw[k,l,<-I];exact d
def gL{x:AT}(h:SK B x):As (Mf x) λr=>r.2.2.2=0->VK x/\KS B x r.1/\(r.2.2.1=ζ->DC r.1.2.2.2.1=DC x.2.2.2.1/\∃(i:Nat)(f:BH),r.1.2.2.2.1.2.1[i]?=δ f/\f.1=r.2.1/\f.2.1=ζ/\r.2.1.2.1<=r.1.2.2.1.2.2):=by
 unfold Mf;refine AA (CA h.sb) λv M=>AO (λn=>AB n!) (λn=>?_);have c:=M n;refine AC (λn=>AB (λ_=>⟨c,KS.refl h c.2.2.1,λt=>by cases t⟩)) (λm=>AA ak λw D=>?_);have⟨_,F,O,P⟩:=D.1 (D.2 c.2.2.2.1 (by have:=c.2.2.2.1.1;simp[len]at m;omega));have G:∀g∈w.1.2.1,∃f∈x.2.2.2.1.2.1,core g=core f:=λg b=>by grind[List.getElem?_of_mem,sL,List.mem_of_getElem?]
 have H:∀f∈x.2.2.2.1.2.1,∃g∈w.1.2.1,core g=core f:=λf l=>by grind[List.getElem?_of_mem,sL,List.mem_of_getElem?]
 have u:∀{f g:BH},core f=core g->f.1=g.1/\f.2.1=g.2.1:=λe=>⟨E! (λz=>z.1) e,E! (λz=>z.2.1) e⟩
 have k1:∀g∈w.1.2.1,∃f∈x.2.2.2.1.2.1,f.1.1=g.1.1/\f.1=g.1:=λg b=>by have⟨f,l,e⟩:=G g b;exact⟨f,l,by rw[(u e).1],by rw[(u e).1]⟩
 have N:∀f∈x.2.2.2.1.2.1,f.2.1=ζ->∃g∈w.1.2.1,g.1.1=f.1.1/\g.2.1=ζ:=λf l y=>by have⟨g,b,e⟩:=H f l;exact⟨g,b,by rw[(u e).1],by rw[(u e).2,y]⟩
 refine AA Fg λi A=>?_;have E:=A.2.2.2 F P;refine AA (AJ E A.2.1) λf l=>?_;have a:KI B (x.1,x.2.1,x.2.2.1,w.1,x.2.2.2.2):=⟨h.ki.1,h.ki.2.1.frames k1 N,h.ki.2.2.sub k1⟩
 apply AO<;>intro n;have⟨_,L,o,J⟩:=A.2.2.1 E;have K:L=f:=by have:=l.1;rw[o]at this;exact Bg this
 subst K;refine AA gH λd y=>AB λ_=>⟨c,⟨rfl,LX.refl _,c.2.2.1,rfl,rfl,h.1,h.2.1,h.2.2.1,?_⟩,λt=>by cases t⟩
 have⟨C,I⟩:=y F _ _ o J n;exact⟨h.ki.1,a.2.1.frames (λg b=>⟨g,C g b,rfl,rfl⟩) (λg b s=>⟨g,I g b s,rfl,s⟩),a.2.2.sub λg b=>⟨g,C g b,rfl,rfl⟩⟩;refine AA (Jx (SB.sk ⟨h.1,h.2.1,h.2.2.1⟩ a) c.2.2.1) λk j=>AB λ_=>⟨c,j.1,λ_=>⟨?_,i.toNat,f,?_,rfl,n,j.2.2 ?_⟩⟩
 rw[j.2.1,AA1,AA1,O];rw[j.2.1];exact l.1;have q:=BN l.1;have p:=a.2.2 f q;have:=E! (λz=>z.2.1) ((a.2.1 f.1.1 p.1 p.2.1).1 f q rfl);dsimp only at this⊢;rw[this,KB];have:=lP c.2.2.1 f.1.1;omega
def AHZ(P:List AE)(p:Int)(s:BX):Prop:=s=jN 256\/∃j:Nat,s=H4 (st (P.take j) p)
def dead(s:BX):Prop:=s≠jN 256/\∀q,HO q->s≠H4 q
def DP(B:Int->Prop)(P:List AE)(d:Br):Prop:=DI d/\∀(i:Nat)(s:BX),d.1[i]?=δ s->(B i->AHZ P i s)/\(B i\/dead s)
def dl(l:Aa):List AE:=l.2.1.take l.2.2.toNat
def DJ(B:Int->Prop)(l:Aa)(d:Br):Prop:=l.1=1/\DP B (dl l) d
def DP.up{P Q:List AE}{d:Br}{m:Nat}(h:DP B P d)(e:P=Q.take m):DP B Q d:=⟨h.1,λi s a=>⟨λb=>by rcases(h.2 i s a).1 b with q|⟨j,q⟩;exact .inl q;rw[e,Kt]at q;exact .inr ⟨_,q⟩,(h.2 i s a).2⟩⟩
def DJ.up{a b:Aa}{d:Br}(h:DJ B a d)(g:LX a b):DJ B b d:=by obtain⟨c,f,t,e⟩:=g;refine⟨c.trans h.1,h.2.up (m:=min a.2.2.toNat (θ a.2.1)) ?_⟩;unfold dl;rw[e,Kt,QY o!,eL o!,Nat.min_comm,<-Kt,BP (l:=a.2.1.take _) (by rw[BR];omega)]
def AE1{L:List AE}(h:Hs L){p d:Int}(f:Bd L p<=d):st (L.take d.toNat) p=st L p:=by
 have e:=HT (l:=L);have a:=Xp h (p:=p) (k:=θ L);rw[e]at a;have b:=RK h p (Bd L p).toNat d.toNat o!
 have c:Bd (L.take d.toNat) p<=Bd L p:=by rcases Nat.le_total d.toNat (θ L) with q|q;have:=RK h p _ _ q;rwa [e]at this;rw[BP q];exact Af _
 have:=lY h (p:=p) (j:=d.toNat) (k:=θ L) (by rw[e];omega);rwa [e]at this
def Tz{x:AV×AT×AS}(h:SK B x.2.1)(A:Do x.2.1.2.2.1)(l:DJ B x.2.1.2.2.1 x.1.2)(n:∃f∈x.2.1.2.2.2.1.2.1,f.1=x.2.2)(y:x.2.2.2.1<=x.2.1.2.2.1.2.2):As (Lr x) λr=>r.2=0->KS B x.2.1 r.1.1/\DJ B r.1.1.2.2.1 r.1.2/\DC r.1.1.2.2.2.1<=DC x.2.1.2.2.2.1/\((∃(i:Nat)(f:BH),x.2.1.2.2.2.1.2.1[i]?=δ f/\f.1=x.2.2/\f.2.1=ζ)->DC r.1.1.2.2.2.1<DC x.2.1.2.2.2.1):=by
 have⟨f,m,b⟩:=n;have a:=h.ki.2.2 f m;have c:=(h.ki.2.1 f.1.1 a.1 a.2.1).1 f m rfl;refine D6 SP λv G _=>AA (dN l.2.1) λw L=>AL (λd=>AB (λo=>N! o d)) (λd=>AA (ZO h ⟨f,m,by rw[b],by rw[b]⟩) λu K=>AL (λd=>AB (λo=>N! o d)) (λq=>AB λ_=>?_));have⟨D,E,M,N⟩:=K q;have⟨O,P,F⟩:=L d;refine⟨E,DJ.up ⟨l.1,O,λi s j=>?_⟩ E.2.1,M,λ⟨i,g,H,t,I⟩=>N i g H (by rw[t]) I (by rw[t])⟩;have C:=A.num l.1;have k:=Ys C (p:=f.1.1) ⟨a.1,by have:=D.2.1;have:=D.1;dsimp only at*;omega⟩ (by have:=A.2.2.1;omega) (θ x.2.1.2.2.1.2.1);rw[HT,<-c,b]at k;rw[bP k]at G;dsimp only at F j;rw[F]at j;by_cases J:i=x.2.2.1.toNat
 subst J;have e:s=H4 x.2.2:=by unfold Eo at j;grind
 rw[b]at a c;rw[show((x.2.2.1.toNat:Nat):Int)=x.2.2.1 by omega];refine⟨λ_=>.inr ⟨(dl x.2.1.2.2.1).length,?_⟩,.inl a.2.2.2⟩;rw[HT,e];unfold dl;rw[AE1 C (by have:=E! (λz=>z.2.1) c;rw[KB]at this;omega),<-c];exact l.2.2 i s (by unfold Eo at j;rwa [List.getElem?_set_ne o!]at j)
def SvR(B:Int->Prop)(s r:AV):Prop:=KS B s.1 r.1/\DJ B r.1.2.2.1 r.2
def gT{x:AV}(h:SK B x.1)(j:Do x.1.2.2.1)(g:DJ B x.1.2.2.1 x.2):As (Mj x) λr=>r.2=0->SvR B x r.1:=by unfold Mj;refine AA (P:=λr=>r.1=0->SvR B x r.2) ?_ λr hr=>AB hr;refine AW (λs=>SvR B x s.1) (λs=>DC s.1.1.2.2.2.1) ⟨KS.refl h j,g⟩ (λs c=>?_);unfold Tx;refine AA (gL c.1.2.2.2.2.2) λv k=>AL (λa=>AB (λe=>N! e a)) (λa=>?_);have⟨q,b,m⟩:=k a;refine AO (λa=>AB (λ_=>⟨c.1.trans b,c.2.up b.2.1⟩)) (λd=>?_);have⟨q1,i,f,q2,q3,q4,q5⟩:=m d;refine AA (Tz b.2.2.2.2.2 b.2.2.1 (c.2.up b.2.1) ⟨f,BN q2,q3⟩ q5) λw l=>AL (λa=>AB (λe=>N! e a)) (λa=>AB ?_);have⟨n,o,t,p⟩:=l a;exact⟨⟨(c.1.trans b).trans n,o⟩,by have:=p ⟨i,f,q2,q3,q4⟩;dsimp only at*;omega⟩
end Go.Pm
namespace Go.Pm
open Go Go.Ab
set_option maxHeartbeats 400000
variable {B:Int->Prop}
def Xb{x:AT×AS}{s:Int×List Ah}(h:0<=s.1/\s.1<=θ x.1.2.2.2.2.2.2.2/\θ x.1.2.2.2.2.2.2.2<=16777216/\s.2=(x.1.2.2.2.2.2.2.2.take s.1.toNat).filter (λd=>d.1 !=x.2.1)):As (Ai (MG x) s) λr=>r=x.1.2.2.2.2.2.2.2.filter λd=>d.1 !=x.2.1:=by refine AW (λ(s:Int×List Ah)=>0<=s.1/\s.1<=θ x.1.2.2.2.2.2.2.2/\θ x.1.2.2.2.2.2.2.2<=16777216/\s.2=(x.1.2.2.2.2.2.2.2.take s.1.toNat).filter (λd=>d.1 !=x.2.1)) (λ(s:Int×List Ah)=>((θ x.1.2.2.2.2.2.2.2:Int)-s.1).toNat) h (λs j=>?_);have⟨b,q,g,i⟩:=j;unfold MG;refine AC (λf=>?_) (λf=>AB ?_);simp[len]at f;have m:=oF (l:=x.1.2.2.2.2.2.2.2) (p:=λd=>d.1 !=x.2.1) b;rw[<-i]at m;refine AA (AJ b f) λv o=>?_;have e:=AZ (x:=s.1+1);have n:=lM (p:=λd:Ah=>d.1 !=x.2.1) b o.1;refine AA (P:=λa=>a=(x.1.2.2.2.2.2.2.2.take (s.1+1).toNat).filter (λd=>d.1 !=x.2.1)) ?_ λa c=>AB ⟨⟨d!,d!,g,by dsimp only;rw[c,e]⟩,d!⟩;refine AK (λk=>?_) (λk=>AB ?_);grind[AA,AJ,Option.some.inj,Ad,AB];grind;grind[List.take_of_length_le]
def an{x:AT×AS}(h:SK B x.1)(L:Bp x.1=δ ζ->x.2=st x.1.2.2.1.2.1 x.2.1/\B x.2.1):As (Kc x) λr=>r.2=0->KS B x.1 r.1/\nU r.1.2.2.2.1 x.2.1:=by
 unfold Kc;refine D6 (CA h.sb) λv O hv=>AO (λg=>AB n!) (λg=>?_);have K:=hv g;rw[g]at O;refine AC (λg=>AB n!) (λx0=>AC (λg=>AB n!) (λx1=>AA (Kb h.sb) λy1 al=>AC (λg=>AB n!) (λx2=>AA (Kb h.sb) λy2 ao=>AC (λg=>AB n!) (λx3=>?_))));have⟨R,Q⟩:=L O;refine AA ER λv3 _=>AO (λg=>AB n!) (λ_=>AA N1 λv4 _=>AL (λg=>?_) (λ_=>?_));grind[AL,AB];have p2:=K.2.2.2.1.2.1;have p3:=K.2.2.2.1.2.2.1;refine AA (Gb d!) λi I=>AC (λg=>AB n!) (λA=>?_);have A:=I.2.2.2 o!;refine AP (λg=>AB n!) (λ_=>AA (Ad w!) λv8 C=>?_);have⟨C,Z,_⟩:=C;rw[B4]at C;subst C;refine AA (Ad w!) λc n=>?_;have⟨n,o,_⟩:=n;have q:c[θ c-1]?=δ (x.2,η,0,ζ):=by rw[n];simp
 have hn:(θ c:Int)-1=((θ c-1:Nat):Int):=by simp at o;omega
 have e:=AZ (x:=(θ c:Int)-1) (by simp at o;omega);have k:∀f∈x.1.2.2.2.1.2.1,f.1.1≠x.2.1:=λf H e=>by have⟨i,I⟩:=DU H;exact A ⟨i,f,I,e⟩
 refine AA (Jy h.sb) λt w=>AA (P:=λv:List BH×AT×Int×Int×Int×Int×Int×Int=>(∃(i:Nat)(f:BH),v.1[i]?=δ f/\f.1.1=x.2.1)/\(v.2.1.1=x.1.1/\v.2.1.2.2.1=x.1.2.2.1/\v.2.1.2.2.2.2.1=x.1.2.2.2.2.1/\v.2.1.2.2.2.2.2.1=x.1.2.2.2.2.2.1/\SB v.2.1/\v.2.1.2.2.2.2.2.2.1=x.1.2.2.2.2.2.2.1)/\KP x.1.1 x.1.2.2.1.2.1 v.1 v.2.1.2.2.2.2.2.2.2 x.1.2.2.2.2.2.2.1/\FD B x.1.1 v.1 v.2.1.2.2.2.2.2.2.2) ?_ λa0 m=>?_
 ·refine AK (λs=>?_) (λs=>AB ⟨⟨_,_,q,rfl⟩,⟨rfl,rfl,rfl,rfl,h.sb,rfl⟩,?_,?_⟩);rotate_left 1;rw[n];exact h.ki.2.1.supply R k rfl (.inr ⟨rfl,w.2 s,rfl⟩);rw[n];exact h.ki.2.2.supply (p:=x.2.1) o! o! Q rfl (λd y=>y) (w.2 s);rw[hn]at e;simp only[len,hn,e];have z:θ c-1<θ c:=by simp at o;omega
  refine AA (AJ) λap W=>AA (AJ) λj X=>?_;have V:j.1=x.2:=by grind[Int.toNat_natCast,Option.some.inj]
  have ad:(Eo c ((θ c-1:Nat):Int) (j.1,ζ,j.2.2)).length=θ c:=by simp[Eo]
  refine AA (AJ) λar Y=>AA (AJ) λa F=>?_;have l:a.1=x.2:=by grind[Int.toNat_natCast,Eo,List.getElem?_set_self,Option.some.inj]
  refine AA (Xb ⟨k!,k!,h.2.2.1,k!⟩) λax G=>?_;have u:a.2.1=ζ:=by have:=F.1;simp[Cz,Eo]at this;rw[Gy z]at this;rw[<-Bg this]
  have N:Eo (Eo c ((θ c-1:Nat):Int) (j.1,ζ,j.2.2)) ((θ c-1:Nat):Int) (a.1,a.2.1,t.1.2.1,a.2.2.2)=x.1.2.2.2.1.2.1++[(a.1,a.2.1,t.1.2.1,a.2.2.2)]:=by simp[Eo,Cz,X1,(by rw[n];simp:θ c-1=θ x.1.2.2.2.1.2.1)];rw[n,S6 _ _ (An _)];simp
  subst G;refine AB ⟨⟨θ c-1,(a.1,a.2.1,t.1.2.1,a.2.2.2),?_,by rw[l]⟩,⟨rfl,rfl,rfl,rfl,⟨h.1,h.2.1,Ct (FF _ _) h.2.2.1⟩,rfl⟩,?_,?_⟩;simp[Eo,Cz];rw[Gy (by simpa using z)];rw[N];exact h.ki.2.1.supply R k l (.inl ⟨u,rfl⟩);rw[N];exact h.ki.2.2.supply (p:=x.2.1) o! o! Q (by rw[l]) (λd y=>(BU.1 y).1) (λd y=>by simpa using(BU.1 y).2)
 have⟨i,f,H,J⟩:=m.1;have⟨M,D,S,T,E,U⟩:=m.2.1;refine AB λ_=>⟨⟨M,by dsimp only;rw[D];exact LX.refl _,by dsimp only;rw[D];exact K.2.2.1,S,T,E.1,E.2.1,E.2.2,?_⟩,i,f,H,J⟩
 unfold KI;dsimp only;rw[M,D,U];exact⟨h.ki.1,m.2.2⟩
def AIo{x:AT×Int}(h:Bp x.1=δ η):Eh x=δ 0:=by unfold Eh;rw[h];rfl
def Rd.st{P:List AE}{p:Int}{s:BX}{q:AS}(h:Rd s p q)(d:AHZ P p s)(e:∀j,HO (st (P.take j) p)):∃j:Nat,q=Go.Pm.st (P.take j) p:=by obtain⟨_,⟨_,h⟩|⟨a,b,c⟩⟩:=h;exact⟨0,h⟩;rcases d with q|⟨j,q⟩;exact N! q c;exact⟨j,ADt a (e j) (b.symm.trans q)⟩
def Hj{x:AV×Int}(h:SK B x.1.1)(g:DJ B x.1.1.2.2.1 x.1.2):As (Ex x) λr=>r.2=0->SvR B x.1 r.1/\nU r.1.1.2.2.2.1 x.2:=by
 unfold Ex;refine AA (CA h.sb) λv X=>AO (λa=>AB n!) (λa=>?_);have s:=X a;refine AC (λa=>AB n!) (λp0=>AC (λa=>AB n!) (λp1=>AA Fg λi W=>AC (λa=>AB λ_=>⟨⟨KS.refl h s.2.2.1,g⟩,?_⟩) (λ_=>?_)));have⟨_,f,V,C⟩:=W.2.2.1 a;exact⟨_,f,V,C⟩;refine AA (gT h s.2.2.1 g) λo Q=>AL (λa=>AB (λc=>N! c a)) (λw=>?_);have⟨t,m⟩:=Q w;have n:=t.2.2.2.2.2;have F:=t.2.2.1;have k1:=s.1;have k2:=s.2.1;have H:0<=x.2/\x.2<64:=o!
 have M:=F.num m.1;have h4:=F.2.2.1;refine AA (gC m.2.1) λv3 R=>AL (λa=>AB (λc=>N! c a)) (λy=>?_);have⟨Y,Z,O⟩:=R y;have⟨b,u,_⟩:=CA n.sb;refine AA (P:=λr=>∃k:Nat,r=Bd (o.1.1.2.2.1.2.1.take k) x.2/\(b=ζ->k=θ o.1.1.2.2.1.2.1)) ?_ λv4 ⟨k,D,E⟩=>?_;cases b with
 |false=>exact⟨_,AIo u,0,rfl,λU=>by cases U⟩
 |true=>exact(Kb n.sb).mono λr hr=>⟨_,by rw[HT];exact hr u n.ki.2.1 H.1 (by have:=t.1;dsimp only at this⊢;omega),λ_=>rfl⟩
 refine AA (dV d!) λv5 e=>AL (λa=>AB (λc=>N! c a)) (λz=>?_);have e:=e z;dsimp only at e;have d:=m.2.2 _ _ O;rw[show((x.2.toNat:Nat):Int)=x.2 by omega]at d;have L:B x.2:=d.2.resolve_right λg=>by obtain⟨_,⟨q,_⟩|⟨q1,q2,_⟩⟩:=e;exact g.1 q;exact g.2 _ q1 q2
 have I:=Ys M H o!;obtain⟨j,p⟩:=e.st (d.1 L) λj=>by unfold dl;rw[Kt];exact I _
 unfold dl at p;rw[Kt]at p;generalize min j o.1.1.2.2.1.2.2.toNat=j' at p;rw[p,D];refine AA (AHa F m.1 n.ki.1 H) λv6 S=>?_;subst S;refine AL (λa=>N! rfl a) (λ_=>AA (an n λK=>?_) λv7 T=>?_);rw[u]at K;have l:=E (Bg K);have G:Bd (o.1.1.2.2.1.2.1.take j') x.2<=Bd (o.1.1.2.2.1.2.1.take k) x.2:=by rcases Nat.le_total j' k with q|q;exact RK M _ _ _ q;rw[BP o!,l,HT];exact Af _
 dsimp only;rw[C! G,l,HT,U3];exact⟨rfl,L⟩;refine AL (λa=>AB (λc=>N! c a)) (λA=>AB λ_=>?_);have⟨N,J⟩:=T A;refine⟨⟨t.trans N,m.up N.2.1⟩,?_⟩;dsimp only at J;split at J<;>rwa [U3]at J
end Go.Pm
namespace Go.Pm
open Go Go.Ab
set_option maxHeartbeats 400000
variable {B:Int->Prop}
def KL(B:Int->Prop)(k m:AT):Prop:=m.1=k.1/\LX k.2.2.1 m.2.2.1/\SK B m/\Do m.2.2.1
theorem KL.refl{k:AT}(h:SK B k)(a:Do k.2.2.1):KL B k k:=⟨rfl,LX.refl _,h,a⟩
def KL.trans{a b c:AT}(h:KL B a b)(g:KL B b c):KL B a c:=⟨g.1.trans h.1,h.2.1.trans g.2.1,g.2.2⟩
def KS.kl{a b:AT}(h:KS B a b):KL B a b:=⟨h.1,h.2.1,h.2.2.2.2.2,h.2.2.1⟩
def zZ.kl{a b:AT}{z:AE}(h:zZ a z b)(c:SK B a)(d:z.2.1≠1/\z.2.1≠2/\z.2.1≠6/\z.2.1≠7):KL B a b:=⟨h.1,h.2.1,h.sk c d,h.2.2.1⟩
def SK.locks{k:AT}{l:A9}(h:SK B k)(a:GG l):SK B (k.1,k.2.1,k.2.2.1,k.2.2.2.1,l,k.2.2.2.2.2):=⟨a,h.2⟩
def PN.idx{p:Bw}(h:PN p){i j:Nat}{f g:BH}(a:p.2.1[i]?=δ f)(b:p.2.1[j]?=δ g)(e:g.1.1=f.1.1):j=i:=by have l1:=C1 a;have l2:=C1 b;rcases QX i j with q|q|q;exact N! e.symm (h.2.2.2.2.2.2 i j f g q o! a b);exact q.symm;exact N! e (h.2.2.2.2.2.2 j i g f q o! b a)
def iz{x:Bw×Int}:As (Nb x) λr=>(∀g∈r.2.1,∃f∈x.1.2.1,f.1.1=g.1.1/\f.1=g.1)/\∀f∈x.1.2.1,f.2.1=ζ->∃g∈r.2.1,g.1.1=f.1.1/\g.2.1=ζ:=by unfold Nb;refine AA Fg λv b=>AC (λ_=>AB ⟨λg k=>⟨g,k,rfl,rfl⟩,λf a h=>⟨f,a,rfl,h⟩⟩) (λm=>?_);have d:=b.2.2.1 o!;have o:=d.1.2.1;have p:=d.1.2.2.1;refine AA (AJ o! b.2.1) λl c=>AA (Ld d! ⟨d!,b.2.1⟩) λr hr=>AB ?_;subst hr;refine⟨ABl c.1 rfl,λf a j=>?_⟩;by_cases e:f.1.1=l.1.1;have⟨i,n⟩:=DU a;grind[Option.some.inj,List.mem_of_getElem?,List.getElem?_set_self,C1];exact⟨f,xd c.1 f a e,rfl,j⟩
def aj{x:Bw×AS}:As (KX x) λr=>r.2=0->PN x.1/\∃(i:Nat)(f g:BH),x.1.2.1[i]?=δ f/\f.1.1=x.2.1/\r.1.2.1=x.1.2.1.set i g/\g.1=x.2/\g.2.1=ζ:=by unfold KX;refine AA ER λv c=>AO (λ_=>AB n!) (λb=>?_);have h:=(c.1 b).2.1;have j:=(c.1 b).2.2.1;refine AA N1 λ_ _=>AL (λb=>AB λa=>N! a b) (λ_=>AA (Gb d!) λi d=>AC (λ_=>AB n!) (λb=>AA (AJ o! d.2.1) λk e=>AC (λ_=>AB n!) (λ_=>AA (P:=λ_=>True) (AO (λ_=>AB trivial) (λ_=>AB trivial)) λl _=>?_)));grind[AA,Ld,AB,Option.some.inj]
def L5.cell{e:AE}(h:L5 e):0<=e.2.2.2.2.2.2.1.2.1/\e.2.2.2.2.2.2.1.2.1<16:=by have a:=h.2.2.2.2.2.2.2.2;grind[VE,Oe,P2]
def KI.same{k:AT}(h:KI B k){f g:BH}(a:f∈k.2.2.2.1.2.1)(b:g∈k.2.2.2.1.2.1)(e:g.1.1=f.1.1):g.1=f.1:=by have hr:=h.2.2 f a;rw[(h.2.1 f.1.1 hr.1 hr.2.1).1 g b e];exact((h.2.1 f.1.1 hr.1 hr.2.1).1 f a rfl).symm
def VX{x:AT×AE}(h:SK B x.1)(L:Do x.1.2.2.1)(b:0<=x.2.2.2.2.2.2.2.1.2.1/\x.2.2.2.2.2.2.2.1.2.1<16)(s:x.2.2.1=1\/x.2.2.1=2)(hp:PN x.1.2.2.2.1)(ad:nU x.1.2.2.2.1 x.2.2.2.2.2.2.2.1.1)(G:∀f∈x.1.2.2.2.1.2.1,f.1.1=x.2.2.2.2.2.2.2.1.1->Gk f.1.2.2 x.2.2.2.2.2.2.2.1.2.1=δ x.2.2.2.2.2.2.2.1.2.2.1):As (KK x) λr=>KL B x.1 r.1/\(r.2=0->AA4 x.1.2.2.2.2.2.1 x.2.2.1 x.2.2.2.1 r.1.2.2.2.2.2.1):=by
 unfold KK;refine AA (F4 h.sb) λv hv=>AL (λb=>AB ⟨KL.refl h L,λs=>N! s b⟩) (λN=>?_);have⟨_,l,c⟩:=hv N;refine AA Ip λE S=>AA (DX b.1 b.2) λ_ _=>AA (DX b.1 b.2) λ_ _=>AA aj λv4 Z=>AL (λb=>AB ⟨KL.refl h L,λs=>N! s b⟩) (λO=>AB ⟨⟨l.1,l.2.1,?_,l.2.2.1⟩,λ_=>l.2.2.2.2.2.1⟩);have F:=l.2.2.2.2.2.2.2.1;have⟨_,i,f,g,p,a,d,o,J⟩:=Z O;have⟨_,_,_,_,_,_,a7,_,e,T,P,U,A,V,W,e7⟩:=l;have w:E.2=ζ:=by cases q:E.2<;>grind
 have y:E.1.1=x.2.2.2.2.2.2.2.1.1:=(S.1 w).2.2.2.1;have C:e.2.2.2.2.2.2.1.1=x.2.2.2.2.2.2.2.1.1:=E! (λz=>z.2.1.1) A;have hr:=h.ki.2.2 f (BN p);dsimp only at p a d o c;refine⟨F.1,F.2.1,F.2.2,?_⟩;have t:e.2.1=1\/e.2.1=2:=by rw[U];exact s
 have u:∀n:Int,n≠1->n≠2->e.2.1≠n:=λn n1 n2 q=>by rcases t with D|D<;>rw[q]at D;exact n1 D;exact n2 D
 unfold KI;dsimp only;rw[l.1,a7,T,W (by rcases s with q|q<;>rw[q]<;>decide),d];have K:g.1.1=f.1.1:=by rw[o,a]
 have m:=BN p;have I:=(h.ki.2.1 f.1.1 hr.1 hr.2.1).1 f m rfl;have M:E.1=f.1:=by have⟨_,_,_,_,f',H,Q⟩:=S.1 w;rw[<-Q];exact h.ki.same m H (by rw[Q,a])
 have R:e.2.2.2.2.2.2.1.2.1=x.2.2.2.2.2.2.2.1.2.1:=E! (λz=>z.2.1.2.1) A;have Y:e.2.2.2.2.2.2.1.2.2.1=x.2.2.2.2.2.2.2.1.2.2.1:=E! (λz=>z.2.1.2.2.1) A;have X:e.2.2.2.2.2.2.1.2.2.2=x.2.2.2.2.2.2.2.1.2.2.2:=E! (λz=>z.2.1.2.2.2) A;refine⟨h.ki.1.app ⟨λq=>⟨V h.ki.2.1 q (by rw[C,<-y,<-a];exact hr.1) (by rw[C,<-y,<-a];exact hr.2.1),by rw[R,Y,C,<-y,<-a,<-I];exact G f m (by rw[a,y])⟩,λq=>N! q (u 7 g! g!),λq=>N! q (u 6 g! g!)⟩,?_,h.ki.2.2.set p K⟩;refine h.ki.2.1.change h.ki.2.2 t p (by rw[a,y,C]) (by rw[o,M,c,<-P];unfold upd;rw[R,X]) J (λj k hj q=>hp.idx p hj q) ?_;rw[P];exact lP L _
theorem B3{x:Int}:As (BL x) λr=>r.1=5:=by grind[BL,AB]
theorem jP{x:Int}:As (BL x) λr=>r.1=5/\r.2.2.2.2=x:=by grind[BL,AB]
theorem ADv{l:List Am}{id:Int}(h:θ l<=16777216)(m:jR l id):As (Eg (l,id)) λr=>0<=r/\r<θ l:=by
 unfold Eg;refine AA (P:=λr=>∃u:Int,r=.inl u/\0<=u/\u<θ l) ?_ λr hr=>?_;refine AW (λ(s:Int)=>0<=s/\s<=θ l/\∀(j:Nat)(t:Am),j<s->l[j]?=δ t->t.1≠id) (λ(s:Int)=>((θ l:Int)-s).toNat) ⟨Af _,o!,λj t b=>N! b o!⟩ (λs k=>?_);obtain⟨g,p,i⟩:=k;unfold Jw;have e:=AZ (x:=s+1);apply AC<;>intro d;simp only[len]at d;refine AA (AJ g d) λq a=>AP (λ_=>AB ⟨s,rfl,g,d⟩) (λc=>AB ?_);dsimp only at c;rw[e];refine⟨⟨o!,o!,λj t b f=>?_⟩,o!⟩;by_cases n:(j:Int)=s;have:s.toNat=j:=o!
 rw[this]at a;rw[f]at a;have:=Bg a.1;rw[this];exact c;exact i j t o! f;obtain⟨j,t,b,f⟩:=m;have:=C1 b;simp only[len]at d;exact N! f (i j t o! b);obtain⟨u,rfl,o⟩:=hr;exact BK (AB o)
def sN{l:List Am}{id:Int}(h:θ l<=16777216)(a:jR l id):As (Cb (l,id)) λr=>0<=r/\r<θ l:=by grind[Cb,AA,ADv,AB]
def au{x:AT×Int}(h:SK B x.1)(k:Do x.1.2.2.1)(j:jR x.1.2.2.2.2.2.1 x.2):As (Kf x) λr=>KL B x.1 r.1/\(r.2.1=1\/r.2.1=5):=by unfold Kf;refine AA (sN h.2.1 j) λo c=>AA (AJ c.1 c.2) λp _=>AA (P:=λs=>(∃u,s=.inl u/\KL B x.1 u.1)\/∃u,s=.inr u/\KL B x.1 u.1/\(u.2.1=1\/u.2.1=5)) ?_ λs l=>?_;refine AP (λ_=>?_) (λ_=>?_);refine AA (JO h.2.1) λq d=>AB (.inl ⟨_,rfl,rfl,LX.refl _,⟨h.1,?_,h.2.2⟩,k⟩);have:=oo x.1.2.2.2.2.2.1 x.2;have e:=h.2.1;dsimp only at*;rw[d];omega;refine AA (F4 h.sb) λt f=>AL (λn=>?_) (λm=>?_);grind[AA,B3,AB,KL.refl];have b:=(f m).2.1.kl h u!;refine AA (Jx b.2.2.1 b.2.2.2) λv g=>AB (.inl ⟨_,rfl,b.trans g.1.kl⟩);rcases l with⟨u,rfl,a⟩|⟨u,rfl,a⟩;apply BK;refine AA (MA a.2.2.1.1) λw i=>AB ⟨⟨a.1,a.2.1,a.2.2.1.locks i,a.2.2.2⟩,.inl rfl⟩;exact A4 (AB a)
def Wx{x:AT×Int×Cs}{a:Am}{s:Int}(h:0<=s/\s<=θ a.2.2.2.2.1/\(θ a.2.2.2.2.1:Int)<=16777216):As (Ai (K6 x a) s) λr=>True:=by
 refine AW (λ(s:Int)=>0<=s/\s<=θ a.2.2.2.2.1/\(θ a.2.2.2.2.1:Int)<=16777216) (λ(s:Int)=>((θ a.2.2.2.2.1:Int)-s).toNat) h (λs c=>?_);unfold K6;exact x!
def AHd{l:List Am}{i:Nat}{t:Am}(h:l[i]?=δ t):θ t.2.2.2.2.1<TP l:=by
 induction l generalizing i with
 |nil=>simp at h
 |cons a r b=>
  unfold TP;rw[Bf,Vn];cases i with
  |zero=>simp at h;rw[h];omega
  |succ i=>have:=b (i:=i) (by simpa using h);unfold TP at this;omega
def AIt{l:List Am}(h:∀(i:Nat)(t:Am),l[i]?=δ t->θ t.2.2.2.2.1<=4096):TP l<=θ l*4097:=by
 induction l with
 |nil=>simp[TP]
 |cons a r c=>have d:=h 0 a k!;have e:=c (λi t b=>h (i+1) t (by simpa using b));unfold TP at*;grind[List.length_cons]
def Y0.tp{l:List Am}(h:Y0 l):TP l<=262208:=by have:=AIt (l:=l) (λi t a=>(h.2 i t a).1);have:=h.1;omega
def ZP{x:AT×Int×Cs}(h:θ x.1.2.2.2.2.2.1<=16777216)(d:TP x.1.2.2.2.2.2.1<=262208)(c:jR x.1.2.2.2.2.2.1 x.2.1):As (J0 x) λr=>True:=by unfold J0;refine AA (sN h c) λe a=>AA (AJ a.1 a.2) λf b=>?_;have:=AHd b.1;refine AA (Wx ⟨Af _,o!⟩) λr _=>?_;grind[BG,AB]
def Tv{x:AT×Int×Int}(h:SK B x.1)(z:Do x.1.2.2.1)(A:Y0 x.1.2.2.2.2.2.1)(p:x.2.1≠0)(y:jR x.1.2.2.2.2.2.1 x.2.1):As (Ir x) λr=>KL B x.1 r.1/\(r.2.1=x.2.2\/r.2.1=5):=by
 unfold Ir;refine AA (af h.1) λL c=>AA (sN h.2.1 y) λM n=>AA (AJ n.1 n.2) λN _=>AP (λ_=>?_) (λ_=>?_);refine AA (JO h.2.1) λO t=>AA (MA c) λQ u=>AB ⟨⟨rfl,LX.refl _,⟨u,?_,h.2.2⟩,z⟩,.inl rfl⟩;have:=oo x.1.2.2.2.2.2.1 x.2.1;have q:=h.2.1;dsimp only at*;rw[t];omega;refine AA (F4 (h.locks c).sb) λf v=>AL (λi=>?_) (λC=>?_);grind[AA,B3,AB,KL.refl];have j:=(v C).2.1;have o:=j.2.2.2.2.2.1;have K:=(o.2.2.1 p (by show(4:Int)≠1;decide)).2;have D:=A.tp;have b:KL B x.1 f.1:=⟨j.1,j.2.1,(j.kl (h.locks c) u!).2.2⟩
 refine AA (P:=λr=>KL B x.1 r) ?_ λr hr=>AB ⟨hr,.inl rfl⟩;refine AW (λ(s:Int×AT)=>0<=s.1/\s.1<=θ f.1.2.2.2.2.1.1/\KL B x.1 s.2/\s.2.2.2.2.2.2.1=f.1.2.2.2.2.2.1) (λs=>((θ f.1.2.2.2.2.1.1:Int)-s.1).toNat) (s:=((0:Int),f.1)) ⟨Af _,d!,b,rfl⟩ (λs w=>?_);have⟨m,J,a,d⟩:=w;unfold Sd;have I:=b.2.2.1.1.1;refine AC (λi=>?_) (λ_=>AB a);simp[len]at i;have e:=AZ (x:=s.1+1);refine AA (AJ m i) λR _=>AP (λ_=>?_) (λ_=>AB ⟨⟨d!,d!,a,d⟩,d!⟩);refine AA (AJ m i) λS _=>AA (ZP (by dsimp only;rw[d];exact b.2.2.1.2.1) (by dsimp only at*;rw[d];omega) (by dsimp only;rw[d];exact(o.2.2.2 p rfl))) λE _=>AA (P:=λk=>KL B x.1 k/\k.2.2.2.2.2.1=f.1.2.2.2.2.2.1) ?_ λH g=>AB ⟨⟨d!,d!,g.1,g.2⟩,d!⟩;refine AO (λ_=>?_) (λ_=>AB ⟨a,d⟩);refine AA (AJ m i) λF _=>AA (Ul a.2.2.1.1) λG l=>AB ⟨⟨a.1,a.2.1,a.2.2.1.locks l,a.2.2.2⟩,d⟩
end Go.Pm
namespace Go.Pm
open Go Go.Ab
set_option maxHeartbeats 400000
variable {B:Int->Prop}
def am{x:AT×Cw}:As (Ka x) λr=>r=0->x.2.1=4\/x.2.1=5\/x.2.1=6\/x.2.1=7\/(0<=x.2.2.2.1/\x.2.2.2.1<16):=by unfold Ka;refine AA (P:=λv=>True) (AK (λ_=>AB trivial) (λ_=>AA (P:=λ_=>True) (AK (λ_=>AB trivial) (λ_=>AB trivial)) λ_ _=>AB trivial)) λi _=>AA (P:=λs=>(∃u,s=.inl u/\u=1)\/∃u,s=.inr u/\(x.2.1=4\/x.2.1=5\/x.2.1=6\/x.2.1=7\/(0<=x.2.2.2.1/\x.2.2.2.1<16))) ?_ λs c=>?_;refine AK (λ_=>?_) (λ_=>?_);refine AC (λ_=>AB (.inl ⟨_,rfl,rfl⟩)) (λ_=>AC (λ_=>AB (.inl ⟨_,rfl,rfl⟩)) (λ_=>AC (λ_=>AB (.inl ⟨_,rfl,rfl⟩)) (λe=>AC (λ_=>AB (.inl ⟨_,rfl,rfl⟩)) (λf=>AA (P:=λ_=>True) (AK (λ_=>AB trivial) (λ_=>AB trivial)) λj _=>AB (.inr ⟨_,rfl,?_⟩)))));omega;refine AA (P:=λs=>(∃u,s=.inl u/\u=1)\/∃u,s=.inr u/\(x.2.1=4\/x.2.1=5\/x.2.1=6\/x.2.1=7)) ?_ λs c=>?_;refine AP (λh=>?_) (λ_=>?_);refine AC (λ_=>AB (.inl ⟨_,rfl,rfl⟩)) (λ_=>AC (λ_=>AB (.inl ⟨_,rfl,rfl⟩)) (λ_=>AB (.inr ⟨_,rfl,o!⟩)));refine AA (P:=λb=>b=ζ->x.2.1=4\/x.2.1=5\/x.2.1=6) ?_ λk g=>?_;grind[AP,AB,AA];simp_all[AK,AB];grind[BK,AB,A4];rcases c with⟨u,rfl,d⟩|⟨u,rfl,d⟩;grind[BK,AB];apply A4;refine AO (λ_=>AB n!) (λ_=>AC (λ_=>AB n!) (λ_=>AB λ_=>d))
def Up{x:Int×Cw}:As (Ja x) λr=>True:=by unfold Ja;refine AP (λ_=>AB trivial) (λ_=>AA (P:=λ_=>True) (AK (λ_=>AB trivial) (λ_=>AB trivial)) λv _=>AK (λ_=>AB trivial) (λ_=>AB trivial))
def ZQ{x:AT×Int×Cw}(h:SK B x.1):As (J1 x) λr=>r=0->VK x.1/\jR x.1.2.2.2.2.2.1 x.2.1/\(x.2.2.1=4\/x.2.2.1=5\/x.2.2.1=6\/x.2.2.1=7\/(0<=x.2.2.2.2.1/\x.2.2.2.2.1<16)):=by
 unfold J1;refine AA (CA h.sb) λv j=>AO (λ_=>AB n!) (λb=>AA (Fh h.2.1) λk e=>AC (λ_=>AB n!) (λg=>AA (AJ o! e.2.1) λl _=>AL (λ_=>AB n!) (λ_=>AA am λm f=>AL (λb=>AB λa=>N! a b) (λc=>AA (IZ h.1) λn _=>AA Up λo _=>?_))));have q:(0:Int)=0->VK x.1/\jR x.1.2.2.2.2.2.1 x.2.1/\(x.2.2.1=4\/x.2.2.1=5\/x.2.2.1=6\/x.2.2.1=7\/(0<=x.2.2.2.2.1/\x.2.2.2.2.1<16)):=λ_=>by have⟨t,i,d⟩:=e.2.2 o!;exact⟨j b,⟨_,t,i,d⟩,f c⟩
 refine AK (λ_=>?_) (λ_=>AB q);refine AL (λ_=>?_) (λ_=>AB q);refine AO (λ_=>AB n!) (λ_=>AO (λ_=>AB n!) (λ_=>AB q))
def aq{x:AT×Int×Cw}(h:SK B x.1)(k:Do x.1.2.2.1)(n:PN x.1.2.2.2.1)(a:0<=x.2.2.2.2.1/\x.2.2.2.2.1<16):As (Ke x) λr=>KL B x.1 r.1/\(r.2.1=1\/r.2.1=3\/r.2.1=5)/\(r.2.1=3->r.2.2.2.1=x.2.2.2.1/\¬nU x.1.2.2.2.1 x.2.2.2.1/\r.1=x.1):=by unfold Ke;have t:=KL.refl h k;refine AA Ip λy m=>AO (λa=>AB ⟨t,.inr (.inl rfl),λ_=>⟨rfl,m.2 a n,rfl⟩⟩) (λd=>AP (λ_=>?_) (λ_=>?_));refine AA iz λz l=>AA (DX a.1 a.2) λ_ _=>AA (DX a.1 a.2) λ_ _=>AB ⟨⟨rfl,LX.refl _,⟨h.1,h.2.1,h.2.2.1,h.ki.1,h.ki.2.1.frames l.1 l.2,h.ki.2.2.sub l.1⟩,k⟩,(.inl rfl),λs=>N! s (by show(1:Int)≠3;decide)⟩;refine AA (DX a.1 a.2) λ_ _=>D6 (DX a.1 a.2) λu o _=>AA (P:=λv:Du=>v.1=x.2.2.2.1/\v.2.1=x.2.2.2.2.1/\v.2.2.1=u) (AK (λ_=>AB ⟨rfl,rfl,rfl⟩) (λ_=>AB ⟨rfl,rfl,rfl⟩)) λA b=>?_;have⟨_,_,j,i,f,p,c⟩:=m.1 d;refine AA (VX h k (by dsimp only;rw[b.2.1];exact a) (.inl rfl) n (by dsimp only;rw[b.1];exact j) λg q e=>?_) λC w=>?_;dsimp only at e⊢;rw[b.2.1,b.2.2,h.ki.same p q (by rw[e,b.1,c,i]),c];exact o;grind[AA,AL,B3,AB]
theorem dZ{x:List Int}:As (Lj x) λr=>True:=by unfold Lj;refine AP (λ_=>AB trivial) (λa=>?_);simp only[len]at a;exact AA (AJ (Af _)) λ_ _=>AB trivial
def jC{x:AT×Int}(h:SK B x.1):As (Nf x) λr=>True:=by unfold Nf;refine AA (Lb h.1) λa _=>?_;grind[AA,dZ,AB]
def kH{x:AT×Int×Cw}(h:SK B x.1)(i:Do x.1.2.2.1):As (O9 x) λr=>KL B x.1 r.1/\(r.2.1=3->r.2.2.2.1=x.2.2.2.1/\¬nU x.1.2.2.2.1 x.2.2.2.1/\r.1.2.2.2.1=x.1.2.2.2.1)/\(r.2.1=2\/r.2.1=3->r.1.2.2.2.2.2.1=x.1.2.2.2.2.2.1):=by
 unfold O9;have q:=KL.refl h i;refine AA (ZQ h) λX I=>AL (λ_=>?_) (λd=>?_);exact AA B3 λY V=>AB ⟨q,λd=>by dsimp only at d;omega,λ_=>rfl⟩;obtain⟨u,s,F⟩:=I d;have G:x.2.1≠0:=by obtain⟨j,t,M,W⟩:=s;have:=(u.2.2.2.2.2.1.2 j t M).2.2;omega
 refine AP (λ_=>?_) (λT=>?_);exact AA (au h i s) λZ w=>AB ⟨w.1,λd=>by have:=w.2;omega,λd=>by have:=w.2;omega⟩;refine AP (λ_=>?_) (λU=>?_);refine AA (Tv h i u.2.2.2.2.2.1 G s) λv3 E=>AB ?_;have y:=E.2;dsimp only at y;exact⟨E.1,λd=>o!,λd=>o!⟩;refine AA (P:=λb=>b=ζ↔x.2.2.1=6\/x.2.2.1=7) ?_ λv4 J=>?_;refine AP (λp=>AB (by simp[p])) (λp=>AB (by simp[p]));refine AK (λ_=>?_) (λk=>?_);refine AA gK λv5 z=>AA (P:=λv=>v.2=0->θ v.1<=64) ?_ λv7 K=>?_;exact AK (λ_=>AA gI λv6 p=>AB p) (λ_=>AB z);refine AL (λ_=>?_) (λd=>AB ⟨⟨rfl,LX.refl _,⟨h.1,?_,h.2.2⟩,i⟩,λd=>N! d (by show(1:Int)≠3;decide),λd=>N! d (by show¬((1:Int)=2\/(1:Int)=3);decide)⟩);exact AA B3 λS L=>AB ⟨q,λd=>by dsimp only at d;omega,λ_=>rfl⟩;have:=K d;dsimp only;omega;have g:0<=x.2.2.2.2.1/\x.2.2.2.2.1<16:=by
  have:¬(x.2.2.1=6\/x.2.2.1=7):=λh=>by rw[J.2 h]at k;cases k
  omega
 refine AA Up λv9 _=>AA (ZD h.1) λC l=>AL (λ_=>?_) (λ_=>?_);exact AA B3 λS L=>AB ⟨q,λd=>by dsimp only at d;omega,λ_=>rfl⟩;have f:=h.locks l;have H:∀m,KL B (x.1.1,x.1.2.1,x.1.2.2.1,x.1.2.2.2.1,C.1,x.1.2.2.2.2.2) m->KL B x.1 m:=λm A=>⟨A.1,A.2.1,A.2.2⟩
 refine AK (λ_=>?_) (λ_=>?_);refine AA (aq f i u.2.2.2.1 g) λN e=>AP (λz=>AB ⟨q,λd=>by dsimp only at d;omega,λ_=>rfl⟩) (λ_=>AB ⟨H _ e.1,λd=>?_,λd=>?_⟩);obtain⟨a,b,c⟩:=e.2.2 d;exact⟨a,b,by rw[c]⟩;have D:=e.2.1;obtain⟨a,b,c⟩:=e.2.2 o!;rw[c];refine AA (dS l) λO _=>AC (λ_=>?_) (λ_=>?_);refine AA (Tv f i u.2.2.2.2.2.1 G s) λQ n=>?_;have o:=n.2;dsimp only at o;exact AP (λz=>AB ⟨q,λd=>by dsimp only at d;omega,λ_=>rfl⟩) (λ_=>AB ⟨H _ n.1,λd=>o!,λd=>o!⟩);exact AA (jC f) λR _=>AB ⟨⟨rfl,LX.refl _,f,i⟩,λd=>N! d (by show(2:Int)≠3;decide),λ_=>rfl⟩
end Go.Pm
