/- Texts of wip, joined and shortened by wip/tools/pack.py; nothing is assumed. -/
import Derived.Test.YtimajmppopkomaaGreatK11
import Derived.Test.YtimajmppopkomaaGreatProg
import Derived.Lib.Builder
import Derived.Lib.FrozenHead
import Derived.Lib.FrozenHead2
import Derived.Lib.AppendStr
import Derived.Lib.UnsafeStr
import Derived.Lib.Repeat
import Derived.Lib.RepeatB
import Derived.Lib.Walk
import Derived.WalkKit
import Derived.Laws.Externs
import Derived.Shelf.RegionOpenPlain
import Derived.Lib.MakeNoZero
import Derived.Laws.IdiomCopy
import Derived.Deep.LoopGhost
import Derived.Deep.DeepCutAuto
import Derived.Deep.DeepFit
import Derived.Deep.CutBlock
noncomputable section
set_option linter.all false
namespace Go.Pm
open Go Go.Ab
set_option maxHeartbeats 400000
variable {a:List EN}{b j:Int}{c:AW}{d i:Nat}{e:Ah}{f:AK}{g:List AD}{h:BY}
def qV(s:h.length<=1099511627776)(a:1<=j/\j<=8):OH (h,(b,j))=some (h++Df b j.toNat):=by unfold OH;dsimp only;rw[decide_eq_true s,decide_eq_true a.1,decide_eq_true a.2];rfl
def xP(h:0<=b/\b<=8000):Kj ([0],b)=some (eu b.toNat):=by unfold Kj;dsimp only;rw[decide_eq_true h.1,decide_eq_true h.2];rfl
def ABp(hn:0<=b)(h:b<256^d)(a:b<9223372036854775808):rd (Df b d)=b:=by unfold rd;rw[ol,Int.emod_eq_of_lt hn h,AZ]
def ADL{c:Cg}(j:h.length<=1000)(a:c.2.length<=12):J7 h c=some (h++Va c):=by
 suffices b:Av (J7 h c) λr=>r=h++Va c by obtain⟨r,hr,rfl⟩:=b;exact hr
 unfold J7;refine AA (P:=λv=>v=if c.1=true then(c.2.length:Int)else 255) ?_ λk g=>?_;exact AJ (λa=>AB (if_pos a).symm) (λa=>AB (if_neg (by rw[a];decide)).symm);rw[qV o! g!,AE];refine AA (Cp (by rw[Ad,A0];simp only[Int.reduceToNat];omega)) λl e=>?_;rw[AZ i!,xP i!,AE];have f:(12-len c.2).toNat=12-c.2.length:=i!
 rw[f];refine AA (Cp (by rw[e.2,Ad,A0];simp only[eu,I6,Int.reduceToNat];omega)) λi d=>AB ?_;rw[d.1,e.1,g];simp only[Va,Ay,Int.reduceToNat]
def vz(h:0<=b/\b<64):Hz b=some true:=by unfold Hz;rw[decide_eq_true (show b>=0 from h.1),decide_eq_true h.2];rfl
def zr(h:HO c):VP c=some true:=by unfold VP;rw[vz ⟨h.1,h.2.1⟩,AE,decide_eq_true (show c.2.1>=0 from h.2.2.1),decide_eq_true h.2.2.2.1];rfl
theorem ABe{x:AW}(h:HO x):Tz x=some true:=by
 suffices f:Av (Tz x) λr=>r=true by obtain⟨r,hr,rfl⟩:=f;exact hr
 unfold Tz;refine AA (P:=λr=>r= .inr ()) ?_ λr hr=>by rw[hr];exact A5 (AB rfl)
 refine Dg (λ(s:Int)=>0<=s/\s<=16) (λs=>(16-s).toNat) ⟨Ag _,by decide⟩ (λs e=>?_);obtain⟨k,l⟩:=e;unfold fE;refine AC (λa=>?_) (λ_=>Av.done rfl);have c:Av (some (Step.next (wi (s+1))):Option (Step Int (Bool ⊕ Unit))) (Sj (λ(s:Int)=>0<=s/\s<=16) (λs=>(16-s).toNat) (16-s).toNat λr=>r= .inr ()):=by rw[AZ (by omega)];exact Av.next ⟨by omega,by omega⟩ (by omega)
 refine AA (DQ k a) λv i=>?_;have b:=h.2.2.2.2 ⟨s.toNat,by omega⟩;rw[<-i]at b;refine AC (λa=>absurd a (by have:=b.1.1;simp only[len];omega)) (λ_=>AO (λd=>?_) (λg=>?_));refine AL (λhn=>absurd (b.1.2.resolve_left (by rw[d];decide)) hn) (λ_=>AJ (λa=>by rw[d]at a;cases a) (λ_=>c));exact AJ (λ_=>AV (λj=>by have:=b.2 j;rw[g]at this;cases this) (λ_=>c)) (λ_=>c)
def jB(h:HO c):Kc c=some (Hw c,0):=by
 suffices d:Av (Kc c) λr=>r=(Hw c,0) by obtain⟨r,hr,rfl⟩:=d;exact hr
 unfold Kc;rw[zr h,AE,ABe h,AE,C3,cond_false,cond_false,qV g! g!,AE,qV (by rw[Cn,A0];decide) g!,AE];refine AA (P:=λr=>r=Df c.2.1 8++(Df c.1 4++Oc c.2.2 16)) ?_ λx b=>?_
 ·refine Dg (λ(s:Int×Na)=>0<=s.1/\s.1<=16/\s.2=Df c.2.1 8++(Df c.1 4++Oc c.2.2 s.1.toNat)) (λ(s:Int×Na)=>(16-s.1).toNat) ⟨Ag _,u!,by simp[Oc]⟩ ?_;rintro⟨i,s⟩ ⟨k,n,d⟩;dsimp only at k n d;subst d;unfold bO;dsimp only;refine AC (λl=>?_) (λl=>Av.done (by rw[show i.toNat=16 by omega]));have⟨j,p⟩:=pV (a:=c.2.2) (i:=i.toNat) o!;rw[IH k]at j;rw[j,AE,ADL (by simp only[Ad,A0,I8 h];omega) (h.cl i.toNat).1,AE,AZ (x:=i+1)];refine Av.next ⟨d!,d!,?_⟩ d!
  dsimp only;rw[show(i+1).toNat=i.toNat+1 by omega,OG];simp only[Ay]
 have o:x.length=220:=by rw[b];simp only[Ad,A0,I8 h]
 rw[show wi (244-len x)=24 by rw[AZ i!];simp only[len];omega,xP g!,AE];refine AA (Cp (by simp only[eu,I6,Int.reduceToNat];omega)) λg f=>?_;have e:g=Ka c:=by rw[f.1,b];simp only[Ka,Ay,Int.reduceToNat]
 rw[e,uM (by rw[G1 h];decide),AE];have m:=dc (Ka c);rw[AZ,qV (by rw[G1 h];decide) g!,AE,qV (by rw[Ad,G1 h,A0];decide) g!,AE];apply AB;simp only[Hw,Ay,Int.reduceToNat]
def pU(a:Ho 16 Cg)(i:Nat): ∀k:Nat,i<=k-> ∃r,Oc a k=Oc a i++r
 |0,h=>⟨[],by rw[show i=0 by omega];rfl⟩
 |k+1,h=>by by_cases e:i=k+1;exact⟨[],by rw[e,Dr]⟩;obtain⟨r,hr⟩:=pU a i k o!;exact⟨r++Va (cl a k),by rw[OG,hr,Ay]⟩
def sH{x:AW}(h:HO x){i:Nat}(a:i<16): ∃A r,Hw x=A++(Va (cl x.2.2 i)++r)/\A.length=12+13*i:=by
 obtain⟨r,hr⟩:=pU x.2.2 (i+1) 16 o!;refine⟨Df x.2.1 8++(Df x.1 4++Oc x.2.2 i),r++(eu 24++(Df (U5 (Ka x)) 4++Df x.2.1 8)),?_,by simp only[Ad,A0,I8 h];omega⟩;conv=>lhs;unfold Hw Ka
 rw[hr,OG];simp only[Ay,Ka,hr,OG]
def xw{x a:Ho 16 Cg}{c:Cg}(h: ∀j:Fin 16,a j=if(j.val:Int)<b then x j else(false,[]))(g:0<=b/\b<16)(e: ∀f,x ⟨b.toNat,f⟩=c): ∀j:Fin 16,Vq a b c j=if(j.val:Int)<b+1 then x j else(false,[]):=λj=>by unfold Vq;by_cases k:(j.val:Int)=b;have d:j=⟨b.toNat,o!⟩:=Fin.ext d!;rw[if_pos o!,if_pos o!,d,e];rw[if_neg o!,h j];by_cases i:(j.val:Int)<b;rw[if_pos i,if_pos o!];rw[if_neg i,if_neg o!]
def uv{x a:Ho 16 Cg}(h: ∀j:Fin 16,a j=if(j.val:Int)<b then x j else(false,[]))(f:0<=b/\b<16)(d: ∀e,x ⟨b.toNat,e⟩=(false,[])): ∀j:Fin 16,a j=if(j.val:Int)<b+1 then x j else(false,[]):=λj=>by rw[h j];by_cases g:(j.val:Int)=b;have c:j=⟨b.toNat,o!⟩:=Fin.ext d!;rw[if_neg o!,if_pos o!,c,d];by_cases i:(j.val:Int)<b;rw[if_pos i,if_pos o!];rw[if_neg i,if_neg o!]
def uS{a t:BY}{n k:Int}(h:(a.length:Int)+t.length<=2199023255552)(b:1<=k)(d:k<=8)(e:k<=t.length)(g:t.take k.toNat=Df n k.toNat)(hn:0<=n)(f:n<256^k.toNat)(c:n<9223372036854775808):HB (a++t,((a.length:Int),k))=some n:=by unfold HB;rw[Yn h b d,if_pos e,AE,g,ABp hn f c]
def ADQ(h:HO c):Vc (Hw c)=some (c,true):=by
 suffices C:Av (Vc (Hw c)) λr=>r=(c,true) by obtain⟨r,hr,rfl⟩:=C;exact hr
 have l:=bD h;have O:=h.1;have S:=h.2.1;have Q:=h.2.2.1;have T:=h.2.2.2.1;have q1:HB (Hw c,(8,4))=some c.1:=by have:=uS (a:=Df c.2.1 8) (t:=Df c.1 4++(Oc c.2.2 16++(eu 24++(Df (U5 (Ka c)) 4++Df c.2.1 8)))) (n:=c.1) (k:=4) (by simp only[Ad,A0,I8 h,eu,I6];omega) g! g! (by simp only[Ad,A0];omega) (by exact Gs (A0 _ _)) O (by simp only[Int.reduceToNat];omega) o!;rw[A0]at this;rw[<-this];simp only[Hw,Ka,Ay];rfl
 have q2:HB (Hw c,(0,8))=some c.2.1:=by have:=uS (a:=[]) (t:=Hw c) (n:=c.2.1) (k:=8) (by rw[l];decide) g! g! (by rw[l];decide) To Q (by simp only[Int.reduceToNat];omega) o!;exact this
 unfold Vc;rw[q1,AE,q2,AE];refine AA (P:=λr=> ∃z,r= .inr (c,z)) ?_ λr hr=>by obtain⟨z,rfl⟩:=hr;exact A5 (AB rfl)
 refine Dg (λ(s:Int×AW×AW)=>0<=s.1/\s.1<=16/\s.2.1.1=c.1/\s.2.1.2.1=c.2.1/\ ∀j:Fin 16,s.2.1.2.2 j=if(j.val:Int)<s.1 then c.2.2 j else(false,[])) (λ(s:Int×AW×AW)=>(16-s.1).toNat) ⟨Ag _,u!,rfl,rfl,λj=>by rw[if_neg d!];rfl⟩ ?_;rintro⟨i,⟨p,n,a⟩,z⟩ ⟨o,N,G,hn,f⟩;dsimp only at o N G hn f;subst G hn;unfold gf;dsimp only;refine AC (λg=>?_) (λg=>Av.done ⟨z,?_⟩)
 ·rw[AZ (x:=i*13),AZ (x:=12+i*13),AZ (x:=12+i*13+1),AZ (x:=i+1)];have⟨R,m⟩:=pV (a:=c.2.2) (i:=i.toNat) o!;obtain⟨A,r,B,K⟩:=sH h (i:=i.toNat) o!;have b:=h.cl i.toNat
  generalize L:cl c.2.2 i.toNat=x at*;have F:A.length+(13+r.length)=256:=by have:=l;rw[B,Ad,Ad,bA b.1]at this;exact this
  have e:HB (Hw c,(12+i*13,1))=some (if x.1=true then(x.2.length:Int)else 255):=by have y:=b.1;have:=uS (a:=A) (t:=Va x++r) (n:=if x.1=true then(x.2.length:Int)else 255) (k:=1) (by rw[Ad,bA b.1];omega) g! g! (by rw[Ad,bA b.1];omega) (by unfold Va;rw[List.append_assoc];exact List.take_left' (A0 _ _)) (by split<;>omega) (by simp only[Int.reduceToNat];split<;>omega) (by split<;>omega);rw[<-B]at this;rw[<-this,K];congr 3;omega
  rw[e,AE];have H: ∀q:Ho 16 Cg,(∀j:Fin 16,q j=if(j.val:Int)<i+1 then c.2.2 j else(false,[]))->Av (some (Step.next (i+1,((c.1,(c.2.1,q)),z))):Option (Step (Int×AW×AW) ((Bool×AW)⊕ (AW×AW)))) (Sj (λ(s:Int×AW×AW)=>0<=s.1/\s.1<=16/\s.2.1.1=c.1/\s.2.1.2.1=c.2.1/\ ∀j:Fin 16,s.2.1.2.2 j=if(j.val:Int)<s.1 then c.2.2 j else(false,[])) (λ(s:Int×AW×AW)=>(16-s.1).toNat) (16-i).toNat λr=> ∃z,r= .inr (c,z)):=λq w=>Av.next ⟨d!,d!,rfl,rfl,w⟩ d!
  by_cases d:x.1=true;rw[if_pos d];have y:=b.1;rw[beq_eq_false_iff_ne.2 o!,cond_false,decide_eq_false o!,cond_false,AZ];obtain⟨s,C,D⟩:=Ch (s:=Hw c) (lo:=12+i*13+1) (hi:=12+i*13+1+(x.2.length:Int)) o! o! (by rw[l];omega);have E:s=x.2:=by
   rw[D.1,B];have I:(12+i*13+1).toNat=A.length+1:=o!
   have J:(12+i*13+1+(x.2.length:Int)).toNat-(12+i*13+1).toNat=x.2.length:=o!
   rw[J,I,<-Nc,PM];unfold Va;rw[if_pos d,Ay,iR (A0 _ _),Ay,Uz]
  rw[C,E,AE];have u: ∃v,Gr a i=some v:=by obtain⟨v,m,_⟩:=DQ (a:=a) o g;exact⟨v,m⟩
  obtain⟨v,u⟩:=u;rw[u,AE,AE,AE,j9];exact H _ (xw f ⟨o,g⟩ λM=>m.symm.trans (Dj d rfl));rw[if_neg d,beq_iff_eq.2 rfl,cond_true,AE,j9];exact H _ (uv f ⟨o,g⟩ λM=>m.symm.trans (Dj (by simpa using d) (b.2.resolve_left d)))
 refine congrArg Sum.inr (Dj (Dj rfl (Dj rfl (funext λj=>?_))) rfl);exact(f j).trans (if_pos o!)
theorem yN{x:AW}(h:HO x)(hn:x.2.1≠0):Hw x≠eu 256:=λe=>hn (by have:=congrArg (List.take 8) e;rw[To]at this;have a:=h.2.2.1;have b:=h.2.2.2.1;exact Yk (k:=8) (by decide) ⟨λ_=>by omega,by omega,by omega⟩ ⟨λ_=>by omega,by omega,by omega⟩ (this.trans (by decide)))
def vr:WL ()=some (eu 256):=by unfold WL;rw[xP g!];rfl
def zl(h:HO c)(hn:c.2.1≠0):PP (Hw c)=some (c,0):=by
 have b:=bD h;unfold PP;have x:len (Hw c)=256:=i!
 obtain⟨m,q1,e⟩:=Ch (s:=Hw c) (lo:=0) (hi:=8) g! g! (by rw[b];decide);obtain⟨o,q2,f⟩:=Ch (s:=Hw c) (lo:=248) (hi:=256) g! g! (by rw[b];decide);obtain⟨p,q3,g⟩:=Ch (s:=Hw c) (lo:=0) (hi:=244) g! g! (by rw[b];decide);have i:m=Df c.2.1 8:=e.1.trans To;have j:o=Df c.2.1 8:=by rw[f.1];show List.take 8 (List.drop 248 (Hw c))=_;rw[lS h,BS (by rw[A0];exact Ai _)]
 have l:p=Ka c:=g.1.trans (by show List.take 244 (Hw c)=_;unfold Hw;exact Gs (G1 h));have d:=dc (Ka c);have q4:HB (Hw c,(244,4))=some (U5 (Ka c)):=by have:=uS (a:=Ka c) (t:=Df (U5 (Ka c)) 4++Df c.2.1 8) (n:=U5 (Ka c)) (k:=4) (by simp only[Ad,A0,G1 h];decide) g! g! (by simp only[Ad,A0];decide) (Gs (A0 _ _)) o! (by simp only[Int.reduceToNat];omega) o!;rw[G1 h]at this;exact this
 rw[x,bne_self_eq_false,cond_false,vr,AE,beq_eq_false_iff_ne.2 (yN h hn),cond_false,q1,AE,q2,AE,i,j,bne_self_eq_false,cond_false,q3,AE,l,q4,AE,uM (by rw[G1 h];decide),AE,AZ,bne_self_eq_false,cond_false,ADQ h,AE,jB h,AE,bne_self_eq_false,bne_self_eq_false];rfl
def jP(x:AW):BY:=if x.2.1=0 then eu 256 else Hw x
def ABY(h:HO c)(a:c.2.1=0->c=(c.1,(0,Ho.all (false,[])))):HJ (jP c,c.1)=some (c,0):=by
 unfold HJ jP;rw[vz ⟨h.1,h.2.1⟩,AE,C3,cond_false];by_cases hn:c.2.1=0;rw[if_pos hn];have e:PP (eu 256)=some ((0,(0,(Ho.all (false,[])))),7):=by unfold PP;rw[show len (eu 256)=256 by unfold len eu;rw[List.length_replicate];rfl,bne_self_eq_false,cond_false,vr,Option.bind_some,beq_self_eq_true,cond_true]
 rw[e,AE];exact congrArg (λq=>some (q,(0:Int))) (a hn).symm;rw[if_neg hn,zl h hn,AE];show(bif c.1 !=c.1 then _ else some (c,(0:Int)))=_;rw[bne_self_eq_false];rfl
def zq{x:AW×Dx}(b:OP x.2)(e:x.2.1=x.1.1)(c:Gr x.1.2.2 x.2.2.1=some x.2.2.2.1):QF x=some ((x.1.1,(x.1.2.1,Vq x.1.2.2 x.2.2.1 x.2.2.2.2)),0):=by
 suffices f:Av (QF x) λr=>r=((x.1.1,(x.1.2.1,Vq x.1.2.2 x.2.2.1 x.2.2.2.2)),0) by obtain⟨r,hr,rfl⟩:=f;exact hr
 unfold QF;refine AA bL λv g=>AO (λa=>absurd (g.2 b) (by simp[a])) (λa=>?_);refine AL (λa=>absurd e a) (λd=>?_);rw[c];refine A2 (A2 ?_);rw[beq_self_eq_true,beq_self_eq_true];exact A2 (A2 (AB rfl))
theorem ADR{x:AW}{e:AD}(h:HO x)(f:Lg e)(g:e.2.1=1\/e.2.1=2)(c:e.2.2.2.2.2.2.1.1=x.1)(i:e.2.2.2.2.1=x.2.1)(d:Gr x.2.2 e.2.2.2.2.2.2.1.2.1=some e.2.2.2.2.2.2.1.2.2.1):UD (x,e)=some (upd x e,0):=by
 suffices j:Av (UD (x,e)) λr=>r=(upd x e,0) by obtain⟨r,hr,rfl⟩:=j;exact hr
 have a:OP e.2.2.2.2.2.2.1:=by grind[Lg,UX]
 have b:fZ e=true:=by unfold fZ;rcases g with q|q<;>rw[q]<;>rfl
 unfold UD;refine AA J3 λv k=>AO (λa=>absurd (k f) (by simp[a])) (λ_=>?_);rw[kE,b,jB h,AE,C3,cond_false];refine A2 (AL (λa=>absurd rfl a) (λ_=>AL (λa=>absurd c a) (λ_=>AL (λa=>absurd i a) (λ_=>?_))));rw[zq a c d];exact A2 (AL (λa=>absurd rfl a) (λ_=>AB rfl))
def ADT(q:y9 c g)(d:g.length<=4096):UH (c,g)=some (g.foldl upd c,0):=by
 suffices t:Av (UH (c,g)) λr=>r=(g.foldl upd c,0) by obtain⟨r,hr,rfl⟩:=t;exact hr
 generalize v:g.foldl upd c=y;refine AA (P:=λr=> ∃z,r= .inr (y,z)) ?_ λr hr=>?_
 ·refine Dg (λ(s:Int×AW×AW)=> ∃A B,g=A++B/\s.1=A.length/\y9 s.2.1 B/\B.foldl upd s.2.1=y) (λ(s:Int×AW×AW)=>((g.length:Int)-s.1).toNat) ⟨[],g,rfl,rfl,q,v⟩ ?_;rintro⟨i,c,z⟩ ⟨A,B,rfl,x,h,a⟩;dsimp only at x h a;subst x;unfold Yg;dsimp only[len];rw[Ad]at d;refine AC (λb=>?_) (λb=>Av.done ?_)
  ·obtain _|⟨e,B⟩:=B;simp at b;have u:ix (A++e::B) (A.length:Int)=some e:=by unfold ix;rw[if_pos o!,Dk,Cb (Ai _),Gu];rfl
   obtain⟨⟨j,f,k,l,m,n⟩,o⟩:=h;have p:e.2.2.2.2.1<e.1:=f.2.2.2.2.2.1;rw[u,AE,decide_eq_false o!,cond_false,ADR j f k l m n,AE,AZ (x:=(A.length:Int)+1)];refine AL (λb=>absurd rfl b) (λ_=>Av.next ⟨A++[e],B,k!,k!,o,a⟩ d!)
  obtain _|⟨e,B⟩:=B;exact⟨z,by rw[<-a];rfl⟩;simp at b;omega
 obtain⟨z,rfl⟩:=hr;exact A5 (AB rfl)
def y0(h:Lf g)(p:d<=i):g.filter (Km b d i)=((g.take i).drop d).filter (bC b):=by
 have j: ∀(a:Nat) (e:AD),g[a]? =some e->Km b d i e=(bC b e&&(decide (d<=a)&&decide (a<i))):=λa e L=>by have:=(h a e L).1;rw[tP,show decide (e.1>(d:Int))=decide (d<=a)from decide_eq_decide.2 o!,show decide (e.1<=(i:Int))=decide (a<i)from decide_eq_decide.2 o!]
 conv=>lhs;rw[<-EP i g,qv g p]
 rw[II,II];rw[(List.filter_eq_nil_iff (l:=g.take d)).2 λe L=>by obtain⟨a,c⟩:=Eh L;have f:=DU c;rw[Ba]at f;rw[Kg o!]at c;rw[j a e c,decide_eq_false (show¬d<=a by omega)];simp];rw[(List.filter_eq_nil_iff (l:=g.drop i)).2 λe L=>by obtain⟨a,c⟩:=Eh L;rw[L6]at c;rw[j _ e c,decide_eq_false (show¬i+a<i by omega)];simp];rw[Cn,Dr];refine List.filter_congr λe L=>?_;obtain⟨a,c⟩:=Eh L;rw[L6]at c;have f:=DU c;rw[Ba]at f;rw[Kg o!]at c;rw[j _ e c,decide_eq_true (show d<=d+a by omega),decide_eq_true (show d+a<i by omega)];simp
def Cov(a:AK)(l:Ah)(k:Nat):Prop:= ∀m:Int,1<=m->m<=k-> ∀p lo hi,pA a p lo hi->zQ a l lo m
def ABf(h:VB f)(b:D8 e):Mc (f,e)=some 0:=by obtain⟨v,c,rfl⟩:=Od h;obtain⟨w,d,rfl⟩:=Tw b;unfold Mc;rw[c,AE,C3,cond_false,d];rfl
def ADI{p:Int}{j k:Nat}(o:LI b a)(l:Lf a)(m:AR a f)(L:jd a e)(w:Cov f e k)(d:j<=k)(H:k<=a.length)(h:0<=p/\p<f.2.1)(c:p<64):UG (st (a.take j) p,(f,(e,(k:Int))))=some (st (a.take k) p,0):=by
 have s:=L.len;have g:=Xo l ⟨h.1,c⟩ (by omega:a.length<=1099511627776);have z:=Yj l p j;have A:=eO (l.take j) p;rw[Ba]at A;unfold UG;dsimp only;rw[ABf m.vb L.vl,AE,bne_self_eq_false,cond_false,jB (g j),AE];dsimp only;rw[bne_self_eq_false,cond_false,Pe,UO,decide_eq_false o!,cond_false];obtain⟨B,y,n,C,⟨D,t,E,u⟩,F,r⟩:=AEL (p:=p) (i:=Bw (a.take j) p) (j:=(k:Int)) (CPa 4096) g! o o! z o! o! m L h;have x:n=0:=by rcases u with q|q;exact q;by_cases v:n=0;exact v;exact absurd (w n o! t p B y C) q
 obtain⟨G,r⟩:=r.resolve_left λq=>by have:=q.1;omega
 rw[r,AE];dsimp only;rw[bne_self_eq_false,cond_false,show Bw (a.take j) p=(((Bw (a.take j) p).toNat:Nat):Int) by omega,y0 l o!,lQ l (j:=j) o! (bp l),ADT (uI l o ⟨h.1,c⟩ o! j k d) (by have:=IL (bC p) ((a.take k).drop j);rw[GF,Ba]at this;omega),<-jH d];rfl
def fa(x:AW):Dh:=(x.1,(x.2.1,jP x))
def L3(L:List EN)(n:Nat):List Dh:=(List.range n).map λ(i:Nat)=>fa (st L i)
def Ld(L:List EN)(n:Nat):(L3 L n).length=n:=by unfold L3;rw[List.length_map,List.length_range]
def uB{L:List EN}{n i:Nat}(h:i<n):(L3 L n)[i]? =some (fa (st L i)):=by unfold L3;rw[CO,Sp h];rfl
def gw{L:List EN}{n:Nat}{i:Int}(a:0<=i)(h:i<n):ix (L3 L n) i=some (fa (st L i)):=by obtain⟨v,c,b,_⟩:=AI (l:=L3 L n) a (by rw[Ld];exact h);rw[uB o!,IH a]at b;rw[c,<-Bg b]
def qA(L:List EN)(n:Nat):L3 L (n+1)=L3 L n++[fa (st L n)]:=by unfold L3;rw[List.range_succ,Mh];rfl
def yw(h:Lf a){k:Nat}(L:(st (a.take k) b).2.1=0):st (a.take k) b=(b,(0,Ho.all (false,[]))):=by rw[Pe]at L;exact(jG h (j:=k) (k:=0) (by rw[L];rfl)).trans rfl
def vX(h:Lf a)(p:a.length<=1099511627776)(L:0<=b/\b<64):HJ (jP (st (a.take d) b),b)=some (st (a.take d) b,0):=by
 have:=ABY (Xo h L p d) λc=>by rw[yw h c]
 rwa [UO]at this
theorem ADs{L:List EN}(h:Lf L)(l:L.length<=1099511627776){s:Int}{n k:Nat}(d:1<=s/\s<=1073741824)(hn:1<=n/\n<=64):VO (s,((n:Int),L3 (L.take k) n))=some true:=by
 have m:Rj (s,((n:Int),L3 (L.take k) n))=some true:=by
  suffices d:Av (Rj (s,((n:Int),L3 (L.take k) n))) λr=>r=true by obtain⟨r,hr,rfl⟩:=d;exact hr
  unfold Rj;dsimp only;have c:len (L3 (L.take k) n)=n:=by unfold len;rw[Ld]
  rw[decide_eq_false (by omega),cond_false,decide_eq_false (by omega),cond_false,decide_eq_false (by omega),cond_false,decide_eq_false (by omega),cond_false,c,decide_eq_false (by omega),cond_false];refine AA (P:=λr=>r= .inr ()) ?_ λr hr=>by rw[hr];exact A5 (AB rfl)
  refine Dg (λ(s:Int)=>0<=s/\s<=n) (λs=>((n:Int)-s).toNat) ⟨Ag _,by omega⟩ (λi j=>?_);obtain⟨e,p⟩:=j;unfold bM;dsimp only;rw[c];refine AC (λa=>?_) (λ_=>Av.done rfl);have f:Av (some (Step.next (wi (i+1))):Option (Step Int (Bool ⊕ Unit))) (Sj (λ(s:Int)=>0<=s/\s<=n) (λs=>((n:Int)-s).toNat) ((n:Int)-i).toNat λr=>r= .inr ()):=by rw[AZ (by omega)];exact Av.next ⟨by omega,by omega⟩ (by omega)
  have g:(fa (st (L.take k) i)).1=i:=UO _ _;rw[gw e a,AE,g,decide_eq_false (by omega),cond_false];have b:HJ ((fa (st (L.take k) i)).2.2,i)=some (st (L.take k) i,0):=vX h l ⟨e,by omega⟩;refine AC (λo=>?_) (λ_=>?_);rw[AZ (by omega),gw (by omega) (by omega),AE,show(fa (st (L.take k) (i-1))).1=i-1 from UO _ _,decide_eq_false (by omega),cond_false,b,AE];exact AL (λa=>absurd rfl a) (λ_=>AL (λa=>absurd rfl a) (λ_=>f));rw[b,AE];exact AL (λa=>absurd rfl a) (λ_=>AL (λa=>absurd rfl a) (λ_=>f))
 unfold VO;rw[m,AE,cond_true];have c:len (L3 (L.take k) n)=n:=by unfold len;rw[Ld]
 dsimp only;rw[c,beq_self_eq_true]
def AAu(q:LI b a)(c:Lf a)(o:AR a f)(l:jd a e)(r:Cov f e i)(n:d<=i)(s:i<=a.length)(g:0<=j/\j<f.2.1)(p:j<64):Qm (fa (st (a.take d) j),(f,(e,(i:Int))))=some (fa (st (a.take i) j),0):=by
 have m:=l.len;have k:=Xo c ⟨g.1,p⟩ (by omega:a.length<=1099511627776);have h:HJ ((fa (st (a.take d) j)).2.2,(fa (st (a.take d) j)).1)=some (st (a.take d) j,0):=by rw[show(fa (st (a.take d) j)).1=j from UO _ _];exact vX c o! ⟨g.1,p⟩
 unfold Qm;dsimp only;rw[h,AE];dsimp only;rw[bne_self_eq_false,cond_false,ADI q c o l r n s g p,AE];dsimp only;rw[bne_self_eq_false,cond_false];by_cases L:(st (a.take i) j).2.1=0;rw[L,beq_self_eq_true,cond_true];rw[Pe]at L;have t:=PR c j d i n;have u:=Yj c j d;rw[jG c (j:=d) (k:=i) o!];rw[beq_eq_false_iff_ne.2 L,cond_false,jB (k i),AE];dsimp only;unfold fa jP;rw[if_neg L,UO,UO]
def AAP{L:List EN}{s0 s:Int}{m j k:Nat}(w:LI b L)(g:Lf L)(a:AR L f)(n:jd L e)(x:Cov f e k)(d:j<=k)(y:k<=L.length)(B:(k:Int)<=e.2.2)(C:(m:Int)=f.2.1)(hn:1<=m/\m<=64)(u:1<=s0/\s0<=1073741824)(o:1<=s/\s<=1073741824):HG ((s0,((m:Int),L3 (L.take j) m)),(f,(e,(s,(k:Int)))))=some ((s,((m:Int),L3 (L.take k) m)),0):=by
 have h:=n.len;suffices o:Av (HG ((s0,((m:Int),L3 (L.take j) m)),(f,(e,(s,(k:Int)))))) λr=>r=((s,((m:Int),L3 (L.take k) m)),0) by obtain⟨r,hr,rfl⟩:=o;exact hr
 unfold HG;rw[ADs g o! u hn,AE,C3,cond_false];dsimp only;rw[ABf a.vb n.vl,AE,bne_self_eq_false,cond_false,decide_eq_false o!,cond_false,decide_eq_false o!,cond_false,decide_eq_false o!,cond_false,decide_eq_false o!,cond_false];have q:len (L3 (L.take j) m)=m:=by unfold len;rw[Ld]
 refine AA (P:=λr=>r= .inr (L3 (L.take k) m,(s,((m:Int),0)))) ?_ λr hr=>by rw[hr];exact A5 (AB rfl)
 refine Dg (λ(t:Int×List Dh×Int×Int×Int)=>0<=t.1/\t.1<=m/\t.2=(L3 (L.take k) t.1.toNat,(s,((m:Int),0)))) (λt=>((m:Int)-t.1).toNat) ⟨Ag _,d!,rfl⟩ ?_;rintro⟨i,t⟩ ⟨c,A,p⟩;dsimp only at c A p;subst p;unfold Yf;dsimp only;rw[q];refine AC (λl=>?_) (λl=>Av.done ?_)
 ·rw[gw c l,AE,AAu w g a n x d y ⟨c,o!⟩ o!,AE,bne_self_eq_false,cond_false];refine AA (Ac (by rw[Ld];simp;omega)) λv z=>?_;rw[AZ];refine Av.next ⟨d!,d!,?_⟩ d!
  dsimp only;rw[z.1,show(i+1).toNat=i.toNat+1 by omega,qA,IH c]
 rw[show i.toNat=m by omega]
def qP{m:Nat}(h:m<=64):FY (1,(m:Int))=some (1,((m:Int),L3 [] m)):=by
 suffices d:Av (FY (1,(m:Int))) λr=>r=(1,((m:Int),L3 [] m)) by obtain⟨r,hr,rfl⟩:=d;exact hr
 unfold FY;refine AA (P:=λr=>r=(L3 [] m,(1,(m:Int)))) ?_ λr hr=>AB (by rw[hr]);refine Dg (λ(t:Int×List Dh×Int×Int)=>0<=t.1/\t.1<=m/\t.2=(L3 [] t.1.toNat,(1,(m:Int)))) (λt=>((m:Int)-t.1).toNat) ⟨Ag _,d!,rfl⟩ ?_;rintro⟨i,t⟩ ⟨b,f,c⟩;dsimp only at b f c;subst c;unfold S6;dsimp only;refine AC (λa=>?_) (λa=>Av.done ?_)
 ·rw[oZ,AE];refine AA (Ac (by rw[Ld];simp;omega)) λv e=>?_;rw[AZ];refine Av.next ⟨d!,d!,?_⟩ d!
  dsimp only;rw[e.1,show(i+1).toNat=i.toNat+1 by omega,qA,IH b];rfl
 rw[show i.toNat=m by omega]
theorem AFR(x:BN)(h:x.2.2.length<=16777216):Ja (x,x)=some true:=by
 suffices c:Av (Ja (x,x)) λr=>r=true by obtain⟨r,hr,rfl⟩:=c;exact hr
 unfold Ja;dsimp only;rw[bne_self_eq_false,cond_false,bne_self_eq_false,cond_false,bne_self_eq_false,cond_false];refine AA (P:=λr=>r= .inr ()) ?_ λr hr=>by rw[hr];exact A5 (AB rfl)
 refine Dg (λ(s:Int)=>0<=s/\s<=x.2.2.length) (λs=>((x.2.2.length:Int)-s).toNat) ⟨Ag _,by omega⟩ (λi a=>?_);obtain⟨e,f⟩:=a;unfold TQ;dsimp only[len];refine AC (λb=>?_) (λ_=>Av.done rfl);obtain⟨v,d,_⟩:=AI (l:=x.2.2) e b;rw[d,AE,AE,beq_self_eq_true,beq_self_eq_true,beq_self_eq_true];simp only[PL,C3,cond_false];rw[AZ (by omega)];exact Av.next ⟨by omega,by omega⟩ (by omega)
def AEP{p i j:Int}(hN:Lf a)(hA:AR a f)(t:jd a e)(hj:j<=1099511627776):Av (Sd (f,(e,(p,(i,j))))) λr=>r.2=0->r.1=a.filter (Km p i j):=by
 have G:=t.sorted;have hU:Uq a:=λx hx y E K=>UJ (by refine Mj.2 ((SO).2 (G.imp λh=>?_));omega) hx E K;refine AA ADY λv0 h0=>AL (λH=>AB λo=>absurd o H) (λo=>?_);obtain⟨p0,p1,i0,ij⟩:=h0 o;refine AA (AB3 hA ⟨p0,p1⟩) λv1 h1=>?_;obtain⟨rs,ax,l'⟩:=v1;obtain⟨z,ao⟩:=h1;dsimp only at z ao;subst l';refine AA (zR z t.vl i0 hj ij) λv2 h2=>AO (λ_=>AB n!) (λJ=>?_);have ad:=h2 J;refine AA (wc hU z) λv3 W=>AA (ABJ t.vl) λv4 X=>?_;have Y: ∀y∈v3,y∈a:=λy E=>by obtain⟨q,q1,q2,_⟩:=(W.2 y).1 E;exact(((z.2 q q1).2.1.mem y).1 q2).1
 have Z: ∀y∈v4,y∈a:=λy E=>by rw[X]at E;exact((t.tail y).1 (Bc.1 E).1).1
 have A:v4.length<=4096:=by rw[X];exact EB (IL _ _) t.vl.2.2.1
 refine AA (ACU hU t.vl Y Z z.1 W.1 A) λc h5=>AO (λ_=>AB n!) (λht=>?_);obtain⟨u1,u2⟩:=h5 ht;have w: ∀y,y∈c.1↔y∈a.filter (Km p i j):=λy=>by rw[u2 y,W.2 y,X,Bc,Bc];constructor;rintro(⟨q,q1,q2,q3,q4,q5⟩|⟨q1,q2⟩);have:=((z.2 q q1).2.1.mem y).1 q2;refine⟨this.1,?_⟩;unfold Km;rw[this.2.1,beq_iff_eq.2 q3,decide_eq_true (show y.1>i from q4),decide_eq_true q5];rfl;exact⟨((t.tail y).1 q1).1,q2⟩;rintro⟨q1,q2⟩;have hw:=q2;unfold Km at hw;simp only[BP,decide_eq_true_eq,beq_iff_eq]at hw;obtain⟨w1,w2,w3,w4⟩:=hw;rcases ad y.1 w3 w4 with⟨r,S,r2,r3⟩|⟨S,r2⟩;obtain⟨_,g2,g3,g4⟩:=z.2 r S;exact .inl ⟨r,S,(g2.mem y).2 ⟨q1,w1,o!,o!,r2,r3⟩,w2,w3,w4⟩;exact .inr ⟨(t.tail y).2 ⟨q1,S,r2⟩,q2⟩
 refine AA (P:=λr=>(∀u,r= .inl u->u.2=13)/\(r= .inr ()-> ∀(k:Nat) (l L:EN),c.1[k]? =some l->c.1[k+1]? =some L->L.2.2.2.2.1=l.1)) ?_ λr hr=>A8 (λu B=>AB λo=>by rw[hr.1 u B]at o;cases o) (λu B=>AB λ_=>?_)
 ·refine Dg (λ(s:Int)=>0<=s/\s<=c.1.length/\ ∀(k:Nat) (l L:EN),(k:Int)+1<s->c.1[k]? =some l->c.1[k+1]? =some L->L.2.2.2.2.1=l.1) (λs=>((c.1.length:Int)-s).toNat) ⟨Ag _,o!,λk l L n=>o!⟩ (λs hI=>?_);obtain⟨s0,s1,s2⟩:=hI;unfold Us;dsimp only[len];have F: ∀u:List EN×Int,u=([],13)->(∀v,(Sum.inl u:(List EN×Int)⊕ Unit)= .inl v->v.2=13)/\((Sum.inl u:(List EN×Int)⊕ Unit)= .inr ()-> ∀(k:Nat) (l L:EN),c.1[k]? =some l->c.1[k+1]? =some L->L.2.2.2.2.1=l.1):=λu B=>⟨λv hv=>by cases hv;rw[B],λh=>by cases h⟩
  refine AC (λH=>?_) (λH=>Av.done ⟨λu B=>(by cases B),λ_ k l L n g=>s2 k l L (by have:=DU g;omega) n g⟩);rw[AZ (x:=s+1)];have O:0<s->Av (Option.bind (ix c.1 s) λQ=>Option.bind (ix c.1 (wi (s-1))) λR=>bif (Q.2.2.2.2.1 !=R.1)then some (.done (.inl ([],13)))else some (.next (s+1)):Option (Step Int ((List EN×Int)⊕ Unit))) (Sj (λ(s:Int)=>0<=s/\s<=c.1.length/\ ∀(k:Nat) (l L:EN),(k:Int)+1<s->c.1[k]? =some l->c.1[k+1]? =some L->L.2.2.2.2.1=l.1) (λs=>((c.1.length:Int)-s).toNat) ((c.1.length:Int)-s).toNat λr=>(∀u,r= .inl u->u.2=13)/\(r= .inr ()-> ∀(k:Nat) (l L:EN),c.1[k]? =some l->c.1[k+1]? =some L->L.2.2.2.2.1=l.1)):=λD=>by
   rw[AZ];refine AA (AI s0 H) λQ U=>AA (AI) λR V=>AL (λ_=>Av.done (F _ rfl)) (λK=>Av.next ⟨o!,o!,λk l L n M g=>?_⟩ o!);by_cases al:(k:Int)+1<s;exact s2 k l L al M g;have ek:k+1=s.toNat:=o!
   have T:(s-1).toNat=k:=o!
   rw[ek,U.1]at g;have:=V.1;rw[T,M]at this;rw[<-Bg g,Bg this];exact K
  apply AV<;>intro hs
  ·refine AA (AI s0 H) λv7 g7=>AC (λ_=>Av.done (F _ rfl)) (λ_=>AC (λD=>absurd D o!) (λ_=>Av.next ⟨o!,o!,λk l L n=>o!⟩ o!))
  exact AC (λD=>O D) (λD=>absurd D o!)
 subst B;dsimp only;have I:=hr.2 rfl;refine oO ?_ (G.filter _) w;have N: ∀l∈c.1,l.2.2.2.2.1<l.1:=λl K=>by obtain⟨k,n⟩:=Fg.1 (Bc.1 ((w l).1 K)).1;exact(hN k l n).2.2.2.2.2.2.1
 have step: ∀(d k:Nat) (l L:EN),c.1[k]? =some l->c.1[k+1+d]? =some L->l.1<L.1:=by
  intro d;induction d with
  |zero=>intro k l L n C;have:=I k l L n C;have:=N L (BM C);omega
  |succ d ih=>intro k l L n C;have ar:=DU C;have hg:c.1[k+1+d]? =some (c.1[k+1+d]' o!):=At o!;have f:=ih k l _ n hg;have b:=I (k+1+d) _ L hg C;have:=N L (BM C);omega
 rw[Hr];intro k m n hm ap;obtain⟨d,rfl⟩: ∃d,m=k+1+d:=⟨m-(k+1),o!⟩
 exact step d k _ _ (At n) (At hm)
def AAT(q:y9 c g)(d:g.length<=4096):Ma (c,g)=some (g.foldl upd c,0):=by
 suffices t:Av (Ma (c,g)) λr=>r=(g.foldl upd c,0) by obtain⟨r,hr,rfl⟩:=t;exact hr
 generalize v:g.foldl upd c=y;refine AA (P:=λr=> ∃z,r= .inr (y,z)) ?_ λr hr=>?_
 ·refine Dg (λ(s:Int×AW×AW)=> ∃A B,g=A++B/\s.1=A.length/\y9 s.2.1 B/\B.foldl upd s.2.1=y) (λ(s:Int×AW×AW)=>((g.length:Int)-s.1).toNat) ⟨[],g,rfl,rfl,q,v⟩ ?_;rintro⟨i,c,z⟩ ⟨A,B,rfl,x,h,a⟩;dsimp only at x h a;subst x;unfold TS;dsimp only[len];rw[Ad]at d;refine AC (λb=>?_) (λb=>Av.done ?_)
  ·obtain _|⟨e,B⟩:=B;simp at b;have u:ix (A++e::B) (A.length:Int)=some e:=by unfold ix;rw[if_pos o!,Dk,Cb (Ai _),Gu];rfl
   obtain⟨⟨j,f,k,l,m,n⟩,o⟩:=h;have p:e.2.2.2.2.1<e.1:=f.2.2.2.2.2.1;rw[u,AE,decide_eq_false o!,cond_false,AE,xm j f k l m n,AE,AZ (x:=(A.length:Int)+1)];refine AL (λb=>absurd rfl b) (λ_=>Av.next ⟨A++[e],B,k!,k!,o,a⟩ d!)
  obtain _|⟨e,B⟩:=B;exact⟨z,by rw[<-a];rfl⟩;simp at b;omega
 obtain⟨z,rfl⟩:=hr;exact A5 (AB rfl)
def AAS{p:Int}{j k:Nat}(u:LI b a)(l:Lf a)(i:AR a f)(L:jd a e)(n:j<=k)(w:k<=a.length)(o:0<=p/\p<f.2.1)(d:p<64):Av (Qd (st (a.take j) p,(f,(e,(k:Int))))) λr=>r.2=0->r.1=st (a.take k) p:=by have m:=L.len;have g:=Xo l ⟨o.1,d⟩ (by omega:a.length<=1099511627776);have x:=Yj l p j;have v:=eO (l.take j) p;rw[Ba]at v;refine AA YT λy q=>AO (λc=>absurd (q.2 i.vb) (by simp[c])) (λ_=>?_);refine AA Bn λz s=>AO (λc=>absurd (s.2 L.vl) (by simp[c])) (λ_=>?_);rw[Z5 (g j),AE];refine AL (λc=>absurd rfl c) (λ_=>?_);dsimp only;rw[Pe,UO,decide_eq_false o!,cond_false];refine AA (AEP l i L o!) λA t=>AL (λc=>AB λh=>absurd h c) (λh=>?_);rw[t h,show Bw (a.take j) p=(((Bw (a.take j) p).toNat:Nat):Int) by omega,y0 l o!,lQ l (j:=j) o! (bp l),AAT (uI l u ⟨o.1,d⟩ o! j k n) (by have:=IL (bC p) ((a.take k).drop j);rw[GF,Ba]at this;omega),<-jH n,AE];exact AB λ_=>rfl
theorem ADi{t:BY}{b:UInt8}:six (h++b::t) (h.length:Int)=some (b.toNat:Int):=by unfold six;grind
def ADW(h:HO c):Av (Af (Gp (Hw c)) (0,((c.1,(c.2.1,(Ho.all (false,[])))),(0,(0,(Ho.all (false,[]))))))) λr=> ∃z,r= .inr (c,z):=by
 have y:=bD h;refine Dg (λ(s:Int×AW×AW)=>0<=s.1/\s.1<=16/\s.2.1.1=c.1/\s.2.1.2.1=c.2.1/\ ∀j:Fin 16,s.2.1.2.2 j=if(j.val:Int)<s.1 then c.2.2 j else(false,[])) (λ(s:Int×AW×AW)=>(16-s.1).toNat) ⟨Ag _,u!,rfl,rfl,λj=>by rw[if_neg d!];rfl⟩ ?_;rintro⟨i,⟨p,n,a⟩,z⟩ ⟨l,L,C,hn,g⟩;dsimp only at l L C hn g;subst C hn;unfold Gp;dsimp only;refine AC (λk=>?_) (λk=>Av.done ⟨z,?_⟩)
 ·rw[AZ (x:=i*13),AZ (x:=12+i*13),AZ (x:=12+i*13+1),AZ (x:=i+1)];have⟨N,D⟩:=pV (a:=c.2.2) (i:=i.toNat) o!;obtain⟨A,r,t,M⟩:=sH h (i:=i.toNat) o!;have b:=h.cl i.toNat
  generalize I:cl c.2.2 i.toNat=x at*;have B:A.length+(13+r.length)=256:=by have:=y;rw[t,Ad,Ad,bA b.1]at this;exact this
  have f:six (Hw c) (12+i*13)=some (if x.1=true then(x.2.length:Int)else 255):=by have q:=b.1;have e:Va x=UInt8.ofNat ((if x.1=true then(x.2.length:Int)else 255)%256).toNat::(x.2++eu (12-x.2.length)):=rfl;rw[t,show(12+i*13:Int)=(A.length:Int) by omega,e,aB,ADi,UInt8.toNat_ofNat'];apply congrArg some;split<;>omega
  rw[f,AE];have E: ∀m:Ho 16 Cg,(∀j:Fin 16,m j=if(j.val:Int)<i+1 then c.2.2 j else(false,[]))->Av (some (Step.next (i+1,((c.1,(c.2.1,m)),z))):Option (Step (Int×AW×AW) ((Int×AW)⊕ (AW×AW)))) (Sj (λ(s:Int×AW×AW)=>0<=s.1/\s.1<=16/\s.2.1.1=c.1/\s.2.1.2.1=c.2.1/\ ∀j:Fin 16,s.2.1.2.2 j=if(j.val:Int)<s.1 then c.2.2 j else(false,[])) (λ(s:Int×AW×AW)=>(16-s.1).toNat) (16-i).toNat λr=> ∃z,r= .inr (c,z)):=λm o=>Av.next ⟨d!,d!,rfl,rfl,o⟩ d!
  by_cases d:x.1=true;have q:=b.1;rw[if_pos d,AZ (x:=(x.2.length:Int)),beq_eq_false_iff_ne.2 o!,cond_false,decide_eq_false o!,cond_false,AZ];obtain⟨s,K,u⟩:=Ch (s:=Hw c) (lo:=12+i*13+1) (hi:=12+i*13+1+(x.2.length:Int)) o! o! (by rw[y];omega);have w:s=x.2:=by
   rw[u.1,t];have F:(12+i*13+1).toNat=A.length+1:=o!
   have G:(12+i*13+1+(x.2.length:Int)).toNat-(12+i*13+1).toNat=x.2.length:=o!
   rw[G,F,<-Nc,PM];unfold Va;rw[if_pos d,Ay,iR (A0 _ _),Ay,Uz]
  rw[K,w,AE];obtain⟨v,H,_⟩:=DQ (a:=a) l k;rw[H,AE,AE];exact E _ (xw g ⟨l,k⟩ λJ=>D.symm.trans (Dj d rfl));rw[if_neg d,AZ,beq_iff_eq.2 rfl,cond_true];exact E _ (uv g ⟨l,k⟩ λJ=>D.symm.trans (Dj (by simpa using d) (b.2.resolve_left d)))
 refine congrArg Sum.inr (Dj (Dj rfl (Dj rfl (funext λj=>?_))) rfl);exact(g j).trans (if_pos o!)
def uW{a t:BY}{n k:Int}(h:(a.length:Int)+t.length<=2199023255552)(b:1<=k)(d:k<=8)(e:k<=t.length)(g:t.take k.toNat=Df n k.toNat)(hn:0<=n)(f:n<256^k.toNat)(c:n<9223372036854775808):As (a++t,((a.length:Int),k))=some (n,0):=by rw[fx h b d,if_pos e,g,ABp hn f c]
def zw(h:HO c)(hn:c.2.1≠0):Ej (Hw c)=some (c,0):=by
 have b:=bD h;have r:=h.1;have w:=h.2.1;have u:=h.2.2.1;have y:=h.2.2.2.1;unfold Ej;have x:len (Hw c)=256:=i!
 obtain⟨o,q1,f⟩:=Ch (s:=Hw c) (lo:=0) (hi:=8) g! g! (by rw[b];decide);obtain⟨p,q2,g⟩:=Ch (s:=Hw c) (lo:=248) (hi:=256) g! g! (by rw[b];decide);obtain⟨q,q3,i⟩:=Ch (s:=Hw c) (lo:=0) (hi:=244) g! g! (by rw[b];decide);have j:o=Df c.2.1 8:=f.1.trans To;have l:p=Df c.2.1 8:=by rw[g.1];show List.take 8 (List.drop 248 (Hw c))=_;rw[lS h,BS (by rw[A0];exact Ai _)]
 have m:q=Ka c:=i.1.trans (by show List.take 244 (Hw c)=_;unfold Hw;exact Gs (G1 h));have d:=dc (Ka c);have q4:As (Hw c,(244,4))=some (U5 (Ka c),0):=by have:=uW (a:=Ka c) (t:=Df (U5 (Ka c)) 4++Df c.2.1 8) (n:=U5 (Ka c)) (k:=4) (by simp only[Ad,A0,G1 h];decide) g! g! (by simp only[Ad,A0];decide) (Gs (A0 _ _)) o! (by simp only[Int.reduceToNat];omega) o!;rw[G1 h]at this;exact this
 have q5:As (Hw c,(8,4))=some (c.1,0):=by have:=uW (a:=Df c.2.1 8) (t:=Df c.1 4++(Oc c.2.2 16++(eu 24++(Df (U5 (Ka c)) 4++Df c.2.1 8)))) (n:=c.1) (k:=4) (by simp only[Ad,A0,I8 h,eu,I6];omega) g! g! (by simp only[Ad,A0];omega) (by exact Gs (A0 _ _)) r (by simp only[Int.reduceToNat];omega) o!;rw[A0]at this;rw[<-this];simp only[Hw,Ka,Ay];rfl
 have q6:As (Hw c,(0,8))=some (c.2.1,0):=uW (a:=[]) (t:=Hw c) (n:=c.2.1) (k:=8) (by rw[b];decide) g! g! (by rw[b];decide) To u (by simp only[Int.reduceToNat];omega) o!;obtain⟨v,e,z,rfl⟩:=ADW h;rw[x,bne_self_eq_false,cond_false,oZ,AE,beq_eq_false_iff_ne.2 (yN h hn),cond_false,q1,AE,q2,AE,j,l,bne_self_eq_false,cond_false,q4,AE,q3,AE,m,tH (by rw[G1 h];decide),AE,show IntKind.wrap .u32 (U5 (Ka c))=U5 (Ka c) by rw[tD];omega,bne_self_eq_false,cond_false,q6,AE,q5,AE,e,AE,Wz,Z5 h,AE,bne_self_eq_false,bne_self_eq_false];rfl
def ABi(h:HO c)(a:c.2.1=0->c=(c.1,(0,Ho.all (false,[])))):CZ (jP c,c.1)=some (c,0):=by
 have b:=h.1;have x:=h.2.1;unfold CZ jP;dsimp only;rw[decide_eq_false o!,cond_false,decide_eq_false o!,cond_false];by_cases hn:c.2.1=0;rw[if_pos hn];have e:Ej (eu 256)=some ((0,(0,(Ho.all (false,[])))),7):=by unfold Ej;rw[show len (eu 256)=256 by unfold len eu;rw[List.length_replicate];rfl,bne_self_eq_false,cond_false,oZ,Option.bind_some,beq_self_eq_true,cond_true]
 rw[e,AE];exact congrArg (λq=>some (q,(0:Int))) (a hn).symm;rw[if_neg hn,zw h hn,AE];show(bif c.1 !=c.1 then _ else some (c,(0:Int)))=_;rw[bne_self_eq_false];rfl
def nR(h:Lf a)(p:a.length<=1099511627776)(L:0<=b/\b<64):CZ (jP (st (a.take d) b),b)=some (st (a.take d) b,0):=by
 have:=ABi (Xo h L p d) λc=>by rw[yw h c]
 rwa [UO]at this
def AGP{A p R:BY}(h:(A.length:Int)+p.length+R.length<=1099511627776)(a:p.length<=8392):BT (A++(JS p++R),(A.length:Int))=some (p,((A.length:Int)+8+p.length,0)):=by rw[SN (by rw[Ad,GI];omega),jt a]
def gv(L:List EN)(n:Nat):len (L3 L n)=n:=by unfold len;rw[Ld]
theorem mJ{L:List EN}(h:Lf L)(j:L.length<=1099511627776){s:Int}{n k:Nat}(c:1<=s/\s<=1073741824)(hn:1<=n/\n<=64):EV (s,((n:Int),L3 (L.take k) n))=some true:=by
 suffices c:Av (EV (s,((n:Int),L3 (L.take k) n))) λr=>r=true by obtain⟨r,hr,rfl⟩:=c;exact hr
 unfold EV;dsimp only;rw[decide_eq_false (by omega),cond_false,decide_eq_false (by omega),cond_false,decide_eq_false (by omega),cond_false,decide_eq_false (by omega),cond_false];refine AA (P:=λr=>r= .inr ()) ?_ λr hr=>by rw[hr];exact A5 (AB rfl)
 refine Dg (λ(s:Int)=>0<=s/\s<=n) (λs=>((n:Int)-s).toNat) ⟨Ag _,by omega⟩ (λi g=>?_);obtain⟨d,m⟩:=g;unfold R5;dsimp only;rw[gv];refine AC (λa=>?_) (λ_=>Av.done rfl);have e:Av (some (Step.next (wi (i+1))):Option (Step Int (Bool ⊕ Unit))) (Sj (λ(s:Int)=>0<=s/\s<=n) (λs=>((n:Int)-s).toNat) ((n:Int)-i).toNat λr=>r= .inr ()):=by rw[AZ (by omega)];exact Av.next ⟨by omega,by omega⟩ (by omega)
 have f:(fa (st (L.take k) i)).1=i:=UO _ _;rw[gw d a,AE,f,decide_eq_false (by omega),cond_false,decide_eq_false (by omega),cond_false];have b:CZ ((fa (st (L.take k) i)).2.2,i)=some (st (L.take k) i,0):=nR h j ⟨d,by omega⟩;refine AC (λl=>?_) (λ_=>?_);rw[AZ (by omega),gw (by omega) (by omega),AE,show(fa (st (L.take k) (i-1))).1=i-1 from UO _ _,decide_eq_false (by omega),cond_false,b,AE];exact AL (λa=>absurd rfl a) (λ_=>AL (λa=>absurd rfl a) (λ_=>e));rw[b,AE];exact AL (λa=>absurd rfl a) (λ_=>AL (λa=>absurd rfl a) (λ_=>e))
def yz(h:Lf a)(s:a.length<=1099511627776){n k:Nat}(L:1<=b/\b<=1073741824)(hn:1<=n/\n<=64):Iv (b,((n:Int),L3 (a.take k) n))=some true:=by unfold Iv;rw[mJ h s L hn,AE,cond_true];dsimp only;rw[gv,beq_self_eq_true]
theorem AFD{L:List EN}(h:Lf L)(a:L.length<=1099511627776){s i:Int}{n k:Nat}(c:1<=s/\s<=1073741824)(hn:1<=n/\n<=64)(b:0<=i/\i<n):MY ((s,((n:Int),L3 (L.take k) n)),i)=some (st (L.take k) i,0):=by
 have f:Av (Qb ((s,((n:Int),L3 (L.take k) n)),i)) λr=>r=(fa (st (L.take k) i),true):=by
  refine AA (P:=λr=>r= .inl (true,fa (st (L.take k) i))) ?_ λr hr=>by rw[hr];exact BK (AB rfl)
  refine Dg (λ(t:Int×Dh)=>0<=t.1/\t.1<=i) (λt=>(i-t.1).toNat) ⟨Ag _,b.1⟩ ?_;rintro⟨t,z⟩ ⟨d,g⟩;dsimp only at d g;unfold TO;dsimp only;rw[gv,decide_eq_true (by omega),cond_true,mJ h a c hn,AE,cond_true,gw d (by omega),AE,show(fa (st (L.take k) t)).1=t from UO _ _];refine AV ?_ ?_<;>intro e
  ·rw[AE,e];exact Av.done rfl
  ·rw[AZ (by omega)];exact Av.next ⟨by dsimp only;omega,by dsimp only;omega⟩ (by dsimp only;omega)
 obtain⟨r,hr,rfl⟩:=f;unfold MY;dsimp only;rw[mJ h a c hn,AE,C3,cond_false,hr,AE];dsimp only;rw[C3,cond_false,show CZ ((fa (st (L.take k) i)).2.2,i)=some (st (L.take k) i,0)from nR h a ⟨b.1,by omega⟩];rfl
def AAO{x s:Int}{m j k:Nat}(I:LI b a)(n:Lf a)(A:AR a f)(q:jd a e)(g:j<=k)(J:k<=a.length)(R:(m:Int)=f.2.1)(hn:1<=m/\m<=64)(y:1<=x/\x<=1073741824):Av (MZ ((x,((m:Int),L3 (a.take j) m)),(f,(e,(s,(k:Int)))))) λr=>r.2=0->1<=s/\s<=1073741824/\r.1=(s,((m:Int),L3 (a.take k) m)):=by
 have B:=q.len;have w:=λp h=>Xo n (p:=p) h (by omega:a.length<=1099511627776);unfold MZ;rw[yz n o! y hn,AE,C3,cond_false];refine AA YT λS o=>AO (λd=>absurd (o.2 A.vb) (by simp[d])) (λ_=>?_);refine AA Bn λT E=>AO (λd=>absurd (E.2 q.vl) (by simp[d])) (λ_=>?_);dsimp only;refine AC (λ_=>AB n!) (λM=>AC (λ_=>AB n!) (λN=>AC (λ_=>AB n!) (λO=>AC (λ_=>AB n!) (λQ=>?_))));refine AA (P:=λr=>(∀u,r= .inl u->u.1≠0)/\ ∀u,r= .inr u->(u.1,(u.2.1,u.2.2.1))=(L3 (a.take k) m,(s,(m:Int)))) ?_ λr hr=>A8 (λu l=>AB λc=>absurd c (hr.1 u l)) (λu l=>AB λ_=>⟨o!,o!,?_⟩)
 ·refine Dg (λ(t:Int×List Dh×Int×Int×BN)=>0<=t.1/\t.1<=m/\ ∃z,t.2=(L3 (a.take k) t.1.toNat,(s,((m:Int),z)))) (λt=>((m:Int)-t.1).toNat) ⟨Ag _,d!,_,rfl⟩ ?_;rintro⟨i,t⟩ ⟨L,K,z,C⟩;dsimp only at L K C;subst C;unfold TR;dsimp only;rw[gv];refine AC (λd=>?_) (λd=>Av.done ⟨λu l=>(by cases l),λu l=>(by cases l;rw[show i.toNat=m by omega])⟩);have D:(fa (st (a.take j) i)).1=i:=UO _ _;rw[gw L d,AE,D,AFD n o! y hn ⟨L,d⟩,AE];refine AA (AAS I n A q g J ⟨L,o!⟩ o!) λU F=>AL (λd=>Av.done ⟨λu l=>(by cases l;exact d),λu l=>(by cases l)⟩) (λc=>?_);rw[F c];refine AA (P:=λv=>v=fa (st (a.take k) i)) ?_ λV G=>AA (Ac (by rw[Ld];simp;omega)) λW H=>?_;refine AC (λh=>?_) (λh=>AB ?_);rw[Z5 (w i ⟨L,o!⟩ k),AE];apply AB;unfold fa jP;rw[if_neg o!];rw[Pe]at h;have q1:=PR n i j k g;have q2:=Yj n i j;rw[jG n (j:=j) (k:=k) o!]
  ·rw[AZ];refine Av.next ⟨d!,d!,z,?_⟩ d!
   dsimp only;rw[H.1,G,show(i+1).toNat=i.toNat+1 by omega,qA,IH L]
 have:=hr.2 u l;dsimp only;have q1:=congrArg (·.1) this;have q2:=congrArg (·.2.1) this;have q3:=congrArg (·.2.2) this;dsimp only at q1 q2 q3;rw[q1,q2,q3]
def vD(c:Dh):BY:=Df c.1 2++c.2.2
def uk(cs:List Dh):BY:=cs.flatMap λc=>JS (vD c)
def ul(x:BN):BY:=[80,77,73,77]++(Df x.1 4++(Df x.2.1 2++Df (x.2.2.length:Int) 2))
def ms(x:BN):BY:=JS (ul x)++uk x.2.2
def uA(x:BN):(ul x).length=12:=by unfold ul;simp only[Ad,A0,By,Bs]
def pY(h:HO c):(jP c).length=256:=by unfold jP;split;unfold eu;rw[List.length_replicate];exact bD h
theorem yH{L:List EN}(h:Lf L)(e:L.length<=1099511627776){k n:Nat}(hn:n<=64){c:Dh}(d:c∈L3 (L.take k) n):(vD c).length=258:=by obtain⟨i,b⟩:=Fg.1 d;have a:=DU b;rw[Ld]at a;rw[uB a]at b;rw[<-Bg b];unfold vD fa;rw[Ad,A0,pY (Xo h ⟨by omega,by omega⟩ e k)]
def oe{a:List Dh}(h: ∀c∈a,(vD c).length=258):(uk a).length=266*a.length:=by
 induction a with
 |nil=>rfl
 |cons c a f=>
  have e:uk (c::a)=JS (vD c)++uk a:=by unfold uk;rw[List.flatMap_cons]
  rw[e,Ad,GI,h c k!,f λd b=>h d (by simp[b]),By];omega
def wT(h:Lf a)(o:a.length<=1099511627776){n k:Nat}(B:1<=b/\b<=1073741824)(hn:1<=n/\n<=64):IF (b,((n:Int),L3 (a.take k) n))=some (ms (b,((n:Int),L3 (a.take k) n)),0):=by
 suffices p:Av (IF (b,((n:Int),L3 (a.take k) n))) λr=>r=(ms (b,((n:Int),L3 (a.take k) n)),0) by obtain⟨r,hr,rfl⟩:=p;exact hr
 have e: ∀c∈L3 (a.take k) n,(vD c).length=258:=λc L=>yH h o hn.2 L;unfold IF;rw[mJ h o B hn,AE,C3,cond_false];refine AA (kh k! g!) λG j=>AA (kh (by rw[j];simp[A0]) g!) λH u=>AA (kh (by rw[u,j];simp[A0]) g!) λE z=>?_;have w:E=ul (b,((n:Int),L3 (a.take k) n)):=by rw[z,u,j];simp only[ul,len,Ay,Int.reduceToNat]
 rw[w,Z6 (by rw[uA];decide),AE];refine AA (P:=λr=>r=ms (b,((n:Int),L3 (a.take k) n))) ?_ λr hr=>AB (by rw[hr]);refine Dg (λ(t:BY×Int)=>0<=t.2/\t.2<=n/\t.1=JS (ul (b,((n:Int),L3 (a.take k) n)))++uk ((L3 (a.take k) n).take t.2.toNat)) (λt=>((n:Int)-t.2).toNat) ⟨Ag _,d!,by simp[uk]⟩ ?_;rintro⟨t,i⟩ ⟨f,C,v⟩;dsimp only at f C v;subst v;unfold RJ;dsimp only;rw[gv];refine AC (λL=>?_) (λL=>Av.done (by rw[BS (l:=L3 (a.take k) n) (by rw[Ld];omega)];rfl));have s:=uB (L:=a.take k) (n:=n) (i:=i.toNat) o!;rw[IH f]at s;rw[gw f L,AE,AE,AZ];have A:(uk ((L3 (a.take k) n).take i.toNat)).length<=17024:=by rw[oe λc L=>e c (Fh L),Ba,Ld];omega
 have d:=e _ (BM s);have m:(fa (st (a.take k) i)).2.2.length=256:=pY (Xo h ⟨f,o!⟩ o k);refine AA (kh k! g!) λI q=>AA (Cp (by rw[q,Cn,A0,m];decide)) λF y=>?_;have x:F=vD (fa (st (a.take k) i)):=by rw[y.1,q];rfl
 rw[x,Z6 (by rw[d];decide),AE];refine AA (Cp (by rw[Ad,GI,GI,uA,d];omega)) λD g=>Av.next ⟨d!,d!,?_⟩ d!
 dsimp only;rw[g.1,show(i+1).toNat=i.toNat+1 by omega,Dt,s,Ay];unfold uk;rw[Wi];simp only[cP,IJ,iU,Dr]
def yh{a t:BY}{n k:Int}(h:(a.length:Int)+t.length<=2199023255552)(b:1<=k)(d:k<=8)(e:k<=t.length)(g:t.take k.toNat=Df n k.toNat)(hn:0<=n)(f:n<256^k.toNat)(c:n<9223372036854775808):BR (a++t,((a.length:Int),k))=some n:=by unfold BR;rw[uW h b d e g hn f c];rfl
def wS(h:Lf a)(B:a.length<=1099511627776){n k:Nat}(N:1<=b/\b<=1073741824)(hn:1<=n/\n<=64):IE (ms (b,((n:Int),L3 (a.take k) n)))=some ((b,((n:Int),L3 (a.take k) n)),0):=by
 suffices E:Av (IE (ms (b,((n:Int),L3 (a.take k) n)))) λr=>r=((b,((n:Int),L3 (a.take k) n)),0) by obtain⟨r,hr,rfl⟩:=E;exact hr
 have f: ∀c∈L3 (a.take k) n,(vD c).length=258:=λc m=>yH h B hn.2 m;have u:(uk (L3 (a.take k) n)).length=266*n:=by rw[oe f,Ld]
 have L:=uA (b,((n:Int),L3 (a.take k) n));have D:(ms (b,((n:Int),L3 (a.take k) n))).length=20+266*n:=by unfold ms;rw[Ad,GI,L,u]
 have Y:BT (ms (b,((n:Int),L3 (a.take k) n)),0)=some (ul (b,((n:Int),L3 (a.take k) n)),(20,0)):=by have:=AGP (A:=[]) (p:=ul (b,((n:Int),L3 (a.take k) n))) (R:=uk (L3 (a.take k) n)) (by rw[L,u,Bs];omega) (by rw[L];decide);rw[L]at this;exact this
 unfold IE;rw[Y,AE];dsimp only;have y:ul (b,((n:Int),L3 (a.take k) n))=[80,77,73,77]++(Df b 4++(Df (n:Int) 2++Df (n:Int) 2)):=by unfold ul;dsimp only;rw[Ld]
 have S:BR (ul (b,((n:Int),L3 (a.take k) n)),(4,4))=some b:=by rw[y];exact yh (a:=[80,77,73,77]) (t:=Df b 4++(Df (n:Int) 2++Df (n:Int) 2)) (n:=b) (k:=4) (by simp only[Ad,A0];decide) g! g! (by simp only[Ad,A0];decide) (Gs (A0 _ _)) o! (by simp only[Int.reduceToNat];omega) o!
 have T:BR (ul (b,((n:Int),L3 (a.take k) n)),(8,2))=some (n:Int):=by rw[y,<-Ay];exact yh (a:=[80,77,73,77]++Df b 4) (t:=Df (n:Int) 2++Df (n:Int) 2) (n:=n) (k:=2) (by simp only[Ad,A0];decide) g! g! (by simp only[Ad,A0];decide) (Gs (A0 _ _)) o! (by simp only[Int.reduceToNat];omega) o!
 have U:BR (ul (b,((n:Int),L3 (a.take k) n)),(10,2))=some (n:Int):=by rw[y,<-Ay,<-Ay];exact yh (a:=[80,77,73,77]++Df b 4++Df (n:Int) 2) (t:=Df (n:Int) 2) (n:=n) (k:=2) (by simp only[Ad,A0];decide) g! g! (by simp only[A0];decide) (BS (by rw[A0];decide)) o! (by simp only[Int.reduceToNat];omega) o!
 obtain⟨Z,q1,W⟩:=Ch (s:=ul (b,((n:Int),L3 (a.take k) n))) (lo:=0) (hi:=4) g! g! (by rw[L];decide);have X:Z=[80,77,73,77]:=W.1.trans (by rw[y];rfl);rw[bne_self_eq_false,cond_false,show(len (ul (b,((n:Int),L3 (a.take k) n))) !=12)=false by unfold len;rw[L];rfl,cond_false,q1,Option.bind_some,X,bne_self_eq_false,cond_false,S,Option.bind_some,T,Option.bind_some,U,Option.bind_some,decide_eq_false o!,cond_false];refine AA (P:=λr=> ∃z,r= .inr (20+266*(n:Int),(L3 (a.take k) n,(b,((n:Int),z))))) ?_ λr hr=>?_
 ·refine Dg (λ(t:Int×Int×List Dh×Int×Int×BN)=>0<=t.2.1/\t.2.1<=n/\t.1=20+266*t.2.1/\ ∃z,t.2.2=((L3 (a.take k) n).take t.2.1.toNat,(b,((n:Int),z)))) (λt=>((n:Int)-t.2.1).toNat) ⟨Ag _,d!,d!,_,rfl⟩ ?_;rintro⟨I,i,t⟩ ⟨x,Q,j,z,G⟩;dsimp only at x Q j G;subst G j;unfold RI;dsimp only;refine AC (λm=>?_) (λm=>Av.done ⟨z,by rw[show i=n by omega,BS (l:=L3 (a.take k) n) (by rw[Ld];omega)]⟩);have d:=uB (L:=a.take k) (n:=n) (i:=i.toNat) o!;rw[IH x]at d;have e:=f _ (BM d);have g:L3 (a.take k) n=(L3 (a.take k) n).take i.toNat++(fa (st (a.take k) i)::(L3 (a.take k) n).drop (i.toNat+1)):=by
   have v:=DU d;conv=>lhs;rw[<-EP i.toNat (L3 (a.take k) n),So v]
   rw[At v]at d;rw[Bg d]
  have H:(JS (ul (b,((n:Int),L3 (a.take k) n)))++uk ((L3 (a.take k) n).take i.toNat)).length=20+266*i.toNat:=by rw[Ad,GI,L,oe λc m=>f c (Fh m),Ba,Ld];omega
  have lr:(uk ((L3 (a.take k) n).drop (i.toNat+1))).length<=17024:=by rw[oe λc m=>f c (OT m),GF,Ld];omega
  have M:ms (b,((n:Int),L3 (a.take k) n))=(JS (ul (b,((n:Int),L3 (a.take k) n)))++uk ((L3 (a.take k) n).take i.toNat))++(JS (vD (fa (st (a.take k) i)))++uk ((L3 (a.take k) n).drop (i.toNat+1))):=by
   conv=>lhs;unfold ms;dsimp only;arg 2;rw[g]
   unfold uk;rw[Wi,IJ,Ay]
  have O:BT (ms (b,((n:Int),L3 (a.take k) n)),20+266*i)=some (vD (fa (st (a.take k) i)),(20+266*(i+1),0)):=by have:=AGP (A:=JS (ul (b,((n:Int),L3 (a.take k) n)))++uk ((L3 (a.take k) n).take i.toNat)) (p:=vD (fa (st (a.take k) i))) (R:=uk ((L3 (a.take k) n).drop (i.toNat+1))) (by rw[H,e];omega) (by rw[e];decide);rw[<-M,H,e]at this;rw[show(20+266*i:Int)=((20+266*i.toNat:Nat):Int) by omega,this];refine congrArg (λw=>some (vD (fa (st (a.take k) i)),(w,(0:Int)))) ?_;omega
  have q:(jP (st (a.take k) i)).length=256:=pY (Xo h ⟨x,o!⟩ B k);have F:vD (fa (st (a.take k) i))=Df i 2++jP (st (a.take k) i):=by unfold vD fa;rw[UO]
  have V:BR (vD (fa (st (a.take k) i)),(0,2))=some i:=by rw[F];exact yh (a:=[]) (t:=Df i 2++jP (st (a.take k) i)) (n:=i) (k:=2) (by rw[Ad,A0,q];decide) g! g! (by rw[Ad,A0,q];decide) (Gs (A0 _ _)) x (by simp only[Int.reduceToNat];omega) o!
  obtain⟨w1,J,K⟩:=Ch (s:=vD (fa (st (a.take k) i))) (lo:=2) (hi:=258) g! g! (by rw[e];decide);have w2:w1=jP (st (a.take k) i):=by rw[K.1,F];show List.take 256 (List.drop 2 (Df i 2++jP (st (a.take k) i)))=_;rw[iR (A0 _ _),BS o!]
  have o:len (vD (fa (st (a.take k) i)))=258:=by unfold len;rw[e];rfl
  rw[O,AE];dsimp only;rw[bne_self_eq_false,cond_false,o,bne_self_eq_false,cond_false,J,AE,V,AE,w2,nR h B ⟨x,o!⟩,AE];refine AA (Ac (by rw[Ba,Ld];simp;omega)) λad C=>?_;rw[AZ];refine Av.next ⟨d!,d!,rfl,z,?_⟩ d!
  dsimp only;rw[C.1,show(i+1).toNat=i.toNat+1 by omega,Dt,d];unfold fa;rw[UO];rfl
 obtain⟨z,rfl⟩:=hr;apply A5;dsimp only;rw[show((20+266*(n:Int)) !=len (ms (b,((n:Int),L3 (a.take k) n))))=false by unfold len;rw[D];simp,cond_false,mJ h B N hn,Option.bind_some,Bool.not_true,cond_false];exact AB rfl
def PI(L:List EN)(d:Int)(m:Nat)(x:BN):Prop:= ∃j:Nat,(j:Int)<=d/\1<=x.1/\x.1<=1073741824/\x=(x.1,((m:Int),L3 (L.take j) m))
def FI(L:List EN)(d:Int)(m:Nat)(f:BJ):Prop:= ∃x,PI L d m x/\f.2.2=ms x
def AAL(h:Lf a)(c:a.length<=1099511627776)(hn:1<=d/\d<=64){x:BN}(m:PI a b d x):Av (J8 x) λf=>FI a b d f:=by obtain⟨j,i,e,g,L⟩:=id m;have:=wT h c (k:=j) ⟨e,g⟩ hn;rw[<-L]at this;unfold J8;rw[this,AE];exact AB ⟨x,m,rfl⟩
def AAM{L:List EN}{l:Aa}{m:Nat}(V:CX l)(U:LI b L)(v:Lf L)(T:AR L f)(D:jd L e)(C:0<=e.2.2/\e.2.2<=L.length)(X:(m:Int)=f.2.1)(hn:1<=m/\m<=64):Av (LA l ((m:Int),(f,e))) λr=>CX r.2/\r.1.length<=8/\ ∀a∈r.1,FI L e.2.2 m a:=by
 have E:=D.len;have p0:PI L e.2.2 m (1,((m:Int),L3 [] m)):=⟨0,C.1,d!,d!,rfl⟩
 unfold LA;rw[qP hn.2,AE];refine AA (Au V g!) λv1 N=>?_;obtain⟨K,_,_⟩:=N;refine AA (P:=λu=>u.length<=1/\ ∀a∈u,FI L e.2.2 m a) ?_ λv3 A=>?_;refine AC (λ_=>AA (AAL v o! hn p0) λa n=>AB ⟨k!,λg p=>?_⟩) (λ_=>AB ⟨k!,λg p=>by simp at p⟩);rw[Cn,BA]at p;rw[p];exact n
 ·refine AA (P:=λr=>CX r.2.1/\r.1.length<=8/\ ∀a∈r.1,FI L e.2.2 m a) ?_ λr hr=>AB hr;refine Dg (λ(s:Int×Int×List BJ×Aa×BN)=>0<=s.1/\s.1<=e.2.2/\2<=s.2.1/\s.2.1<=4/\s.2.2.1.length<=s.2.1/\(∀a∈s.2.2.1,FI L e.2.2 m a)/\CX s.2.2.2.1/\1<=s.2.2.2.2.1/\s.2.2.2.2.1<=1073741824/\s.2.2.2.2=(s.2.2.2.2.1,((m:Int),L3 (L.take s.1.toNat) m))) (λs=>(4-s.2.1).toNat) ⟨Ag _,C.1,d!,d!,by have:=A.1;dsimp only;omega,A.2,K,d!,d!,rfl⟩ ?_;rintro⟨t,i,u,c,x⟩ ⟨t0,t1,i0,i1,M,o,z,F,G,H⟩;dsimp only at t0 t1 i0 i1 M o z F G H;unfold Rl;dsimp only;refine AA (Au z g!) λv5 O=>?_;obtain⟨w,m5,n5⟩:=O;rw[AZ (x:=2+v5.1)];refine AC (λhc=>?_) (λ_=>Av.done ⟨w,d!,o⟩);rw[AZ (x:=e.2.2-t),AZ (x:=e.2.2-t+1)];refine AA (Au w o!) λh Q=>?_;obtain⟨y,m6,n6⟩:=Q;rw[AZ (x:=t+h.1),H];have W:t+h.1=(((t+h.1).toNat:Nat):Int):=o!
  rw[W];refine AA (AAO (s:=i) U v T D (j:=t.toNat) (k:=(t+h.1).toNat) o! o! X hn ⟨F,G⟩) λv7 R=>AL (λ_=>Av.done ⟨y,d!,o⟩) (λZ=>?_);obtain⟨I,J,d⟩:=R Z;have Y:PI L e.2.2 m v7.1:=⟨(t+h.1).toNat,o!,by rw[d];exact I,by rw[d];exact J,by rw[d]⟩
  refine AA (AAL v o! hn Y) λv8 S=>AA (Ac w!) λv9 B=>?_;rw[AZ (x:=i+1)];refine Av.next ⟨d!,d!,d!,d!,by have:=B.2.1;simp only[aH]at this;dsimp only;omega,λa n=>?_,y,by dsimp only;rw[d];exact I,by dsimp only;rw[d];exact J,by dsimp only;rw[d,Dk]⟩ d!
  dsimp only at n;rw[B.1]at n;rcases An.1 n with q|q;exact o a q;rw[BA.1 q];exact S
def Lf.nil:Lf []:=λi e h=>by simp at h
theorem vC{L:List EN}{a:AK}{l:Ah}{k:Nat}(b:l.1=1)(d:k<=l.2.1.length):Cov a l k:=λm f g p e c _=>.inl ⟨by omega,by omega⟩
def AAn{l:List Int}(h: ∀c∈l,0≤c∧c<256):Av (bif (decide ((len l)>500))then
    Option.bind (cH l 0 500) λd=>
    some d
   else
   some l) λr=>CX (r,0):=by
 refine AC (λa=>?_) (λa=>AB ⟨Ag _,by simp only[len]at a;dsimp only;omega,h⟩);simp only[len]at a;refine AA (B5) λd e=>AB ⟨Ag _,d!,λc b=>?_⟩;dsimp only at b;rw[e.1]at b;exact h c (OT (Fh b))
def ACW:Ii ()=some true:=by
 suffices f:Av (Ii ()) λr=>r=true by obtain⟨r,hr,rfl⟩:=f;exact hr
 have a:D8 ((1,([],0)):Ah):=⟨g!,g!,g!,g!,g!,λi e h=>by simp at h⟩
 have hn:Gv ()=some (1,([],0)):=rfl;unfold Ii;rw[show FY (1,2)=_ from qP (m:=2) g!,AE,hn,AE];refine AA (oz (x:=(2,(1,([],0)))) ⟨g!,g!,λx h=>by simp at h⟩ ⟨g!,g!⟩ a) λl c=>?_;obtain⟨_,b,_,_,_,g,_⟩:=c;rw[AE];have d:=AAP (s0:=1) (s:=2) (m:=2) (j:=0) (k:=0) (L:=[]) (LI.nil 0) Lf.nil b (Vs a) (vC (L:=[]) rfl (B8 _)) (Ai _) (Ai _) g! g.symm g! g! g!;rw[show HG ((1,(((2:Nat):Int),L3 [] 2)),(l.1,((1,([],0)),(2,0))))=_ from d,AE];exact AB rfl
theorem wV{L:List EN}(h:Lf L)(J:L.length<=1099511627776){d:Int}{m:Nat}(hn:1<=m/\m<=64){a:List BJ}(h8:a.length<=8)(T: ∀f∈a,FI L d m f):Av (Oe a) λr=>r.length<=8/\ ∀x∈r,PI L d m x:=by
 refine AA (P:=λr=>r.length<=8/\ ∀x∈r,PI L d m x) (AA (P:=λr=>r.length<=8/\ ∀x∈r,PI L d m x) ?_ λr hr=>AB hr) λr hr=>AB hr;refine Dg (λ(s:List BN×Int)=>0<=s.2/\s.2<=a.length/\s.1.length<=s.2/\ ∀x∈s.1,PI L d m x) (λs=>((a.length:Int)-s.2).toNat) ⟨Ag _,by dsimp only;omega,by simp,λx B=>by simp at B⟩ ?_;rintro⟨A,k⟩ ⟨w,U,V,z⟩;dsimp only at w U V z;unfold RK;dsimp only[len];refine AC (λl=>?_) (λl=>Av.done ⟨by omega,z⟩);rw[AZ (x:=k+1) (by omega)];have e:Av (some (Step.next (A,k+1)):Option (Step (List BN×Int) (List BN))) (Sj (λ(s:List BN×Int)=>0<=s.2/\s.2<=a.length/\s.1.length<=s.2/\ ∀x∈s.1,PI L d m x) (λs=>((a.length:Int)-s.2).toNat) ((a.length:Int)-k).toNat λr=>r.length<=8/\ ∀x∈r,PI L d m x):=Av.next ⟨by dsimp only;omega,by dsimp only;omega,by dsimp only;omega,z⟩ (by dsimp only;omega)
 refine AA (AI w l) λv1 h1=>AA (P:=λ_=>True) ?_ λv6 _=>AO (λ_=>e) (λ_=>?_)
 ·refine Dg (λ(t:Bool×Int)=>0<=t.2/\t.2<=k) (λt=>(k-t.2).toNat) ⟨Ag _,by dsimp only;omega⟩ ?_;rintro⟨b,t⟩ ⟨n,C⟩;dsimp only at n C;unfold RM;dsimp only;refine AC (λE=>?_) (λ_=>Av.done trivial);rw[AZ (by omega)];refine AJ (λ_=>AA (AI n (by omega)) λv3 _=>AL (λ_=>Av.next ⟨by dsimp only;omega,by dsimp only;omega⟩ (by dsimp only;omega)) (λ_=>AA (AI n (by omega)) λv4 _=>AA (AI w l) λv5 _=>Av.next ⟨by dsimp only;omega,by dsimp only;omega⟩ (by dsimp only;omega))) (λ_=>Av.next ⟨by dsimp only;omega,by dsimp only;omega⟩ (by dsimp only;omega))
 ·refine AA (AI w l) λv7 Q=>?_;obtain⟨x,B,S⟩:=T v7 Q.2;obtain⟨j,j1,M,N,O⟩:=id B;have c:=wS h J (k:=j) ⟨M,N⟩ hn;rw[<-O]at c;rw[S,c,AE];refine AL (λl=>absurd rfl l) (λ_=>?_);have K:=yz h J (k:=j) ⟨M,N⟩ hn;rw[<-O]at K;dsimp only;rw[K,AE,C3,cond_false];refine AA (AI w l) λY _=>AL (λ_=>e) (λ_=>?_);refine AA (P:=λr:Int=>0<=r/\r<=A.length) ?_ λad g=>?_
  ·refine Dg (λ(t:Int)=>0<=t/\t<=A.length) (λt=>t.toNat) ⟨by omega,by omega⟩ (λt R=>?_);obtain⟨n,C⟩:=R;unfold RN;refine AC (λE=>?_) (λ_=>Av.done ⟨n,C⟩);rw[AZ (by omega)];exact AA (AI (by omega) (by dsimp only;omega)) λZ _=>AC (λ_=>Av.next ⟨by omega,by omega⟩ (by omega)) (λ_=>Av.done ⟨n,C⟩)
  ·refine AA (B5 (Ag _) g.1 g.2) λG p=>AA (B5 g.1 (by omega) (by omega)) λH u=>?_;have W:=p.2;have X:=u.2;refine AA (Ac (by simp;omega)) λal i=>AA (Ac (by rw[i.1];simp;omega)) λao v=>AA (Ac (by rw[v.1,i.1];simp;omega)) λI D=>?_;have o:I=G++[x]++H:=by rw[D.1,v.1,i.1];rfl
   refine Av.next ⟨by dsimp only;omega,by dsimp only;omega,by dsimp only;rw[o];simp only[Ad,aH];omega,λy F=>?_⟩ (by dsimp only;omega)
   dsimp only at F;rw[o,p.1,u.1]at F;rcases An.1 F with q|q;rcases An.1 q with q|q;exact z y (OT (Fh q));rw[BA.1 q];exact B;exact z y (OT (Fh q))
theorem rC{x:List Int}(h: ∀c∈x,0<=c/\c<256):Av (KH x) λr=>r=true:=by
 unfold KH;rw[ACW,AE,C3,cond_false];refine AA (AAn h) λv2 d=>?_;refine AA ((gg d (x:=25) (by omega)).and (wX d (x:=25) (by omega))) λa C=>?_;obtain⟨⟨c0,J,Y,e,n,u⟩,W,p⟩:=C;refine AA (oz (x:=(a.1,a.2.1)) c0 ⟨J,by dsimp only;omega⟩ e) λv D=>?_;obtain⟨y,f,R,S,T,K,V⟩:=D;dsimp only at f K;have t:=e.2.2.1;have i:=e.num p;have z:a.2.1.2.2=a.2.1.2.1.length:=by omega
 obtain⟨m,H⟩:=FF (show 0<=a.1 by omega);rw[H];refine AA (AAM y u i f (Vs e) ⟨by omega,by omega⟩ (by omega) ⟨by omega,by omega⟩) λv5 E=>?_;obtain⟨U,A,B⟩:=E;refine AA (wV i (by omega) ⟨by omega,by omega⟩ A B) λw q=>?_;rw[qP (by omega),AE];have mk: ∀{b:Int} {j:Nat},(j:Int)<=a.2.1.2.2->1<=b/\b<=1073741824->HG ((b,((m:Int),L3 (a.2.1.2.1.take j) m)),(v.1,(a.2.1,(9,a.2.1.2.2))))=some ((9,((m:Int),L3 (a.2.1.2.1.take a.2.1.2.1.length) m)),0):=λ{b j} X l=>by have:=AAP (s0:=b) (s:=9) (m:=m) (j:=j) (k:=a.2.1.2.1.length) u i f (Vs e) (vC (L:=[]) p (Ai _)) (by omega) (Ai _) (by omega) (by omega) ⟨by omega,by omega⟩ l (by decide);rw[z];exact this
 rw[show HG ((1,((m:Int),L3 [] m)),(v.1,(a.2.1,(9,a.2.1.2.2))))=_ from mk (j:=0) (by omega) (by decide),AE];refine AA (P:=λr=>r= .inr ()) ?_ λr hr=>by rw[hr];exact A5 (AB rfl)
 refine Dg (λ(s:Int)=>0<=s/\s<=w.length) (λs=>((w.length:Int)-s).toNat) ⟨Ag _,by omega⟩ (λs F=>?_);obtain⟨M,Z⟩:=F;unfold Nn;dsimp only[len];refine AC (λG=>?_) (λ_=>Av.done rfl);refine AA (AI M G) λo g=>?_;obtain⟨j,I,N,O,Q⟩:=q.2 o g.2;rw[Q,mk I ⟨N,O⟩,AE];dsimp only;rw[bne_self_eq_false,cond_false,AFR _ (by rw[Ld];omega),AE,C3,cond_false,AZ (by have:=q.1;omega)];exact Av.next ⟨by omega,by omega⟩ (by omega)
end Go.Pm
namespace Go.Proofs.YtimajmppopkomaaGreat
open Go.RowKit Go.Ab Go.Pm
def yB: ∃j,Tryz.prog.info? 199=some j/\j.size=2:=by
 have h:(Tryz.prog.info? 199).map (·.size)=some 2:=by kernel_rfl
 exact Wy.1 h
def ACb:liesAt Tryz.prog Tryz.prog.depth 199 (2/Tryz.prog.cellsOf 199) 0 199 1=true:=by kernel_rfl
set_option maxHeartbeats 1000000 in
set_option maxRecDepth 100000 in
def rE(b:Nat)(w:World)(d:w.cell? ⟨b,0,none⟩=some (.pointer (some ⟨b,0,none⟩))):
  Calls Tryz.prog 168 #[.pointer (some ⟨b,0,none⟩)] w λe c=>e= .returned (.tuple #[])/\c=w:=by
 obtain⟨j,a,_⟩:=yB;go_enter Tryz.func168,Tryz.ntmps168;go_wp2;rw[Lib.run_neq_ptr_same w _ Tryz.underlying197 a];go_wp2;go_end0;exact⟨rfl,rfl⟩
set_option maxHeartbeats 1000000 in
set_option maxRecDepth 100000 in
def gC(b:Nat)(w:World)(h:w.cell? ⟨b,0,none⟩=some (.pointer none))(a:w.shape? b=some (199,2))(f:w.frozen? ⟨b,0,none⟩=false):
  Calls Tryz.prog 168 #[.pointer (some ⟨b,0,none⟩)] w λe g=>e= .returned (.tuple #[])/\g=w.setCell ⟨b,0,none⟩ (.pointer (some ⟨b,0,none⟩)):=by
 obtain⟨j,d,c⟩:=yB;go_enter Tryz.func168,Tryz.ntmps168;go_wp2;rw[Lib.run_to_unsafe w ⟨b,0,none⟩ Tryz.underlying197 Tryz.underlying294 d (by rw[c];decide) a (Nat.zero_lt_succ 1)];simp only[Result.andThen];rw[Oper.upon_value];go_wp2;rw[run_callFunc_extern Tryz.func207 (by kernel_rfl) (by kernel_rfl) (by kernel_rfl) (e:=Extern.AbiNoEscape.same) (by kernel_rfl)];rw[Lib.run_noEscape];simp only[Result.andThen];rw[Oper.upon_value];go_wp2;rw[Lib.run_from_unsafe w ⟨b,0,none⟩ Tryz.underlying294 Tryz.underlying197 d a ACb];simp only[Result.andThen];rw[Oper.upon_value];go_wp2;go_end0;exact⟨rfl,rfl⟩
def uz(B b:Nat)(bs:List Value)(w:World)(h:Lib.IsBuilderF 199 5 B b bs w):
  Calls Tryz.prog 168 #[.pointer (some ⟨b,0,none⟩)] w λe a=>e= .returned (.tuple #[])/\Lib.BuilderAtF 199 5 B b (.pointer (some ⟨b,0,none⟩)) bs a/\Below B w a:=by
 rcases h with h|h;apply (gC b w h.cell0 h.shape h.frozen0).mono;rintro e a ⟨rfl,rfl⟩;exact⟨rfl,h.used _,(Below.refl B w).setCell (p:=⟨b,0,none⟩) h.1 _⟩;apply (rE b w h.cell0).mono;rintro e a ⟨rfl,rfl⟩;exact⟨rfl,h,Below.refl B _⟩
def yA: ∃i,Tryz.prog.info? 5=some i/\i.zero=some (.int .u8 0)/\i.size=1/\i.bytes=1:=by
 have h:(Tryz.prog.info? 5).map (λi=>(i.zero,i.size,i.bytes))=some (some (.int .u8 0),1,1):=by kernel_rfl
 obtain⟨i,b,a⟩:=Wy.1 h;simp only[D6]at a;exact⟨i,b,a.1,a.2.1,a.2.2⟩
variable {d i:Nat}
def pM{p:Value}{bs:List Value}{w:World}(h:Lib.BuilderAtF 199 5 d i p bs w): ∃v,w.heap[i]? =some (.cells #[p,v] 199 (0,0))/\w.cell? ⟨i,1,none⟩=some v/\w.ownsRowF d 5 1 v bs.length bs/\v.ownBlock≠some i:=by obtain⟨e,v,a,c,B⟩:=h;exact⟨v,a,by rw[Lib.cell_of_heap a];rfl,c,B⟩
set_option maxHeartbeats 1000000 in
set_option maxRecDepth 100000 in
def AEf(B b:Nat)(bs:List Value)(w:World)(h:Lib.IsBuilderF 199 5 B b bs w):
  Calls Tryz.prog 130 #[.pointer (some ⟨b,0,none⟩)] w λe l=>e= .returned (.int .i64 bs.length)/\l=w:=by
 obtain⟨p,j⟩: ∃p,Lib.BuilderAtF 199 5 B b p bs w:=h.elim (λh=>⟨_,h⟩) (λh=>⟨_,h⟩);obtain⟨v,k,m,a,_⟩:=pM j;obtain⟨d,cap,rfl⟩: ∃d cap,v= .slice d bs.length cap:=by rcases a.2 with⟨c,i⟩|⟨g,cap,f,n,c,_⟩;exact⟨none,0,by rw[c,i]⟩;exact⟨_,_,c⟩
 go_enter Tryz.func130,Tryz.ntmps130
 go_wp2
 go_ret
 exact⟨rfl,rfl⟩
set_option maxHeartbeats 2000000 in
set_option maxRecDepth 100000 in
def tM(B b:Nat)(bs:List Value)(c:Int)(w:World)(h:Lib.IsBuilderF 199 5 B b bs w)(C:bs.length+1≤140737488355328)(H:B≤w.heap.size):
  Calls Tryz.prog 125 #[.pointer (some ⟨b,0,none⟩),.int .u8 c] w λe E=>e= .returned .nilIface/\Lib.BuilderAtF 199 5 B b (.pointer (some ⟨b,0,none⟩)) (bs++[.int .u8 c]) E/\Below B w E:=by
 obtain⟨M,I,t,x,y⟩:=yA;go_enter Tryz.func125,Tryz.ntmps125;go_wp2_with (go_at_call 168;apply (uz B b bs _ h).mono)
 rintro e F ⟨rfl,m,l⟩;have A:=m.1;have r:=m.lt;have c0:=m.cell0;obtain⟨v,q,z,i,s⟩:=pM m;have K:=l.size;go_wp2_with (at_builtin;apply wpList_append_ownF _ rfl _ _ 22 rfl B 5 M (.int .u8 0) 1 1 Tryz.underlying22 I t x y rfl g! _ _ _ rfl (i.alloc _) ⟨F.heap.size,0,none⟩ 1 1 [.int .u8 c] rfl rfl ?z ?c2 ?c3 ?c4 ?c5)
 case z=>
  intro j u n;match j,n with
  |0,n=>simp at n;subst n;simp[Addr.add]
 case c2=>intro u D;simp at D;subst D;rfl
 case c3=>unfold maxLen;omega
 case c4=>omega
 case c5=>simp;omega
 intro N o d a _;have f:o.heap[b]? =some (.cells #[.pointer (some ⟨b,0,none⟩),v] 199 (0,0)):=by rw[a.block b w! (λe=>s e.symm),Lib.alloc_old F _ b r];exact q
 have O:o.cell? ⟨b,0,none⟩=some (.pointer (some ⟨b,0,none⟩)):=by rw[Lib.cell_of_heap f];rfl
 have P:o.cell? ⟨b,1,none⟩=some v:=by rw[Lib.cell_of_heap f];rfl
 have Q:o.frozen? ⟨b,1,none⟩=false:=Lib.frozen_of_heap f 1;obtain⟨g,cap,rfl⟩: ∃g cap,N= .slice (some ⟨g,0,none⟩) (bs.length+1) cap:=by rcases d.2 with⟨_,S⟩|⟨g,cap,G,R,L,_⟩;omega;exact⟨g,cap,L⟩
 go_wp2
 go_ret
 refine⟨rfl,?_,?_⟩;exact Lib.BuilderAtF.put (T:=199) (e:=5) A f (bs':=bs++[.int .u8 c]) (by simpa using d) g!;exact((l.alloc o! _).grown a w! (λk J=>(i.lt k J).1)).setCell (p:=⟨b,1,none⟩) A _
set_option maxHeartbeats 2000000 in
set_option maxRecDepth 100000 in
def W7(B b:Nat)(bs:List Value)(s:ByteArray)(w:World)(h:Lib.IsBuilderF 199 5 B b bs w)(z:bs.length+s.size≤140737488355328)(E:B≤w.heap.size):
  Calls Tryz.prog 124 #[.pointer (some ⟨b,0,none⟩),.string s] w λe C=>e= .returned (.tuple #[.int .i64 s.size,.nilIface])/\Lib.BuilderAtF 199 5 B b (.pointer (some ⟨b,0,none⟩)) (bs++Lib.strCells s) C/\Below B w C:=by
 obtain⟨I,F,r,t,u⟩:=yA;go_enter Tryz.func124,Tryz.ntmps124;go_wp2_with (go_at_call 168;apply (uz B b bs _ h).mono)
 rintro e P ⟨rfl,j,i⟩;have y:=j.1;have n:=j.lt;have c0:=j.cell0;obtain⟨v,m,K,f,o⟩:=pM j;have H:=i.size;go_wp2_with (at_builtin;apply Lib.wpList_append_own_stringF _ rfl _ _ 22 9 rfl B 5 I Tryz.underlying22 Tryz.underlying9 F r t u _ _ _ rfl f s rfl ?c3 ?c4 ?c5)
 case c3=>unfold maxLen;omega
 case c4=>omega
 case c5=>omega
 intro J l c a _;have d:l.heap[b]? =some (.cells #[.pointer (some ⟨b,0,none⟩),v] 199 (0,0)):=by rw[a.block b n (λe=>o e.symm)];exact m
 have L:l.cell? ⟨b,0,none⟩=some (.pointer (some ⟨b,0,none⟩)):=by rw[Lib.cell_of_heap d];rfl
 have M:l.cell? ⟨b,1,none⟩=some v:=by rw[Lib.cell_of_heap d];rfl
 have N:l.frozen? ⟨b,1,none⟩=false:=Lib.frozen_of_heap d 1;obtain⟨x,A,cap,rfl⟩: ∃x A cap,J= .slice x A cap:=by rcases c.2 with⟨q,_⟩|⟨g,cap,D,O,q,_⟩;exact⟨_,_,_,q⟩;exact⟨_,_,_,q⟩
 go_wp2
 go_ret2
 refine⟨rfl,?_,?_⟩;exact Lib.BuilderAtF.put (T:=199) (e:=5) y d (bs':=bs++Lib.strCells s) (by simpa[Lib.strCells_length]using c) g!;exact(i.grown a o! (λk G=>(f.lt k G).1)).setCell (p:=⟨b,1,none⟩) y _
set_option maxHeartbeats 1000000 in
set_option maxRecDepth 100000 in
def sB(B b:Nat)(l:List UInt8)(w:World)(h:Lib.IsBuilderF 199 5 B b (Lib.byteCells l) w)(y:l≠ []):
  Calls Tryz.prog 126 #[.pointer (some ⟨b,0,none⟩)] w λe z=>e= .returned (.string ⟨l.toArray⟩)/\Lib.IsBuilderF 199 5 B b (Lib.byteCells l) z/\Below B w z:=by
 obtain⟨p,K,k⟩: ∃p,(p= .pointer none\/p= .pointer (some ⟨b,0,none⟩))/\Lib.BuilderAtF 199 5 B b p (Lib.byteCells l) w:=h.elim (λh=>⟨_,.inl rfl,h⟩) (λh=>⟨_,.inr rfl,h⟩);obtain⟨D,v,i,c,t⟩:=k;have s:l.length≠0:=by simpa using y
 rw[Lib.byteCells_length]at c;obtain⟨g,cap,a,f,rfl,n,I,H,J,o,G,u⟩: ∃g cap a f,v= .slice (some ⟨g,0,none⟩) l.length cap/\B<=g/\w.heap[g]? =some (.cells a 5 f)/\f.2<=l.length*1/\l.length<=cap/\cap<=maxLen/\a.size=cap*1/\a.toList.take (l.length*1)=Lib.byteCells l:=by rcases c.2 with⟨_,N⟩|⟨g,cap,a,f,L,r⟩;exact absurd N s;exact⟨g,cap,a,f,L,r⟩
 have A:w.drew.cell? ⟨b,1,none⟩=some (.slice (some ⟨g,0,none⟩) l.length cap):=by have:w.drew.heap[b]? =some (.cells #[p,.slice (some ⟨g,0,none⟩) l.length cap] 199 (0,0)):=i;rw[Lib.cell_of_heap this];rfl
 have E:(Builtin.unsafeSliceData_ #[22] 250 #[.slice (some ⟨g,0,none⟩) l.length cap]).run Tryz.prog w.drew= .ok (.pointer (some ⟨g,0,none⟩)) w.drew:=Lib.run_unsafeSliceData_row _ _ _ _ _ _ o!;have F:(Builtin.unsafeString_ #[250,3] 9 #[.pointer (some ⟨g,0,none⟩),.int .i64 l.length]).run Tryz.prog w.drew= .ok (.string ⟨l.toArray⟩) (w.drew.freeze ⟨g,0,none⟩ l.length):=by apply Lib.run_unsafeString_row w.drew 250 3 9 5 Tryz.underlying250 (by kernel_rfl) g a.size (by have q:w.drew.heap[g]? =some (.cells a 5 f):=I;simp[World.shape?,q]) l y o! (by unfold maxLen at o;omega);intro j x M;exact c.cells (g:=g) rfl j (.int .u8 x.toNat) (by simp[Lib.byteCells,M])
 have d:Lib.IsBuilderF 199 5 B b (Lib.byteCells l) (w.drew.freeze ⟨g,0,none⟩ l.length):=by
  have C:Lib.BuilderAtF 199 5 B b p (Lib.byteCells l) w.drew:=⟨D,_,i,by rw[Lib.byteCells_length];exact c,t⟩
  have m:=C.froze (g:=g) (cap:=cap) (by rw[Lib.byteCells_length];exact A);rw[Lib.byteCells_length]at m;rcases K with rfl|rfl;exact .inl m;exact .inr m
 go_enter Tryz.func126,Tryz.ntmps126
 go_wp2
 go_region
 all_goals (go_wp2;go_ret;exact⟨rfl,d,Lib.below_freeze (Below.drew (Below.refl B w)) (p:=⟨g,0,none⟩) n _⟩)
set_option maxHeartbeats 2000000 in
set_option maxRecDepth 1000000 in
def AAi(B b n:Nat)(w:World)(p:B≤b)(a:w.heap[b]? =some (.cells #[.pointer (some ⟨b,0,none⟩),.slice none 0 0] 199 (0,0)))(j:B≤w.heap.size)(hn:n≤281474976710656):
  Calls Tryz.prog 172 #[.pointer (some ⟨b,0,none⟩),.int .i64 n] w λe o=>e= .returned (.tuple #[])/\Lib.BuilderAt 199 5 B b (.pointer (some ⟨b,0,none⟩)) [] o/\Below B w o:=by
 obtain⟨c,h,q,g⟩:=Lib.run_makeNoZero (P:=Tryz.prog) w.drew #[3] 22 5 Tryz.underlying22 n hn;have m:IntKind.i64.wrap (IntKind.i64.wrap 0+(n:Int))=n:=by rw[IntKind.wrap_i64,IntKind.wrap_i64];omega
 have k:(callFunc 208 #[.int .i64 (IntKind.i64.wrap (IntKind.i64.wrap 0+(n:Int)))]).run Tryz.prog w.drew= .ok (.value (.slice (some ⟨w.drew.heap.size,0,none⟩) n c.size)) (w.drew.drew.drew.alloc (.cells c 5)):=by rw[m,run_callFunc_extern Tryz.func208 (by kernel_rfl) (by kernel_rfl) (by kernel_rfl) (e:=Extern.BytealgMakeNoZero.makeNoZero #[3] #[22]) (by kernel_rfl),h];rfl
 have f:b<w.heap.size:=by rcases Aq b w.heap.size with i|i;exact i;simp[pH i]at a
 have r:w.drew.cell? ⟨b,1,none⟩=some (.slice none 0 0):=by have:w.drew.heap[b]? =_:=a;rw[Lib.cell_of_heap this];rfl
 have s:(w.alloc (.cells c 5)).cell? ⟨b,1,none⟩=some (.slice none 0 0):=by have:(w.alloc (.cells c 5)).heap[b]? =_:=(Lib.alloc_old w _ b f).trans a;rw[Lib.cell_of_heap this];rfl
 have t:(w.alloc (.cells c 5)).frozen? ⟨b,1,none⟩=false:=Lib.frozen_of_heap ((Lib.alloc_old w _ b f).trans a) 1;have l: ∀W:World,(Builtin.copy_ #[22,22] 3 #[.slice (some ⟨w.heap.size,0,none⟩) 0 c.size,.slice none 0 0]).run Tryz.prog W= .ok (goInt 0) W:=λW=>run_copy_none W 22 22 3 5 _ _ 0 c.size 0 0 Tryz.underlying22 (by kernel_rfl) rfl;clear m;have d:=Lib.grown_fresh (T:=199) (e:=5) (cs:=c) p a j (g (by unfold maxLen;omega)) g!;rw[World.setCell_alloc_past _ _ _ _ f]at d;go_enter Tryz.func172,Tryz.ntmps172;go_wp2;go_region;all_goals (go_wp2;go_end0;exact⟨rfl,d⟩)
set_option maxHeartbeats 2000000 in
set_option maxRecDepth 1000000 in
def ACa(B b n:Nat)(w:World)(g:B≤b)(c:w.heap[b]? =some (.cells #[.pointer none,.slice none 0 0] 199 (0,0)))(h:B≤w.heap.size)(hn:n≤281474976710656):
  Calls Tryz.prog 129 #[.pointer (some ⟨b,0,none⟩),.int .i64 n] w λe f=>e= .returned (.tuple #[])/\Lib.BuilderAt 199 5 B b (.pointer (some ⟨b,0,none⟩)) [] f/\Below B w f:=by
 have a:(w.setCell ⟨b,0,none⟩ (.pointer (some ⟨b,0,none⟩))).heap[b]? =some (.cells #[.pointer (some ⟨b,0,none⟩),.slice none 0 0] 199 (0,0)):=by simp[World.setCell,pI,c]
 have i:(w.setCell ⟨b,0,none⟩ (.pointer (some ⟨b,0,none⟩))).cell? ⟨b,1,none⟩=some (.slice none 0 0):=by rw[Lib.cell_of_heap a];rfl
 have d:Below B w (w.setCell ⟨b,0,none⟩ (.pointer (some ⟨b,0,none⟩))):=(Below.refl B w).setCell (p:=⟨b,0,none⟩) g _;have m:Lib.BuilderAt 199 5 B b (.pointer (some ⟨b,0,none⟩)) [] (w.setCell ⟨b,0,none⟩ (.pointer (some ⟨b,0,none⟩))):=⟨g,.slice none 0 0,a,World.ownsRow_nil _ _ _ _,by simp[Value.ownBlock]⟩
 have j:(w.setCell ⟨b,0,none⟩ (.pointer (some ⟨b,0,none⟩))).drew.cell? ⟨b,1,none⟩=some (.slice none 0 0):=i;go_enter Tryz.func129,Tryz.ntmps129;go_wp2_with (go_at_call 168;apply (gC b w (by rw[Lib.cell_of_heap c];rfl) (by simp[World.shape?,c]) (Lib.frozen_of_heap c 0)).mono;rintro e f ⟨rfl,rfl⟩)
 go_region
 all_goals go_wp2_with (go_at_call 172;apply (AAi B b n (w.setCell ⟨b,0,none⟩ (.pointer (some ⟨b,0,none⟩))).drew g a (by simpa[World.setCell,World.drew,-World.drew_eq]using h) hn).mono;rintro e f ⟨rfl,k,l⟩)
 all_goals first
  |(go_end0;exact⟨rfl,k,d.drew.trans l⟩)
  |(go_end0;exact⟨rfl,m.drew,d.drew⟩)
end Go.Proofs.YtimajmppopkomaaGreat
