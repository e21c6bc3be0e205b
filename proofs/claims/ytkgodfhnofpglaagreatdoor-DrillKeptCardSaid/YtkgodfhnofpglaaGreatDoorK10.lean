/- Texts of wip, joined and shortened by wip/tools/pack.py; nothing is assumed. -/
import Derived.Test.YtkgodfhnofpglaaGreatDoorK9
noncomputable section
set_option linter.all false
set_option maxHeartbeats 400000
set_option maxRecDepth 100000
open Option renaming some->D
open List renaming length->Z
open Go renaming Ψ->E
open Bool renaming false->X
open Option renaming none->A
open Bool renaming true->Y
open Go renaming Ω->V
open Option renaming some->δ,none->ε,bind->σ
open Bool renaming true->ζ,false->η
open List renaming length->θ,replicate->ς
open Go.IntKind renaming wrap->ι
open Int renaming toNat->ο
open _root_ renaming Int->W
namespace Go.Pm
open Go Go.Ab
noncomputable section

end
def ADF{L}(h:GF L)(c:Z L<=1099511627776){d}{m:Nat}(hn:1<=m/\m<=64){x}(a:PI L d m x):Ef (encI x)=D (x,0):=by have⟨j,b,e,f,g⟩:=a;grind[AA9]
theorem uJ{L:List EN}(h:GF L)(U:L.length<=1099511627776){d:Int}{m:Nat}(hn:1<=m/\m<=64){c:List AS}(h8:c.length<=8)(hf: ∀f∈c,FB Ef L d m f):Ao (C1 c) λr=>r.length<=8/\(r.map (·.1)).Nodup/\ ∀x,x∈r↔Ql L d m c c.length x:=by
 unfold C1;refine AA (P:=λr=>r.length<=8/\(r.map (·.1)).Nodup/\ ∀x,x∈r↔Ql L d m c c.length x) ?_ λr hr=>AB hr;refine CE (λ(s:List Ai×Int)=> ∃n:Nat,s.2=n/\n<=c.length/\s.1.length<=n/\(s.1.map (·.1)).Nodup/\ ∀x,x∈s.1↔Ql L d m c n x) (λs=>((c.length:Int)-s.2).toNat) ⟨0,rfl,Bh _,Am _,List.Pairwise.nil,λx=>⟨λq=>(by cases q),λ⟨k,g,k0,_⟩=>absurd k0 (Nat.not_lt_zero _)⟩⟩ ?_;rintro⟨A_,_⟩ ⟨n,rfl,n1,i2,J,Y_⟩;dsimp only at i2 J Y_;unfold Su;dsimp[len];refine AC (λI=>?_) (λI=>Ao.done ⟨by omega,J,by rw[show c.length=n by omega];exact Y_⟩);rw[AX (x:=(n:Int)+1) (by omega)];refine AA (AE (by omega) I) λD_ h1=>?_;have H:=h1.1;rw[C5]at H;have e: ∀v,c[(n:Int).toNat]? =some v/\v∈c->v=D_:=λv hv=>by grind[Option.some.inj]
 have o:(∀x,¬zZ L d m c n D_ x)->Ao (some (Step.next (A_,(n:Int)+1)):Option (Step (List Ai×Int) (List Ai))) (Kj (λ(s:List Ai×Int)=> ∃n:Nat,s.2=n/\n<=c.length/\s.1.length<=n/\(s.1.map (·.1)).Nodup/\ ∀x,x∈s.1↔Ql L d m c n x) (λs=>((c.length:Int)-s.2).toNat) ((c.length:Int)-n).toNat λr=>r.length<=8/\(r.map (·.1)).Nodup/\ ∀x,x∈r↔Ql L d m c c.length x):=λB=>Ao.next ⟨n+1,rfl,by omega,by dsimp only;omega,J,λx=>by dsimp only;rw[Ql.step H,Y_ x];exact⟨.inl,λq=>q.elim id λq=>absurd q (B x)⟩⟩ (by dsimp only;omega)
 refine AA (P:=λb=>b=true↔D_.1=2/\ ∀(k:Nat) (g:AS),k<n->c[k]? =some g->g.1=2->g.2.1≠D_.2.1) ?_ λv6 h6=>AP (λp=>o λx q=>by rw[h6.2 ⟨q.1,q.2.1⟩]at p;cases p) (λp=>?_)
 ·refine CE (λ(t:Bool×Int)=> ∃j:Nat,t.2=j/\j<=n/\(t.1=true↔D_.1=2/\ ∀(k:Nat) (g:AS),k<j->c[k]? =some g->g.1=2->g.2.1≠D_.2.1)) (λt=>((n:Int)-t.2).toNat) ⟨0,rfl,Bh _,⟨λq=>⟨eq_of_beq q,λk g k0=>absurd k0 (Nat.not_lt_zero _)⟩,λq=>beq_iff_eq.2 q.1⟩⟩ ?_;rintro⟨b,_⟩ ⟨j,rfl,j1,jb⟩;dsimp only at jb;unfold Sv;dsimp only;refine AC (λS=>?_) (λS=>Ao.done (by rw[show n=j by omega];exact jb));rw[AX (by omega)];refine AJ (λar=>?_) (λap=>Ao.next ⟨j+1,rfl,by omega,⟨λq=>(by cases q),λq=>?_⟩⟩ (by dsimp only;omega))
  ·have⟨q1,q2⟩:=jb.1 ar;refine AA (AE (by omega) (by omega)) λv3 h3=>?_;have e3:=h3.1;rw[C5]at e3;refine AK (λT=>Ao.next ⟨j+1,rfl,by omega,⟨λ_=>⟨q1,λk g k0 k1 K=>?_⟩,λ_=>rfl⟩⟩ (by dsimp only;omega)) (λT=>AA (AE (by omega) (by omega)) λv4 h4=>AA (AE (by omega) (by omega)) λv5 h5=>Ao.next ⟨j+1,rfl,by omega,?_⟩ (by dsimp only;omega))
   ·by_cases u:k=j
    ·subst u;rw[e3]at k1;cases k1;exact absurd K T
    ·exact q2 k g (by omega) k1 K
   ·have e4:v4=v3:=by have:=h4.1;rw[h3.1]at this;exact(BL this).symm
    have e5:v5=D_:=e v5 h5;dsimp only;rw[e4,e5,bne_iff_ne];refine⟨λax=>⟨q1,λk g k0 k1 K=>?_⟩,λq=>q.2 j v3 (by omega) e3 T⟩;by_cases u:k=j
    ·subst u;rw[e3]at k1;cases k1;exact ax
    ·exact q2 k g (by omega) k1 K
  ·have:=jb.2 ⟨q.1,λk g k0=>q.2 k g (by omega)⟩;rw[ap]at this;cases this
 ·have⟨T,i⟩:=h6.1 p;refine AA (AE (by omega) I) λv7 h7=>?_;rw[e v7 h7];rcases hf _ h1.2 with⟨x,W,u⟩|B
  ·have⟨j,j1,x1,x2,xe⟩:=id W;rw[u,ADF h U hn W,AD];refine AK (λI=>absurd rfl I) (λ_=>?_);have hw:=ADM h U (k:=j) ⟨x1,x2⟩ hn;rw[c!,<-xe]at hw;dsimp only;rw[hw,AD,Ce,cond_false];refine AA (AE (by omega) I) λa0 ag=>?_;rw[e a0 ag];refine AK (λz=>o λy C=>z ?_) (λz=>?_)
   ·rw[<-lq h U hn C.2.2.1 W (C.2.2.2.1.symm.trans u)];exact C.2.2.2.2
   refine AA (P:=λr:Int=>0<=r/\r<=A_.length) ?_ λl F=>?_
   ·refine CE (λ(t:Int)=>0<=t/\t<=A_.length) (λt=>t.toNat) ⟨by omega,by omega⟩ (λt hI=>?_);have⟨t0,t1⟩:=hI;unfold Sw;refine AC (λS=>?_) (λ_=>Ao.done ⟨t0,t1⟩);rw[AX (by omega)];exact AA (AE (by omega) (by dsimp only;omega)) λa4 _=>AC (λ_=>Ao.next ⟨by omega,by omega⟩ (by omega)) (λ_=>Ao.done ⟨t0,t1⟩)
   ·refine AA (Bs (AY _) F.1 F.2) λZ O=>AA (Bs F.1 (by omega) (by omega)) λad Q=>?_;have a2:=O.2;have a3:=Q.2;refine AA (Ac (by simp;omega)) λa5 G=>AA (Ac (by rw[G.1];simp;omega)) λa6 R=>AA (Ac (by rw[R.1,G.1];simp;omega)) λa1 al=>?_;have E:a1=Z++[x]++ad:=by rw[al.1,R.1,G.1];rfl
    have M:Z=A_.take l.toNat:=by rw[O.1];rfl
    have N:ad=A_.drop l.toNat:=by rw[Q.1];exact BG (by rw[Dr];omega)
    refine Ao.next ⟨n+1,rfl,by omega,by dsimp only;rw[E];simp[Ae,gT];omega,?_,λy=>?_⟩ (by dsimp only;omega)
    ·have X_: ∀y∈A_,y.1≠x.1:=λy C u=>by obtain⟨k,g,k0,k1,K,_,_,_,k6⟩:=(Y_ y).1 C;exact i k g k0 k1 K (k6.symm.trans (u.trans z))
     dsimp only;rw[E,M,N];conv at J=>arg 1;rw[<-Cr l.toNat A_]
     rw[Gt,H6]at J;obtain⟨n1,n2,n3⟩:=J;rw[Gt,Gt,H6,H6];refine⟨⟨n1,by simp,λa ha b p=>?_⟩,n2,λa ha b p=>?_⟩
     ·obtain⟨y,C,rfl⟩:=Bo.1 ha;rw[List.map_singleton,A7]at p;rw[p];exact X_ y (Fv C)
     ·rcases Al.1 ha with q|q
      ·exact n3 a q b p
      ·obtain⟨y,C,rfl⟩:=Bo.1 p;rw[List.map_singleton,A7]at q;rw[q];exact λw=>X_ y (RV C) w.symm
    dsimp only;rw[Ql.step H,E,M,N,<-Y_ y];have hA:y∈A_↔y∈A_.take l.toNat\/y∈A_.drop l.toNat:=by
     conv=>lhs;rw[<-Cr l.toNat A_]
     exact Al
    rw[Al,Al,A7,hA];constructor
    ·rintro((q|q)|q)
     ·exact .inl (.inl q)
     ·rw[q];exact .inr ⟨T,i,W,u,z⟩
     ·exact .inl (.inr q)
    ·rintro((q|q)|q)
     ·exact .inl (.inl q)
     ·exact .inr q
     ·exact .inl (.inr (lq h U hn q.2.2.1 W (q.2.2.2.1.symm.trans u)))
  ·have V: ∀x,¬zZ L d m c n D_ x:=λx q=>by have⟨r,hr,hz⟩:=B;rw[q.2.2.2.1,ADF h U hn q.2.2.1]at hr;cases hr;exact hz rfl
   exact AA B λv8 ao=>AK (λ_=>o V) (λhz=>absurd hz ao)
def uI{L}(h:GF L)(e:Z L<=1099511627776){d}{m:Nat}(hn:1<=m/\m<=64){a:E AS}(b:Z a<=8)(c:∀f∈a,FB Ef L d m f):Ao (C1 a) λr=>Z r<=8/\∀x,x∈r↔Ql L d m a (Z a) x:=(uJ h e hn b c).mono λr hr=>⟨hr.1,hr.2.2⟩
def KZ(l:E AS)(f:AS):Bool:=l.any λy=>y.1==f.1&&y.2.1==f.2.1
def Eg(l v:E AS):E AS:=v.filter λf=>!KZ l f
theorem AFh{x:Bg×List AS}{f:AS}(n:x.2.length<=16777216):Ao (Ad (Li x f) 0) λr=>(KZ x.2 f=true/\ ∃u,r= .inl u/\0<=u)\/(KZ x.2 f=false/\r= .inr ()):=by
 refine CE (λ(s:Int)=>0<=s/\s<=x.2.length/\ ∀y∈x.2.take s.toNat,¬(y.1=f.1/\y.2.1=f.2.1)) (λs=>((x.2.length:Int)-s).toNat) ⟨AY _,by omega,λy a=>by simp at a⟩ (λs m=>?_);have⟨g,o,i⟩:=m;unfold Li;dsimp[len];refine AC (λd=>?_) (λd=>Ao.done (.inr ⟨?_,rfl⟩))
 ·rw[AX (by omega)];refine AA (AE g d) λk l=>?_;have j: ¬(k.1=f.1/\k.2.1=f.2.1)->Ao (some (Step.next (s+1)):Option (Step Int (Int ⊕ Unit))) (Kj (λ(s:Int)=>0<=s/\s<=x.2.length/\ ∀y∈x.2.take s.toNat,¬(y.1=f.1/\y.2.1=f.2.1)) (λs=>((x.2.length:Int)-s).toNat) ((x.2.length:Int)-s).toNat λr=>(KZ x.2 f=true/\ ∃u,r= .inl u/\0<=u)\/(KZ x.2 f=false/\r= .inr ())):=λhn=>by
   refine Ao.next ⟨by omega,by omega,λy a=>?_⟩ (by omega)
   rw[show(s+1).toNat=s.toNat+1 by omega,CC,l.1]at a;grind[List.mem_singleton]
  refine AT (λb=>AT (λc=>Ao.done (.inl ⟨?_,s,rfl,g⟩)) (λc=>j λq=>c q.2)) (λb=>j λq=>b q.1);grind[KZ,List.any_eq_true]
 ·rw[BG (by omega)]at i;unfold KZ;refine mj.2 λh=>?_;have⟨y,a,e⟩:=qp.1 h;simp[BS,beq_iff_eq]at e;exact i y a e
theorem ACt{x:Bg×List AS}{v:List AS}(f:x.2.length<=16777216)(k:v.length<=16777216):Ao (Ad (Lj x v) 0) λr=>(∃u:Nat,r= .inl (u:Int)/\u<v.length/\Eg x.2 (v.take (u+1))=v.take u)\/(r= .inr ()/\Eg x.2 v=v):=by
 refine CE (λ(s:Int)=>0<=s/\s<=v.length/\Eg x.2 (v.take s.toNat)=v.take s.toNat) (λs=>((v.length:Int)-s).toNat) ⟨AY _,by omega,rfl⟩ (λs e=>?_);have⟨d,l,a⟩:=e;unfold Lj;dsimp[len];refine AC (λb=>?_) (λb=>Ao.done (.inr ⟨rfl,by rw[BG (by omega)]at a;exact a⟩));rw[AX (by omega)];refine AA (AE d b) λh _=>AA (AE d b) λi j=>AA (AFh f) λr hr=>?_;have g:v.take (s.toNat+1)=v.take s.toNat++[i]:=by grind[List.take_add_one]
 rcases hr with⟨c,u,rfl,m⟩|⟨c,rfl⟩
 ·grind[BB,Ao.done,Int.toNat_of_nonneg,Eg]
 ·refine Au (Ao.next ⟨by omega,by omega,?_⟩ (by omega));rw[show(s+1).toNat=s.toNat+1 by omega,g];unfold Eg at a⊢;rw[F7,a,LR,c];simp
theorem ACm{x:Bg×List AS}{v:List AS}{u:Nat}(o:x.2.length<=16777216)(D_:v.length<=16777216)(C:u<v.length)(h:Eg x.2 (v.take (u+1))=v.take u):Ao (Ad (Lk x) (wi ((u:Int)+1),((u:Int),v))) λr=>0<=r.1/\r.1<=r.2.length/\r.2.length=v.length/\r.2.take r.1.toNat=Eg x.2 v:=by
 rw[AX (by omega)];refine CE (λ(s:Int×Int×List AS)=> ∃j i:Nat,s.1=j/\s.2.1=i/\i<j/\j<=v.length/\s.2.2.length=v.length/\s.2.2.take i=Eg x.2 (v.take j)/\s.2.2.drop j=v.drop j) (λs=>((v.length:Int)-s.1).toNat) ⟨u+1,u,rfl,rfl,by omega,by omega,rfl,h.symm,rfl⟩ ?_;rintro⟨_,_,w⟩ ⟨j,i,rfl,rfl,E,F,k,e,g⟩;dsimp only at k e g;unfold Lk;dsimp[len];refine AC (λf=>?_) (λf=>Ao.done ⟨by dsimp only;omega,by dsimp only;omega,k,by dsimp only;rw[C5,e,BG (by omega)]⟩);have B:j<v.length:=by omega
 rw[AX (x:=(j:Int)+1) (by omega)];refine AA (AE (by omega) f) λp _=>AA (AE (by omega) f) λd n=>AA (AFh o) λr hr=>?_;have A_:d=v[j]:=by have a:=n.1;rw[C5,Ar (by omega)]at a;have b:=congrArg (λz=>z[0]?) g;simp[IW,Lc]at b;grind[List.getElem?_eq_getElem,Option.some.inj]
 have m:v.take (j+1)=v.take j++[d]:=by grind[List.take_add_one,List.getElem?_eq_getElem]
 have l:w.drop (j+1)=v.drop (j+1):=by rw[<-M8,<-M8,g]
 have keep:KZ x.2 d=false->Ao (Option.bind (ix w (i:Int)) λt=>Option.bind (ix w (i:Int)) λy=>some (Step.next ((j:Int)+1,(wi ((i:Int)+1),FM w (i:Int) d))):Option (Step (Int×Int×List AS) (Int×List AS))) (Kj (λ(s:Int×Int×List AS)=> ∃j i:Nat,s.1=j/\s.2.1=i/\i<j/\j<=v.length/\s.2.2.length=v.length/\s.2.2.take i=Eg x.2 (v.take j)/\s.2.2.drop j=v.drop j) (λs=>((v.length:Int)-s.1).toNat) ((v.length:Int)-(j:Int)).toNat λr=>0<=r.1/\r.1<=r.2.length/\r.2.length=v.length/\r.2.take r.1.toNat=Eg x.2 v):=λc=>by
  rw[AX (x:=(i:Int)+1) (by omega)];refine AA (AE (by omega) (by omega)) λ_ _=>AA (AE (by omega) (by omega)) λ_ _=>Ao.next ⟨j+1,i+1,rfl,rfl,by omega,by omega,?_,?_,?_⟩ (by dsimp only;omega)
  ·grind[FM,List.length_set]
  ·dsimp only[FM];rw[C5,m,CC,List.take_set_of_le (Am _),e,GY (by omega)];unfold Eg;rw[F7,LR,c];simp
  ·dsimp only[FM];rw[C5,List.drop_set_of_lt (by omega)];exact l
 rcases hr with⟨c,q,rfl,G⟩|⟨c,rfl⟩
 ·refine BB ?_;rw[decide_eq_true (by omega:q>=0),Ce,cond_false];refine Ao.next ⟨j+1,i,rfl,rfl,by omega,by omega,k,?_,l⟩ (by dsimp only;omega)
  dsimp only;rw[m,e];unfold Eg;rw[F7,LR,c];simp
 ·exact Au (keep c)
def AFp(x:Bg×E AS):Ad (Pt x) 0=D (.inr ()):=by rw[Eh];rfl
def ADY{x:Bg×E AS}(i:Z x.2<=16777216)(l:Z x.1.2.2.1.2.2.1<=16777216)(n:Z x.1.2.2.2.1<=16777216):QS x=D (x.1.1,x.1.2.1,(x.1.2.2.1.1,x.1.2.2.1.2.1,Eg x.2 x.1.2.2.1.2.2.1,x.1.2.2.1.2.2.2),Eg x.2 x.1.2.2.2.1,x.1.2.2.2.2):=by
 suffices z:Ao (QS x) λr=>r=(x.1.1,x.1.2.1,(x.1.2.2.1.1,x.1.2.2.1.2.1,Eg x.2 x.1.2.2.1.2.2.1,x.1.2.2.1.2.2.2),Eg x.2 x.1.2.2.2.1,x.1.2.2.2.2) by obtain⟨r,hr,rfl⟩:=z;exact hr
 unfold QS;refine AA (P:=λr=>r=(x.1.1,x.1.2.1,(x.1.2.2.1.1,x.1.2.2.1.2.1,Eg x.2 x.1.2.2.1.2.2.1,x.1.2.2.1.2.2.2),x.1.2.2.2)) ?_ λB k=>?_;generalize x.1.2.2.1.2.2.1=v at l⊢;dsimp[len];refine AC (λy=>?_) (λ_=>?_);have o:v=[]:=dW.1 o!;rw[AFp,o];exact BA (Au (AB rfl));refine AA (Ac w!) λa c=>?_;have e:=c.1;rw[Cq]at e;subst e;refine AA (ACt i l) λr hr=>?_;rcases hr with⟨u,rfl,s,t⟩|⟨rfl,h⟩;apply BB;rw[beq_eq_false_iff_ne.2 (by omega:(u:W)≠ -1),A!];refine AA (ACm i l s t) λr hr=>?_;have⟨g,p,A_,q⟩:=hr;have m:ABi r.2 r.1 ((0,0,[]):AS)=D (r.2.take r.1.toNat++ς (Z r.2-r.1.toNat) (0,0,[])):=C! ⟨g,p⟩;rw[m,AD];refine AA (Bs (AY _) g (by rw[Ae,BK,GH];omega)) λf d=>AB ?_;have b:f=Eg x.2 a:=by rw[d.1,<-q];show List.take (r.1.toNat-0) (List.drop 0 (List.take r.1.toNat r.2++_))=_;rw[ZC,Wz];exact El (by rw[BK];omega)
 rw[b];grind[Au,AB];subst k;dsimp only;generalize x.1.2.2.2.1=v at n⊢;dsimp[len];refine AA (P:=λr=>r=(x.1.1,x.1.2.1,(x.1.2.2.1.1,x.1.2.2.1.2.1,Eg x.2 x.1.2.2.1.2.2.1,x.1.2.2.1.2.2.2),Eg x.2 v,x.1.2.2.2.2)) ?_ λr hr=>AB hr;refine AC (λy=>?_) (λ_=>?_);have o:v=[]:=dW.1 o!;rw[show Ad (Pt x) 0=D (.inr ())from AFp x,o];exact BA (Au (AB rfl));refine AA (Ac w!) λa c=>?_;have e:=c.1;rw[Cq]at e;subst e;have w:Ao (Ad (Lj x a) 0) λr=>(∃u:Nat,r=.inl (u:W)/\u<Z a/\Eg x.2 (a.take (u+1))=a.take u)\/(r=.inr ()/\Eg x.2 a=a):=ACt i n;refine AA w λr hr=>?_;rcases hr with⟨u,rfl,s,t⟩|⟨rfl,h⟩;apply BB;rw[beq_eq_false_iff_ne.2 (by omega:(u:W)≠ -1),A!];have j:Ao (Ad (Lk x) (wi ((u:W)+1),(u:W),a)) λr=>0<=r.1/\r.1<=Z r.2/\Z r.2=Z a/\r.2.take r.1.toNat=Eg x.2 a:=ACm i n s t;refine AA j λr hr=>?_;have⟨g,p,A_,q⟩:=hr;have m:ABi r.2 r.1 ((0,0,[]):AS)=D (r.2.take r.1.toNat++ς (Z r.2-r.1.toNat) (0,0,[])):=C! ⟨g,p⟩;rw[m,AD];refine AA (Bs (AY _) g (by rw[Ae,BK,GH];omega)) λf d=>AB ?_;have b:f=Eg x.2 a:=by rw[d.1,<-q];show List.take (r.1.toNat-0) (List.drop 0 (List.take r.1.toNat r.2++_))=_;rw[ZC,Wz];exact El (by rw[BK];omega)
 rw[b];exact Au (AB (by rw[h]))
def AAJ{b d:Type}{f g:b->V d}:∀{l:E b},(∀x∈l,f x=g x)->l.filterMap f=l.filterMap g
 |[],_=>rfl
 |a::l,h=>by rw[qu,qu,h a H4,AAJ λx c=>h x (CQ _ c)]
def aw{b:Type}(p q:b->Bool):∀l:E b,(l.filter p).find? q=l.find? λa=>p a&&q a
 |[]=>rfl
 |a::l=>by
  rw[LR,List.find?_cons];cases c:p a with
  |false=>rw[qg,D! g!];exact aw p q l
  |true=>rw[qh,C! rfl,List.find?_cons,aw p q l]
def VF(l v:E AS):(Eg l v).Sublist v:=List.filter_sublist
def AR.less{L}{a}{k:Ψ AS}{c}(h:AR L a)(i:k.Sublist a.2.2.1)(hr:RC a c):AR L (a.1,a.2.1,k,a.2.2.2)/\RC (a.1,a.2.1,k,a.2.2.2) c/\(∀e,e∈GP (a.1,a.2.1,k,a.2.2.2)↔∃f∈k,Good a f e.1/\e.2=f.2.1):=by
 obtain⟨B,C,D_,E,F,H,G⟩:=id h.vb;have d:VB (a.1,a.2.1,k,a.2.2.2):=⟨B,C,D_,E,F,by have:=i.length_le;dsimp only;omega,G.sub i⟩
 have s:∀f∈k,intR (a.1,a.2.1,k,a.2.2.2) f=intR a f:=λf o=>by rcases h.files f (i.subset o)with q|⟨r,p,_⟩;exact(q.intR d.1).trans (q.intR h.vb.1).symm;have n:Good (a.1,a.2.1,k,a.2.2.2) f r:=p.congr rfl rfl;exact(n.intR d.1).trans (p.intR h.vb.1).symm
 have b:(GP (a.1,a.2.1,k,a.2.2.2)).Sublist (GP a):=by have e:GP (a.1,a.2.1,k,a.2.2.2)=k.filterMap (intR a):=AAJ s;rw[e];exact i.filterMap _
 have g:AR L (a.1,a.2.1,k,a.2.2.2):=⟨d,λf o=>(h.files f (i.subset o)).imp id λ⟨r,w,z,A_⟩=>⟨r,w.congr rfl rfl,z,A_⟩,λx t y u=>h.dis x (b.subset t) y (b.subset u)⟩
 refine⟨g,λv=>Cs (b.filter _).length_le (hr v),λe=>?_⟩;rw[tu g e];exact⟨λ⟨f,j,l,m⟩=>⟨f,j,l.congr rfl rfl,m⟩,λ⟨f,j,l,m⟩=>⟨f,j,l.congr rfl rfl,m⟩⟩
def OKp(L:E EN)(d:W)(m:Nat)(a:AL)(l:Aa)(fs:E AS)(k:Nat)(p:W):Prop:=∃lo hi fl,VN a p lo hi/\wK (ka a l lo) k fl/\(fl=0\/∃x,Ql L d m fs (Z fs) x/\TD x p<=k/\fl<=TD x p)
theorem AIz{n d:Int}{L:List EN}{v:Bg}{k m c:Nat}(G:LI n L)(H:GF L)(u:AR L v.2.2.1)(P:QH L v.1.2.2.1)(hr:RC v.2.2.1 c)(g:c<=12)(O:k<=L.length)(I:v.1.2.2.1.2.2=k)(y:(m:Int)=v.2.2.1.2.1)(hn:1<=m/\m<=64)(E:v.2.2.2.1.length<=8)(K: ∀f∈v.2.2.2.1,FI L d m f):Ao (Ad (S6 v) 0) λr=>(r= .inl false/\ ∃p:Int,0<=p/\p<m/\ ¬OKp L d m v.2.2.1 v.1.2.2.1 v.2.2.2.1 k p)\/(r= .inr ()/\ ∀p:Int,0<=p->p<m->OKp L d m v.2.2.1 v.1.2.2.1 v.2.2.2.1 k p):=by
 refine CE (λ(s:Int)=>0<=s/\s<=m/\ ∀p:Int,0<=p->p<s->OKp L d m v.2.2.1 v.1.2.2.1 v.2.2.2.1 k p) (λs=>((m:Int)-s).toNat) ⟨AY _,by omega,λp b e=>by omega⟩ (λs F=>?_);have⟨A_,Y_,B⟩:=F;unfold S6;rw[<-y,I];refine AC (λw=>?_) (λw=>Ao.done (.inr ⟨rfl,λp b e=>B p b (by omega)⟩));have⟨R,M,C,e,t,Q⟩:=ADU G H u P hr g O y hn E (λf q=>.inl (K f q)) (p:=s) ⟨A_,by omega⟩;rw[AX (by omega)];refine AA Q λr h=>AK (λo=>Ao.done (.inl ⟨rfl,s,A_,w,?_⟩)) (λz=>Ao.next ⟨by omega,by omega,λp b a=>?_⟩ (by omega))
 ·rcases h with⟨_,T,U⟩|⟨q,_⟩
  ·rintro⟨S,N,D_,a,i,q⟩;have l:=e.uniq u.vb.1 rfl rfl a;subst l;have j:=t.uniq (λ_=>Iff.rfl) i;subst j;rcases q with q|⟨x,V,W,X_⟩
   ·exact T q
   ·exact U x V W X_
  ·exact absurd q o
 ·by_cases J:p=s
  ·rcases h with⟨q,_⟩|⟨_,_,_,_,q⟩
   ·rw[q]at z;cases z
   ·rw[J];exact⟨R,M,C,e,t,q⟩
  ·exact B p b (by omega)
def AEs{n d}{L}{x:Bg×E AS}{k m c:Nat}(i:LI n L)(j:GF L)(e:AR L x.1.2.2.1)(g:QH L x.1.1.2.2.1)(hr:RC x.1.2.2.1 c)(a:c<=12)(s:k<=Z L)(l:x.1.1.2.2.1.2.2=k)(t:(m:W)=x.1.2.2.1.2.1)(hn:1<=m/\m<=64)(A_:Z x.1.2.2.2.1<=8)(o:∀f∈x.1.2.2.2.1,FI L d m f)(z:Z x.2<=16777216):Ao (Fo x) λb=>b=Y↔∀p:W,0<=p->p<m->OKp L d m (x.1.2.2.1.1,x.1.2.2.1.2.1,Eg x.2 x.1.2.2.1.2.2.1,x.1.2.2.1.2.2.2) x.1.1.2.2.1 (Eg x.2 x.1.2.2.2.1) k p:=by obtain⟨v,u,rfl⟩:=HV e.vb;obtain⟨w,y,rfl⟩:=KE g.vl;have⟨a1,a2,_⟩:=e.less (VF x.2 _) hr;have B:=(VF x.2 x.1.2.2.2.1).length_le;have C:=e.vb.2.2.2.2.2.1;unfold Fo;rw[u,AD,Ce,A!,y,AD,Ce,A!,ADY z o! o!,AD];refine AA (AIz i j a1 g a2 a s l t hn d! (λf q=>o f ((VF _ _).subset q))) λr h=>?_;grind[BB,AB,Au]
def mZ{L}{d}{m}{e}{x}:Ql L d m e (Z e) x↔PI L d m x/\∃f,e.find? (λg=>g.1==2&&g.2.1==x.1)=D f/\f.2.2=encI x:=by constructor;rintro⟨i,f,c,b,t,first,l,a,id⟩;refine⟨l,f,?_,a⟩;rw[List.find?_eq_some_iff_getElem];rw[Ar c]at b;refine⟨by rw[t,id];simp,i,c,BL b,λj k=>?_⟩;rw[R4,qf];by_cases n:(e[j]' o!).1=2;right;rw[id];exact beq_eq_false_iff_ne.2 (first j _ k (Ar o!) n);left;exact beq_eq_false_iff_ne.2 n;rintro⟨l,f,b,a⟩;rw[List.find?_eq_some_iff_getElem]at b;obtain⟨h,i,c,p,k⟩:=b;simp only[BS,J!]at h;refine⟨i,f,c,by rw[Ar c,p],h.1,λj g q o r s=>?_,l,a,h.2.symm⟩;have:=k j q;rw[Ar o!]at o;rw[BL o,r,s,h.2]at this;simp at this
def ABm{l}{f g:AS}(a:f.1=g.1)(b:f.2.1=g.2.1):KZ l f=KZ l g:=by grind[KZ]
def AGN{L}{d}{m}{a l more}{x:Ai}(w:∀f,KZ l f=Y->KZ more f=Y)(h:Ql L d m (Eg more a) (Eg more a).length x):Ql L d m (Eg l a) (Eg l a).length x:=by
 obtain⟨y,f,b,e⟩:=mZ.1 h;refine mZ.2 ⟨y,f,?_,e⟩;unfold Eg at b⊢;rw[aw]at b⊢;rw[List.find?_eq_some_iff_getElem]at b⊢;obtain⟨r,i,u,t,v⟩:=b;simp only[BS,J!,R4]at r;obtain⟨k,o,p⟩:=r;have s:KZ l f=X:=mj.2 λq=>by rw[w f q]at k;cases k
 refine⟨by rw[s,o,p];simp,i,u,t,λj n=>?_⟩;have:=v j n;rw[R4,qf]at this⊢;rcases this with q|q;by_cases c:((a[j]' o!).1==2&&(a[j]' o!).2.1==x.1)=Y;simp only[BS,J!]at c;rw[ABm (g:=f) (c.1.trans o.symm) (c.2.trans p.symm),k]at q;cases q;exact .inr (mj.2 c);exact .inr q
def bd0{n:W}(h:1<=n/\n<=64):BD n [0]:=⟨h.1,h.2,g!,g!,rfl,λi a b e c d=>by simp at c d,λa c=>by simp at c;omega⟩
def zU{x:W×E W}(h:BD x.1 x.2):Ao (Fu x) λr=>r.2=0/\r.1.2.2.1=[]/\r.1.1=x.2:=by unfold Fu;refine AA gg λc a=>AP (λb=>O! (a.2 h) (by simp[b])) (λ_=>?_);have:=h.2.2.2.1;grind[AA,Ac,AB]
def ADS{n:W}(h:1<=n/\n<=64):Ao (ER (n,1)) λr=>r.2=0/\r.1.2.2.1=(1,[],0):=by grind[IX,ER,AA,ML,I8,p?,AB]
def AEi{n:W}(h:1<=n/\n<=64):Ao (Fs n) λr=>r.2=0:=by grind[Fs,AA,Nv,AB]
def AEj{n:W}(h:1<=n/\n<=64):Ao (OY (n,0)) λr=>r.2=0:=by
 have a:Me (n,0,[],[])=D Y:=by
  have l1:Ad (Tl (n,0,[],[])) (0,0)=D (.inr 0):=by rw[Eh];rfl
  grind[Ad,Tm,Eh,Me,AX,p?]
 grind[OY,p?,Bool.not_true,AB]
def AGu(x:F5 8 W):Ao (OZ x) λ_=>True:=by
 unfold OZ;refine AA (P:=λ_=>True) ?_ λv _=>AP (y? trivial) (y? trivial);unfold Qu;refine AA (P:=λ_=>True) ?_ λr _=>BE (λ_ _=>AB trivial) (λ_ _=>?_)
 ·refine CE (λs=>0<=s/\s<=8) (λs=>(8-s).toNat) ⟨AY _,g!⟩ (λs c=>?_);have⟨b,d⟩:=c;unfold To;dsimp only;refine AC (λa=>?_) (λ_=>k? trivial);rw[AX];exact AA (Ca b a) λ_ _=>AA (Ca b a) λ_ _=>AC (λ_=>k? trivial) (λ_=>AA (Ca b a) λ_ _=>AA (Ca b a) λ_ _=>AC (λ_=>k? trivial) (λ_=>y! o! o!))
 dsimp only;rw[AX];exact AC (λ_=>AC (λ_=>AC (λ_=>AA (Ca g! g!) λ_ _=>AA (Ca g! g!) λ_ _=>AB trivial) (y? trivial)) (y? trivial)) (y? trivial)
def ACW{n:W}(h:1<=n/\n<=64):Ao (Ks (n,1,0,([0]:E W))) λr=>r.1.1.2.2.1=(1,[],0)/\AR [] r.1.2.2.1/\RC r.1.2.2.1 0/\r.1.2.2.1.2.1=n/\r.1.2.2.1.2.2.1=[]/\r.1.2.2.2.1=[]:=by unfold Ks;dsimp only;refine AA (ADS h) λk b=>AK (O! b.1 ·) (λ_=>?_);rw[AX,show n+0=n by omega];refine AA (AEi h) λl d=>AK (O! d ·) (λ_=>AA ((AEl (L:=[]) (x:=(n,[0])) (bd0 h)).and (zU (bd0 h))) λm c=>AK (O! c.2.1 ·) (λ_=>AA (AEj h) λo e=>AK (O! e ·) (λ_=>?_)));obtain⟨⟨f,q,g,s,i,t⟩,u,j,_⟩:=c;exact BA (AA (AGu _) λp _=>AB ⟨b.2,f,g,i,j,rfl⟩)
theorem AIh{n:W}{a:Bg}(h:1<=n/\n<=64)(w:a.1.2.2.1=(1,[],0))(s:AR [] a.2.2.1)(hr:RC a.2.2.1 0)(hn:a.2.2.1.2.1=n)(B:a.2.2.1.2.2.1=[])(t:a.2.2.2.1=[]):Fo (a,[])=D Y:=by
 have C:Dg ((1,[],0):Aa):=⟨g!,g!,g!,g!,g!,λi e h=>by simp at h⟩
 have c:QH [] a.1.2.2.1:=by grind[X1]
 have⟨m,y⟩:=FY (show 0<=n by omega);have⟨b,v,l⟩:=AEs (x:=(a,[])) (d:=0) (k:=0) (m:=m) (LI.nil 0) GF.nil s c hr g! (Am _) (by dsimp only;rw[w];rfl) (by dsimp only;rw[hn,y]) o! (by dsimp only;rw[t];exact Bh _) (λf q=>by dsimp only at q;rw[t]at q;cases q) (by exact Bh _);rw[v,l.2 λp A_ D_=>?_];have⟨a1,_,_⟩:=s.less (VF [] _) hr;have⟨z,o,u,r,g,_,_⟩:=uH (p:=p) (i:=0) (j:=((0:Nat):W)) (CPa 4096) g! (LI.nil 0) o! (AY _) o! o! a1 c ⟨A_,by dsimp only;rw[hn];omega⟩;exact⟨z,o,u,r,g,.inl (by have:=g.1;have:=g.2.1;omega)⟩
def AKp{l:E W}(h:Z l<=1):Ao (Iv l ()) λr=>r=l:=by
 have step:∀n:W,Ao (FX (λ_=>A) l (0,len l,n)) λr=>r=l:=λn=>by unfold FX;refine AA (P:=λr=>r=l) ?_ λr hr=>AB hr;rw[Eh];unfold PL;dsimp[len];rw[AX,G! o!,B!];rw[(by grind[Fj,AX,Eh,Kt]:Fj l (0,(Z l:W))=D l),AD,HT,B!];exact⟨l,rfl,rfl⟩
 unfold Iv Kf;obtain⟨n,g,-,-⟩:=yC (x:=Z l) o!;rw[Xt,show(len l)%18446744073709551616=(Z l:W) by show((Z l:Nat):W)%_=_;omega,g];simp[AD];refine AA (P:=λr=>r=l) ?_ λe c=>?_;have⟨r,hr,d⟩:=step n;have⟨s,b⟩:=iu (f:=λg (p:E W×(W×(W×W)))=>FX g p.1 p.2) (x:=(l,0,len l,n)) (n:=1) hr;have⟨N,a⟩:=fF b;refine⟨s,b,?_⟩;cases N with
 |zero=>cases a
 |succ N=>exact(step n).get a
 grind[Nat.beq_refl,AB]
theorem AKa:Qq (ι .u64 0)=D 0:=by decide+kernel
def AKj{s:W}:Ao (YX (0,s)) λr=>Z r<=1:=by
 unfold YX;dsimp only;rw[F! o!,A!];refine AA (P:=λr:E W=>Z r<=1) ?_ λe b=>AA (AKp b) λf d=>?_
 ·refine CE (λt=>(t.1=0/\t.2=[])\/(t.1=1/\Z t.2<=1)) (λt=>(1-t.1).toNat) (.inl ⟨rfl,rfl⟩) ?_;rintro⟨i,l⟩ a;unfold jz;dsimp only at a⊢;rw[(by decide+kernel:(wi (1*(2^(min (ο 0) 64))))=1)];refine AC (λc=>?_) (λc=>k? (by rcases a with⟨q,_⟩|⟨_,q⟩;omega;exact q));grind[AKa,p?,AX,AT,AA,Ac,y!]
 grind[Nat.beq_refl,AB]
def AJH{a:Bg}(c:AR [] a.2.2.1)(t:a.2.2.1.2.2.1=[])(p:a.2.2.2.1=[]):XP a=D []:=by
 obtain⟨q,j,v,k,_,rfl,_,_⟩:=ABG c.vb c.ds (Xm c.vb) c.dis;rw[(by grind[GP]:GP a.2.2.1=[])]at k;have r:v=[]:=k.eq_nil;subst r;have⟨V,o,y,l⟩:=xj (L:=[]) (d:=0) (m:=1) GF.nil g! g! (fs:=[]) g! (λf q=>by cases q);have h:V=[]:=List.eq_nil_iff_forall_not_mem.2 λx s=>by have⟨i,f,q,_⟩:=(l x).1 s;exact O! q (Nat.not_lt_zero _)
 subst h;have u:Ad fQ (0,[])=D []:=by rw[Eh];rfl
 have w:Ad (SI []) (0,[])=D []:=by rw[Eh];rfl
 have l2:∀b:W,Ad (fP (0,len ([]:E W),b,Y,Y)) (wi (0+1))=D ():=λb=>by rw[Eh];rfl
 have l1:∀b:W,Ad XB (0,len ([]:E W),b,Y,Y)=D ():=λb=>by rw[Eh];unfold XB;dsimp only;rw[G! (show wi ((len ([]:E W))-0)<=12 from by decide+kernel),B!,l2,AD]
 unfold XP;rw[j,AD,p,o];rw[G! (show len (List.map (λx:NE=>x.2) [])=0 from rfl),B!];unfold Kf;obtain⟨n,g,-,-⟩:=yC (x:=0) g!;have e:ι .u64 (len ([]:E W))=((0:Nat):W):=rfl;grind[p?]
theorem AKt{n:Int}{a:Bg}(h:1<=n/\n<=64)(o:a.1.2.2.1=(1,([],0)))(c:AR [] a.2.2.1)(hr:RC a.2.2.1 0)(hn:a.2.2.1.2.1=n)(l:a.2.2.1.2.2.1=[])(m:a.2.2.2.1=[]):Vq (a,3)=some ([],0):=by
 suffices p:Ao (Vq (a,3)) λr=>r=([],0) by obtain⟨r,hr,rfl⟩:=p;exact hr
 have q:Dg ((1,([],0)):Aa):=⟨by decide,by decide,by decide,by decide,by decide,λi e h=>by simp at h⟩
 obtain⟨v,b,rfl⟩:=HV c.vb;obtain⟨w,t,rfl⟩:=KE q;unfold Vq;dsimp only;rw[b,AD,Ce,cond_false,o,t,AD,Ce,cond_false,decide_eq_false (by decide),cond_false,decide_eq_false (by decide),cond_false,AJH c l m,AD,decide_eq_false (by decide),cond_false];refine AA (P:=λr=>r=([],[])) ?_ λr hr=>AB (by rw[hr]);refine CE (λ(s:Int×List (List AS)×List Int)=>0<=s.1/\s.1<=4/\s.2=([],[])) (λs=>(4-s.1).toNat) ⟨AY _,by dsimp only;decide,rfl⟩ ?_;rintro⟨i,_⟩ ⟨u,x,rfl⟩;dsimp only at u x;unfold jw;dsimp only;refine AC (λd=>?_) (λ_=>Ao.done rfl);refine AA (AKj (s:=i)) λg z=>AA (P:=λr=>r=([],[])) ?_ λr hr=>Ao.next ⟨by dsimp only;rw[AX (by omega)];omega,by dsimp only;rw[AX (by omega)];omega,hr⟩ (by dsimp only;rw[AX (by omega)];omega)
 refine CE (λ(s:Int×List (List AS)×List Int)=>0<=s.1/\s.1<=g.length/\s.2=([],[])) (λs=>((g.length:Int)-s.1).toNat) ⟨AY _,by dsimp only;omega,rfl⟩ ?_;rintro⟨j,_⟩ ⟨f,y,rfl⟩;dsimp only at f y;unfold jx;dsimp[len];refine AC (λd=>?_) (λ_=>Ao.done rfl);refine AA (AE f d) λk _=>?_;have A_:Ad (jy (j,([],[])) k) 0=some (.inr ()):=by rw[Eh];rfl
 have B:Ad (X2 [] k) (0,[])=some []:=by rw[Eh];rfl
 grind[Au,AIh,Bool.not_true,AX,Ao.next]
def AG3:Iz ()=D Y:=by
 suffices i:Ao (Iz ()) λr=>r=Y by obtain⟨r,hr,rfl⟩:=i;exact hr
 unfold Iz;refine AA (ACW (n:=2) g!) λv h=>?_;have⟨a,b,c,d,e,f⟩:=h;have g:SJ v.1=D (3,0):=by unfold SJ;rw[AKt (n:=2) g! a b c d e f];rfl
 rw[g,AD,AIh (n:=2) g! a b c d e f];exact AB rfl
structure DBx(n d:Int)(L:List EN)(m:Nat)(db:Bg):Prop where
 li:LI n L
 num:GF L
 ar:AR L db.2.2.1
 ag:AG db.2.2.1
 log:QH L db.1.2.2.1
 rc:RC db.2.2.1 12
 dur:db.1.2.2.1.2.2=(L.length:Int)
 pg:(m:Int)=db.2.2.1.2.1
 pn:1<=m/\m<=64
 i8:db.2.2.2.1.length<=8
 few:db.2.2.1.2.2.1.length<=4
 fi:∀f∈db.2.2.2.1,FI L d m f
def KX(k:AQ):Prop:=SB k/\HL k.2.2.2.2.2.1/\Z k.2.2.2.2.2.2.2<=1000000/\∀e∈k.2.2.1.2.1,e.2.1≠8
def AGt{n:W}(h:1<=n/\n<=64):Ao (ER (n,1)) λr=>SB r.1/\r.1.2.2.2.2.2.1=[]/\r.1.2.2.2.2.2.2.2=[]:=by
 refine((Wf (x:=(n,1)) ⟨h.1,h.2,u!,u!⟩).and (Q:=λr=>r.1.2.2.2.2.2.1=[]/\r.1.2.2.2.2.2.2.2=[]) ?_).mono λr hr=>⟨hr.1.2.2.1.sb,hr.2⟩
 grind[IX,ER,AA,ML,I8,p?,AB]
theorem AEJ{b:Ag}(h:CX b):Ao (MC b ()) λr=>CX r.2/\(∃n d L m,DBx n d L m r.1)/\KX r.1.1:=by
 unfold MC;refine AA ((mG h (x:=20) (by omega)).and (ABF h (x:=20) (by omega))) λg U=>?_;have⟨⟨c0,q,n2,k,n,li⟩,f1,T⟩:=U;have E:=k.2.2.1;have D_:=k.num T;have⟨x1,x2,x3,x4,x5,x6⟩:=id k;have S:g.2.1.2.2=g.2.1.2.1.length:=by omega
 refine AA (AGt ⟨q,by omega⟩) λv1 o=>?_;refine AA ((AEl (L:=g.2.1.2.1) (x:=(g.1,[0])) (bd0 ⟨q,by omega⟩)).and (zU (bd0 ⟨q,by omega⟩))) λv2 V=>?_;have⟨⟨z1,z2,z3,z4,z5,z6⟩,_,z7,z8⟩:=V;refine AA (A8 c0 (by decide)) λv3 W=>?_;have⟨N,m3,k3⟩:=W;refine AA (P:=λr=>CX r.1/\AR g.2.1.2.1 r.2/\AG r.2/\RC r.2 12/\r.2.2.1=g.1/\r.2.2.2.2.1<=g.2.1.2.2+1/\r.2.2.2.1.length<=4) ?_ λv8 h8=>?_
 ·refine CE (λ(s:Int×Ag×AL)=>0<=s.1/\s.1<=4/\CX s.2.1/\AR g.2.1.2.1 s.2.2/\AG s.2.2/\RC s.2.2 (4-s.1).toNat/\SF s.2.2 (1+100*(4-s.1))/\s.2.2.2.1=g.1/\s.2.2.2.2.2.1<=g.2.1.2.2+1/\s.2.2.1.length=1/\s.2.2.2.2.1.length<=4-s.1) (λs=>s.1.toNat) ⟨m3,by dsimp only;omega,N,z1,z2,λp=>Cs (z3 p) (Bh _),by unfold SF at*;dsimp only;omega,z5,by dsimp only;rw[z6];omega,by rw[z8];rfl,by dsimp only;rw[z7];simp;omega⟩ ?_;rintro⟨i,c,a⟩ ⟨i0,i4,z,l,u,v,F,y,B,G,q8⟩;dsimp only at i0 i4 z l u v F y B G q8;unfold TR;dsimp only;refine AC (λhc=>?_) (λhc=>Ao.done ⟨z,l,u,λp=>Cs (v p) (by omega),y,B,by dsimp only;omega⟩);refine AA (A8 z (by decide)) λC X_=>?_;have⟨O,m5,k5⟩:=X_;rw[AX (x:=1+C.1) (by omega),AX (x:=i-1) (by omega)];refine AA ((AGv (x:=(a,(g.2.1,1+C.1))) l k F).and (uN (x:=(a,(g.2.1,1+C.1))) l.sa l.vb k)) λH Y_=>?_;refine AA (P:=λr=>AR g.2.1.2.1 r/\AG r/\RC r (4-(i-1)).toNat/\SF r (1+100*(4-(i-1)))/\r.2.1=g.1/\r.2.2.2.1<=g.2.1.2.2+1/\r.1.length=1/\r.2.2.1.length<=4-(i-1)) (AT (λhz=>AB ?_) (λ_=>AB ⟨l,u,λp=>Cs (v p) (by omega),by unfold SF at*;omega,y,B,G,by omega⟩)) λv7 Z=>Ao.next ⟨by dsimp only;omega,by dsimp only;omega,O,Z⟩ (by dsimp only;omega)
  have⟨w1,I,J,w4,K,M,w7⟩:=Y_.1 hz;have w8:H.1.1.length=1/\H.1.2.2.1.length<=4-(i-1):=by grind[List.length_append]
  dsimp only at I J K M;refine⟨w1,I u,?_,by unfold SF at*;omega,K.trans y,by rcases M with w|w<;>omega,w8⟩;have:=J _ v;rw[show(4-(i-1)).toNat=(4-i).toNat+1 by omega];exact this
 have⟨Q,a1,a2,a3,a4,a5,a6⟩:=h8;have⟨m,hm⟩:=FY (show 0<=g.1 by omega);have ad:=a1.vb.2.1;refine AA (P:=λr=>CX r.2/\r.1.length<=8/\ ∀f∈r.1,FI g.2.1.2.1 g.2.1.2.2 m f) (by rw[hm];exact AEe Q li D_ a1 (X1 k) ⟨by omega,by omega⟩ (by omega) ⟨by omega,by omega⟩) λv9 h9=>?_;have⟨R,i8,iF⟩:=h9;refine AA (A8 R (by decide)) λag A_=>?_;refine AA (P:=λ(r:Ag×Aa)=>CX r.1/\QH g.2.1.2.1 r.2/\r.2.2.2=g.2.1.2.2) ?_ λal j=>?_
 ·refine AC (λ_=>?_) (λ_=>AB ⟨A_.1,X1 k,rfl⟩);grind[AA,A8,AX,AIM,AB]
 refine AA (ACW ⟨q,by omega⟩) λao _=>AB ⟨j.1,⟨n,g.2.1.2.2,g.2.1.2.1,m,li,D_,a1,a2,j.2.1,a3,j.2.2.trans S,?_,⟨by omega,by omega⟩,i8,a6,iF⟩,⟨o.1.1,o.1.2.1,o.1.2.2⟩,?_,?_,λe he=>?_⟩
 ·dsimp only;omega
 ·dsimp only;rw[o.2.1];exact⟨Bh _,λt ht=>by cases ht⟩
 ·dsimp only;rw[o.2.2];exact Bh _
 ·obtain⟨i,hi⟩:=Cu ((j.2.1.tail e).1 he).1;exact(li i e hi).2.2.2
noncomputable section

end
end Go.Pm
