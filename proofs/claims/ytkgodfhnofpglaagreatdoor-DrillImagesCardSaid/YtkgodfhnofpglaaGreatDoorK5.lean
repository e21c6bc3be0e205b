/- Texts of wip, joined and shortened by wip/tools/pack.py; nothing is assumed. -/
import Derived.Test.YtkgodfhnofpglaaGreatDoorK4
noncomputable section
set_option linter.all false
set_option maxHeartbeats 400000
open Option renaming some->D
open List renaming length->Z
open Go renaming Ψ->E
open Bool renaming false->X
open Option renaming none->A
open Bool renaming true->Y
open Go renaming Ω->V
open Option renaming some->δ,none->ε
open Bool renaming true->ζ,false->η
open List renaming length->θ,replicate->ς
open Go.IntKind renaming wrap->ι
open BitVec renaming ofInt->κ,toNat->π
open Int renaming toNat->ο
open Decidable renaming decide->τ
namespace Go.Pm
open Go Go.Ab
def IQ(x:Ch):Prop:=θ x.2<=12/\(x.1=ζ\/x.2=[])
def OY(x:Dh):Prop:=0<=x.1/\x.1<64/\0<=x.2.1/\x.2.1<16/\IQ x.2.2.1/\IQ x.2.2.2
def KR{x:Ch}:An (DF x) λr=>r=ζ↔IQ x:=by
 unfold DF IQ
 exact x!
def TY{x:Dh}:An (IX x) λr=>r=ζ↔OY x:=by
 unfold IX OY
 exact x!
def Px:Dh:=(0,0,(η,[]),η,[])
def Ur(x:AE):Prop:=
 (x.2.1=1/\x.2.2.2.2.2.1=0/\x.2.2.2.2.2.2.2=[]/\1<=x.2.2.1/\x.2.2.1<=1073741824/\OY x.2.2.2.2.2.2.1)\/
 (x.2.1=2/\0<x.2.2.2.1/\1<=x.2.2.2.2.2.1/\x.2.2.2.2.2.1<=x.2.2.2.1/\x.2.2.2.2.2.2.2=[]/\1<=x.2.2.1/\x.2.2.1<=1073741824/\OY x.2.2.2.2.2.2.1)\/
 ((x.2.1=3\/x.2.1=4\/x.2.1=5)/\0<x.2.2.2.1/\x.2.2.2.2.1=0/\x.2.2.2.2.2.1=0/\x.2.2.2.2.2.2.1=Px/\x.2.2.2.2.2.2.2=[]/\1<=x.2.2.1/\x.2.2.1<=1073741824)\/
 ((x.2.1=6\/x.2.1=8)/\x.2.2.1=0/\x.2.2.2.1=0/\x.2.2.2.2.1=0/\x.2.2.2.2.2.1=0/\x.2.2.2.2.2.2.1=Px/\θ x.2.2.2.2.2.2.2<=8192)\/
 (x.2.1=7/\x.2.2.1=0/\x.2.2.2.1=0/\x.2.2.2.2.1=0/\0<=x.2.2.2.2.2.2.1.1/\x.2.2.2.2.2.2.1.1<64/\x.2.2.2.2.2.2.1.2=Px.2/\x.2.2.2.2.2.2.2=[])
def L3(x:AE):Prop:=1<=x.1/\x.1<=1099511627776/\0<=x.2.2.2.1/\x.2.2.2.1<x.1/\0<=x.2.2.2.2.1/\x.2.2.2.2.1<x.1/\0<=x.2.2.2.2.2.1/\x.2.2.2.2.2.1<x.1/\Ur x
def aH{x:Int×Int}:An (GQ x) λr=>r=ζ↔0<=x.1/\x.1<x.2:=by
 unfold GQ;exact x!
def ck{x:AE}:An (LP x) λr=>(r.2=true/\r.1=x)↔Ur x:=by
 obtain⟨a,b,c,d,e,f,⟨g,h,⟨i,j⟩,k,l⟩,m⟩:=x;unfold LP Ur Px;dsimp only
 repeat' first
   |with_reducible apply AC<;>intro n
   |with_reducible apply AQ<;>intro n
   |with_reducible apply AJ<;>intro n
   |(with_reducible apply A6;try dsimp only)
   |with_reducible apply BZ
   |with_reducible apply Br
   |with_reducible apply AB
   |(with_reducible apply AA (TY);intro r hr)
 all_goals grind
def CG{x:AE}:An (Cj x) λr=>r=true↔L3 x:=by
 unfold Cj;refine AA ck λn A_=>?_;have e:((n.1.1==x.1)&&((n.1.2.1==x.2.1)&&((n.1.2.2.1==x.2.2.1)&&((n.1.2.2.2.1==x.2.2.2.1)&&((n.1.2.2.2.2.1==x.2.2.2.2.1)&&((n.1.2.2.2.2.2.1==x.2.2.2.2.2.1)&&((n.1.2.2.2.2.2.2.1.1==x.2.2.2.2.2.2.1.1)&&((n.1.2.2.2.2.2.2.1.2.1==x.2.2.2.2.2.2.1.2.1)&&((n.1.2.2.2.2.2.2.1.2.2.1.1==x.2.2.2.2.2.2.1.2.2.1.1)&&((n.1.2.2.2.2.2.2.1.2.2.1.2==x.2.2.2.2.2.2.1.2.2.1.2)&&((n.1.2.2.2.2.2.2.1.2.2.2.1==x.2.2.2.2.2.2.1.2.2.2.1)&&((n.1.2.2.2.2.2.2.1.2.2.2.2==x.2.2.2.2.2.2.1.2.2.2.2)&&((n.1.2.2.2.2.2.2.2==x.2.2.2.2.2.2.2)&&true)))))))))))))=true↔n.1=x:=by obtain⟨⟨a,b,c,d,e,f,⟨g,h,⟨i,j⟩,k,l⟩,m⟩,z⟩:=n;obtain⟨p,q,s,t,u,v,⟨w,y,⟨B,C⟩,D_,E⟩,F⟩:=x;simp[and_assoc]
 generalize ((n.1.1==x.1)&&_)=bb at e⊢;unfold L3
 repeat' first
   |with_reducible apply AC<;>intro o
   |with_reducible apply AQ<;>intro o
   |with_reducible apply AJ<;>intro o
   |(with_reducible apply A6;try dsimp only)
   |with_reducible apply BZ
   |with_reducible apply Br
   |with_reducible apply AB
   |(with_reducible apply AA (aH);intro r hr)
 all_goals grind
def EM{x:AZ}:An (CZ x) λr=>r=wi (wi (x.1+len x.2.1)-1):=by
 unfold CZ;exact x!
def Dd(x:AZ):Prop:=1<=x.1/\x.1<=1099511627776/\θ x.2.1<=4096/\x.1-1<=x.2.2/\x.2.2<=x.1+θ x.2.1-1/\∀(i:Nat)(e:AE),x.2.1[i]?=δ e->e.1=x.1+i/\L3 e
def X6{x:AZ}{s:Int}(h:0<=s/\s<=θ x.2.1/\θ x.2.1<=4096/\1<=x.1/\x.1<=1099511627776/\∀(i:Nat)(e:AE),i<s->x.2.1[i]?=δ e->e.1=x.1+i/\L3 e):An (Aa (NA x) s) λr=>(r=.inl η/\¬Dd x)\/(r=.inr ()/\∀(i:Nat)(e:AE),x.2.1[i]?=δ e->e.1=x.1+i/\L3 e):=by
 refine AU (λ(s:Int)=>0<=s/\s<=θ x.2.1/\θ x.2.1<=4096/\1<=x.1/\x.1<=1099511627776/\∀(i:Nat)(e:AE),i<s->x.2.1[i]?=δ e->e.1=x.1+i/\L3 e) (λ(s:Int)=>((θ x.2.1:Int)-s).toNat) h (λs b=>?_);unfold NA;obtain⟨c,d,f,g,j,k⟩:=b;exact x!
theorem BP{x:AZ}:An (Bw x) λr=>r=ζ↔Dd x:=by
 unfold Bw;exact x!
def HB(x:AT):Prop:=0<=x.1/\x.1<64/\0<=x.2.1/\x.2.1<=1099511627776/\∀i,IQ (x.2.2 i)/\(x.2.1=0->(x.2.2 i).1=η)
def L6{x:AT}:An (HI x) λr=>r=ζ↔0<=x.1/\x.1<64/\0<=x.2.1/\x.2.1<=1099511627776:=by
 unfold HI;exact x!
def X2{x:AT}{s:Int}(h:0<=s/\s<=16/\∀i:Fin 16,(i.val:Int)<s->IQ (x.2.2 i)/\(x.2.1=0->(x.2.2 i).1=η)):An (Aa (M1 x) s) λr=>(r=.inl η/\¬ ∀i,IQ (x.2.2 i)/\(x.2.1=0->(x.2.2 i).1=η))\/(r=.inr ()/\∀i,IQ (x.2.2 i)/\(x.2.1=0->(x.2.2 i).1=η)):=by
 refine AU (λ(s:Int)=>0<=s/\s<=16/\∀i:Fin 16,(i.val:Int)<s->IQ (x.2.2 i)/\(x.2.1=0->(x.2.2 i).1=η)) (λ(s:Int)=>(16-s).toNat) h (λs b=>?_);unfold M1;exact x!
def N2{x:AT}:An (IV x) λr=>r=ζ↔∀i,IQ (x.2.2 i)/\(x.2.1=0->(x.2.2 i).1=η):=by
 unfold IV;exact x!
def cV{x:AT}:An (LM x) λr=>r=ζ↔HB x:=by
 unfold LM HB
 exact x!
def N1{x:AT}:An (Do x) λr=>r=0->HB x:=by
 unfold Do HB
 exact x!
def oH(f:BA):Prop:=HB f.1/\(f.2.1=ζ->1<=f.2.2.1/\f.2.2.1<=f.1.2.1)/\(f.2.1=η->f.2.2.1=0)
def KJ(l:List BA)(n:Int):Prop:=(∀(i:Nat)(f:BA),i<n->l[i]?=δ f->oH f)/\∀(i j:Nat)(f g:BA),i<j->j<n->l[i]?=δ f->l[j]?=δ g->f.1.1≠g.1.1
def PE(x:Bj):Prop:=1<=x.1/\x.1<=64/\θ x.2.1<=x.1/\0<=x.2.2/\(θ x.2.1=0/\x.2.2=0\/x.2.2<θ x.2.1)/\KJ x.2.1 (θ x.2.1)
theorem KJ.step{l:List BA}{n:Int}{f:BA}(e:0<=n)(h:KJ l n)(o:l[n.toNat]?=δ f)(r:oH f)(m:∀(j:Nat)(g:BA),j<n->l[j]?=δ g->g.1.1≠f.1.1):KJ l (n+1):=by
 refine⟨λi g p b=>?_,λi j g k c q b d=>?_⟩;rcases kE i n with a|a;exact h.1 i g a b;grind;rcases kE j n with a|a;exact h.2 i j g k c a b d;have:j=n.toNat:=o!
 grind
theorem pA{l:List BA}{n:Int}{f:BA}(c:0<=n)(d:n<θ l)(a:l[n.toNat]?=δ f)(b:¬oH f):¬KJ l (θ l):=λh=>b (h.1 n.toNat f o! a)
theorem pB{l:List BA}{n:Int}{f:BA}(e:0<=n)(i:n<θ l)(d:l[n.toNat]?=δ f)(c:∃(j:Nat)(g:BA),j<n/\l[j]?=δ g/\g.1.1=f.1.1):¬KJ l (θ l):=λh=>by have⟨j,g,k,a,b⟩:=c;exact h.2 j n.toNat g f o! o! a d b
def Hr{x:Bj}{a:Int}{b:BA}{s:Int}(h:0<=s/\s<=a/\a<=θ x.2.1/\(θ x.2.1:Int)<=16777216/\∀(j:Nat)(g:BA),j<s->x.2.1[j]?=δ g->g.1.1≠b.1.1):An (Aa (FY x a b) s) λr=>(r=.inl η/\∃(j:Nat)(g:BA),j<a/\x.2.1[j]?=δ g/\g.1.1=b.1.1)\/(r=.inr ()/\∀(j:Nat)(g:BA),j<a->x.2.1[j]?=δ g->g.1.1≠b.1.1):=by
 refine AU (λ(s:Int)=>0<=s/\s<=a/\a<=θ x.2.1/\(θ x.2.1:Int)<=16777216/\∀(j:Nat)(g:BA),j<s->x.2.1[j]?=δ g->g.1.1≠b.1.1) (λ(s:Int)=>(a-s).toNat) h (λs d=>?_);unfold FY;exact x!
def YB{x:Bj}{s:Int}(h:0<=s/\s<=θ x.2.1/\(θ x.2.1:Int)<=16777216/\KJ x.2.1 s):An (Aa (NG x) s) λr=>(r=.inl η/\¬KJ x.2.1 (θ x.2.1))\/(r=.inr ()/\KJ x.2.1 (θ x.2.1)):=by
 refine AU (λ(s:Int)=>0<=s/\s<=θ x.2.1/\(θ x.2.1:Int)<=16777216/\KJ x.2.1 s) (λ(s:Int)=>((θ x.2.1:Int)-s).toNat) h (λs d=>?_);unfold NG;repeat' with_reducible first|intro a|apply AC|apply AO|apply AK|apply AJ|(apply BG;try dsimp only)|(apply Av;try dsimp only)|(apply A9<;>(intro u c;try subst c))|apply AB|(apply AA (cV);intro r hr)|(refine AL ?_ (Hr ?_);intro r hr)|(refine AL ?_ (Hr ?_);intro r hr)|(refine AL ?_ (Hr ?_);intro r hr)|(refine AL ?_ (Hr ?_);intro r hr)|(refine AL ?_ (AI ?_ ?_);rintro r ⟨hr,f⟩)
 all_goals try (have e:=AW (x:=s+1))
 all_goals first|omega|(exact⟨o!,o!,o!,o!,λj g b=>N! b o!⟩)|grind[KJ.step,pA,pB,oH]
def KJ.zero(l:List BA):KJ l 0:=⟨λi f h=>N! h o!,λi j f g h a=>N! a o!⟩
def AH7(n h:Int)(a:0<=n)(b:n<=64):(h>if wi (n-1)>0 then wi (n-1)else 0)↔¬(n=0/\h<=0\/h<n):=by grind[AW]
def EB{x:Bj}:An (DO x) λr=>r=ζ↔PE x:=by
 unfold DO PE
 repeat' first
   |with_reducible apply AC<;>intro b
   |(with_reducible apply A9<;>(intro u a;try subst a))
   |with_reducible apply AB
   |(with_reducible refine AL ?_ (YB ?_);intro r hr)
 all_goals try dsimp[len]at*
 all_goals first
  |(exact⟨o!,o!,o!,KJ.zero _⟩)
  |(have c:=AH7 (θ x.2.1) x.2.2 o! o!;grind)
  |grind
def N7{x:Aq}:An (Gx x) λr=>True:=by
 unfold Gx;exact x!
def UR{x:Aq×Aq}:An (E8 x) λr=>True:=by
 unfold E8;exact x!
def F4{x:Aq×Aq}:An (Dz x) λr=>True:=by
 unfold Dz;exact x!
def Yx{x:A4×Int×Cl}{s:Int}(h:0<=s/\s<=θ x.1.1/\(θ x.1.1:Int)<=16777216):An (Aa (OA x) s) λr=>True:=by
 refine AU (λ(s:Int)=>0<=s/\s<=θ x.1.1/\(θ x.1.1:Int)<=16777216) (λ(s:Int)=>((θ x.1.1:Int)-s).toNat) h (λs b=>?_);unfold OA;exact x!
def Hq{x:A4×Int×Cl}(h:θ x.1.1<=16777216):An (D0 x) λr=>True:=by
 unfold D0;exact x!
def Fy(x:A4):Prop:=θ x.1<=16777216/\θ x.2<=16777216
def Qb{x:A4}{a:Int}{s:Int}(h:s<a/\ -1<=s/\0<=a/\a<θ x.1/\θ x.1<=16777216):An (Aa (I7 x a) s) λr=>r≠.inl ζ:=by
 refine AU (λ(s:Int)=>s<a/\ -1<=s/\0<=a/\a<θ x.1/\θ x.1<=16777216) (λ(s:Int)=>(s+1).toNat) h (λs c=>?_);unfold I7;exact x!
def X7{x:A4}{s:Int}(h:0<=s/\s<=θ x.1/\(θ x.1:Int)<=16777216):An (Aa (NB x) s) λr=>r≠.inl ζ:=by
 refine AU (λ(s:Int)=>0<=s/\s<=θ x.1/\(θ x.1:Int)<=16777216) (λ(s:Int)=>((θ x.1:Int)-s).toNat) h (λs c=>?_);unfold NB;exact x!
def X9{x:A4}{a:Int}{b:Aq}{s:Int}(h:0<=s/\s<=a/\(a:Int)<=16777216/\a<=θ x.2):An (Aa (ND x a b) s) λr=>r≠.inl ζ:=by
 refine AU (λ(s:Int)=>0<=s/\s<=a/\(a:Int)<=16777216/\a<=θ x.2) (λ(s:Int)=>((a:Int)-s).toNat) h (λs d=>?_);unfold ND;exact x!
def X8{x:A4}{s:Int}(h:0<=s/\s<=θ x.2/\(θ x.2:Int)<=16777216/\θ x.1<=16777216):An (Aa (NC x) s) λr=>r≠.inl ζ:=by
 refine AU (λ(s:Int)=>0<=s/\s<=θ x.2/\(θ x.2:Int)<=16777216/\θ x.1<=16777216) (λ(s:Int)=>((θ x.2:Int)-s).toNat) h (λs c=>?_);unfold NC;exact x!
def Zb(x:A4):Prop:=θ x.1+θ x.2<=1024
def Ex{x:A4}(h:Fy x):An (Dp x) λr=>r=ζ->Zb x:=by
 unfold Dp Zb;unfold Fy at h
 exact x!
def VTx(x:Aj):Prop:=θ x.2.2.2.2.1<=4096/\θ x.2.2.2.2.2<=8/\1<=x.1
def Yc(x:List Aj):Prop:=θ x<=64/\∀(i:Nat)(t:Aj),x[i]?=δ t->VTx t
def Qd{x:Aj}{s:Int}(h:0<=s/\s<=θ x.2.2.2.2.1/\(θ x.2.2.2.2.1:Int)<=16777216):An (Aa (JB x) s) λr=>r≠.inl ζ:=by
 refine AU (λ(s:Int)=>0<=s/\s<=θ x.2.2.2.2.1/\(θ x.2.2.2.2.1:Int)<=16777216) (λ(s:Int)=>((θ x.2.2.2.2.1:Int)-s).toNat) h (λs b=>?_);unfold JB;exact x!
def Qe{x:Aj}{s:Int}(h:0<=s/\s<=θ x.2.2.2.2.2/\(θ x.2.2.2.2.2:Int)<=16777216):An (Aa (JC x) s) λr=>r≠.inl ζ:=by
 refine AU (λ(s:Int)=>0<=s/\s<=θ x.2.2.2.2.2/\(θ x.2.2.2.2.2:Int)<=16777216) (λ(s:Int)=>((θ x.2.2.2.2.2:Int)-s).toNat) h (λs b=>?_);unfold JC;exact x!
def cy{x:Aj}:An (La x) λr=>r=ζ->VTx x:=by
 unfold La VTx
 exact x!
def YE{x:List Aj}{s:Int}(h:0<=s/\s<=θ x/\(θ x:Int)<=16777216/\∀(i:Nat)(t:Aj),i<s->x[i]?=δ t->VTx t):An (Aa (NI x) s) λr=>r=.inl η\/(r=.inr ()/\∀(i:Nat)(t:Aj),x[i]?=δ t->VTx t):=by
 refine AU (λ(s:Int)=>0<=s/\s<=θ x/\(θ x:Int)<=16777216/\∀(i:Nat)(t:Aj),i<s->x[i]?=δ t->VTx t) (λ(s:Int)=>((θ x:Int)-s).toNat) h (λs b=>?_);unfold NI;exact x!
def Dn{x:List Aj}:An (Dr x) λr=>r=ζ->Yc x:=by
 unfold Dr Yc
 exact x!
def lh(x:Be):Prop:=1<=θ x/\θ x<=64
def iR{x:Int}:An (Gj x) λr=>True:=by
 unfold Gj;exact x!
def YC{x:Be}{s:Int}(h:0<=s/\s<=θ x/\(θ x:Int)<=16777216):An (Aa (I9 x) s) λr=>r≠.inl ζ:=by
 refine AU (λ(s:Int)=>0<=s/\s<=θ x/\(θ x:Int)<=16777216) (λ(s:Int)=>((θ x:Int)-s).toNat) h (λs b=>?_);unfold I9;exact x!
def Ft{x:Be}:An (Dq x) λr=>r=ζ->lh x:=by
 unfold Dq lh
 exact x!
def Uo{x:List Ae×Int}{s:Int}(h:0<=s/\s<=θ x.1/\(θ x.1:Int)<=16777216):An (Aa (Gp x) s) λr=>r≠.inl ζ:=by
 refine AU (λ(s:Int)=>0<=s/\s<=θ x.1/\(θ x.1:Int)<=16777216) (λ(s:Int)=>((θ x.1:Int)-s).toNat) h (λs b=>?_);unfold Gp;exact x!
def PU{x:List Ae×Int}(h:θ x.1<=16777216):An (Ez x) λr=>True:=by
 unfold Ez;exact x!
theorem Cd{b:Type}{l:List b}{i:Nat}{a:b}(h:l[i]?=δ a):i<θ l:=q!
def Yp(p:Int)(e:AE):Bool:=((e.2.1==1)||(e.2.1==2))&&(e.2.2.2.2.2.2.1.1==p)
def BQ(L:List AE)(p:Int):Int:=L.foldl (λa e=>if Yp p e then e.1 else a) 0
theorem PB(L:List AE)(e:AE)(p:Int):BQ (L++[e]) p=if Yp p e then e.1 else BQ L p:=by simp[BQ,kI,kJ,List.foldl_nil]
def upd(x:AT)(e:AE):AT:=(x.1,e.1,WN x.2.2 e.2.2.2.2.2.2.1.2.1 e.2.2.2.2.2.2.1.2.2.2)
def st(L:List AE)(p:Int):AT:=(L.filter (Yp p)).foldl upd (p,0,GF.all (η,[]))
def ABF(L M:List AE)(p:Int):st (L++M) p=(M.filter (Yp p)).foldl upd (st L p):=by unfold st;rw[Gr,kI]
theorem AAP(L:List AE)(e:AE)(p:Int):st (L++[e]) p=if Yp p e then upd (st L p) e else st L p:=by rw[ABF,PZ,kH];split<;>rfl
def ABj(L:List AE)(x:AT):(L.foldl upd x).1=x.1:=by
 induction L generalizing x with
 |nil=>rfl
 |cons e L a=>exact a (upd x e)
theorem Sb(L:List AE)(p:Int):(st L p).1=p:=ABj _ _
theorem J5(L:List AE)(p:Int):(st L p).2.1=BQ L p:=by
 suffices h:∀(L:List AE)(x:AT),((L.filter (Yp p)).foldl upd x).2.1=L.foldl (λa e=>if Yp p e then e.1 else a) x.2.1 from h L _
 intro L;induction L with
 |nil=>exact λx=>rfl
 |cons e L b=>intro x;rw[PZ,kJ];split;exact b (upd x e);exact b x
def w8(n:Int)(L:List AE)(D:List Ae)(R:List BW):Prop:=
 ∀p,0<=p->p<n->(∀d∈D,d.1=p->d.2.2=BQ L p)/\∀r,R[p.toNat]?=δ r->r.1<=BQ L p/\((∀d∈D,d.1≠p)->r.1=BQ L p)
def KP(n:Int)(L:List AE)(F:List BA)(D:List Ae)(R:List BW):Prop:=
 ∀p,0<=p->p<n->(∀f∈F,f.1.1=p->f.1=st L p)/\(∀d∈D,d.1=p->d.2.2=BQ L p)/\
  ∀r,R[p.toNat]?=δ r->r.1<=BQ L p/\((∀d∈D,d.1≠p)->(∀f∈F,f.1.1=p->f.2.1=η)->r.1=BQ L p)
def EOK(n:Int)(M:List AE)(e:AE):Prop:=
 (e.2.1=1\/e.2.1=2->e.2.2.2.2.1=BQ M e.2.2.2.2.2.2.1.1/\Fm (st M e.2.2.2.2.2.2.1.1).2.2 e.2.2.2.2.2.2.1.2.1=δ e.2.2.2.2.2.2.1.2.2.1/\e.2.2.2.2.2.2.1.1<n)/\(e.2.1=7->e.2.2.2.2.2.1=BQ M e.2.2.2.2.2.2.1.1)/\
  (e.2.1=6->∀c,C5 e.2.2.2.2.2.2.2=δ (c,0)->c.1=n->w8 n M c.2.2.2.1 c.2.2.2.2)/\e.2.1≠8
def LI(n:Int)(L:List AE):Prop:=∀(i:Nat)(e:AE),L[i]?=δ e->EOK n (L.take i) e
def LI.nil(n:Int):LI n []:=λi e h=>by simp at h
def LI.app{n:Int}{L:List AE}{e:AE}(h:LI n L)(c:EOK n L e):LI n (L++[e]):=by intro i f b;rcases Ob i (θ L) with a|a|a;rw[CO a]at b;rw[dp o!];exact h i f b;grind;grind[List.getElem?_eq_none]
def LI.pre{n:Int}{L T:List AE}(h:LI n (L++T)):LI n L:=by intro i f a;have:=h i f q!;grind
def FD(B:Int->Prop)(n:Int)(F:List BA)(D:List Ae):Prop:=∀f∈F,0<=f.1.1/\f.1.1<n/\(∀d∈D,d.1≠f.1.1)/\B f.1.1
variable {B:Int->Prop}
def KI(B:Int->Prop)(k:AP):Prop:=LI k.1 k.2.2.1.2.1/\KP k.1 k.2.2.1.2.1 k.2.2.2.1.2.1 k.2.2.2.2.2.2.2 k.2.2.2.2.2.2.1/\FD B k.1 k.2.2.2.1.2.1 k.2.2.2.2.2.2.2
def FD.sub{n:Int}{F G:List BA}{D_:List Ae}(h:FD B n F D_)(a:∀g∈G,∃f∈F,f.1.1=g.1.1/\f.1=g.1):FD B n G D_:=by intro g c;have⟨f,b,e,_⟩:=a g c;rw[<-e];exact h f b
def nS{p b:Int}:∀(L:List AE)(a:Int),a<b->(∀e∈L,e.1<b)->L.foldl (λa e=>if Yp p e then e.1 else a) a<b
 |[],a,ha,_=>ha
 |e::L,a,ha,h=>by refine nS L _ ?_ λf c=>h f (CN _ c);show(if Yp p e=ζ then e.1 else a)<b;split;exact h e Ip;exact ha
def kW{l:AZ}(h:Dd l)(p:Int):BQ l.2.1 p<l.1+θ l.2.1:=by have⟨a,_,_,_,_,b⟩:=h;refine nS _ _ o! λe c=>?_;grind[List.getElem?_of_mem]
def KP.app{n:Int}{L:List AE}{F:List BA}{D:List Ae}{R:List BW}{e:AE}(h:KP n L F D R)(c:e.2.1≠1/\e.2.1≠2):KP n (L++[e]) F D R:=by intro p a b;rw[(by grind[PB,Yp]:BQ (L++[e]) p=BQ L p),(by grind[AAP,Yp]:st (L++[e]) p=st L p)];exact h p a b
def KP.frames{n:Int}{L:List AE}{F G:List BA}{D_:List Ae}{R:List BW}(h:KP n L F D_ R)
  (m:∀g∈G,∃f∈F,f.1.1=g.1.1/\f.1=g.1) (o:∀f∈F,f.2.1=ζ->∃g∈G,g.1.1=f.1.1/\g.2.1=ζ):KP n L G D_ R:=by
 intro p w x;obtain⟨a,b,c⟩:=h p w x;refine⟨λg v e=>?_,b,λr hr=>⟨(c r hr).1,λt u=>(c r hr).2 t λf d e=>?_⟩⟩;obtain⟨f,d,j,k⟩:=m g v;rw[<-k];exact a f d (j.trans e);cases s:f.2.1 with
 |false=>rfl
 |true=>obtain⟨g,q,l,i⟩:=o f d s;rw[u g q (l.trans e)]at i;cases i
def KP.written{n:Int}{L:List AE}{F G:List BA}{D_:List Ae}{R:List BW}{q d:Int}{w:BW}(h:KP n L F D_ R)(B:0≤q)(A_:d=BQ L q)(C:q<n)
  (s:∀g∈G,∃f∈F,f.1.1=g.1.1/\f.1=g.1) (t:∀f∈F,f.1.1≠q->f∈G) (l:R[q.toNat]?=δ w):
  KP n L G D_ (R.set q.toNat ((if d>w.1 then d else w.1),w.2)):=by
 intro p y z;obtain⟨a,b,c⟩:=h p y z;refine⟨λg x e=>?_,b,λr hr=>?_⟩;obtain⟨f,i,m,o⟩:=s g x;rw[<-o];exact a f i (m.trans e);by_cases k:p=q;subst k;have j:p.toNat<θ R:=by rcases Ar p.toNat (θ R) with h|h;exact h;rw[Cf h]at l;cases l
 rw[GJ j]at hr;have:=(c w l).1;have e:r.1=BQ L p:=by rw[<-BH hr];dsimp only;split<;>omega
 exact⟨o!,λ_ _=>e⟩;rw[DD o!]at hr;refine⟨(c r hr).1,λu v=>(c r hr).2 u λf i e=>?_⟩;exact v f (t f i o!) e
def ABD{F:List BA}{i:Nat}{f n:BA}(a:F[i]?=δ f)(hn:n.1=f.1):∀g∈F.set i n,∃f∈F,f.1.1=g.1.1/\f.1=g.1:=q!
def wq{F:List BA}{i:Nat}{f n:BA}(c:F[i]?=δ f):∀g∈F,g.1.1≠f.1.1->g∈F.set i n:=by intro g a b;have⟨j,d⟩:=Ci a;apply BM (i:=j);grind
def KP.change{n:Int}{L:List AE}{F:List BA}{D_:List Ae}{R:List BW}{e:AE}{i:Nat}{f g:BA}(h:KP n L F D_ R)(G:FD B n F D_)
  (t:e.2.1=1\/e.2.1=2) (u:F[i]?=δ f) (I:f.1.1=e.2.2.2.2.2.2.1.1) (v:g.1=upd f.1 e) (y:g.2.1=ζ)
  (J:∀j k,F[j]?=δ k->k.1.1=f.1.1->j=i) (H:BQ L f.1.1<e.1):KP n (L++[e]) (F.set i g) D_ R:=by
 have w:i<θ F:=by rcases Ar i (θ F) with h|h;exact h;rw[Cf h]at u;cases u
 have A_:g∈F.set i g:=BM (i:=i) (GJ w);have C:g.1.1=f.1.1:=by rw[v];rfl
 intro p K M;obtain⟨a,b,c⟩:=h p K M;have E:Yp p e=(f.1.1==p):=by rw[I];unfold Yp;rcases t with h|h<;>simp[h]
 rw[PB,AAP,E];by_cases l:f.1.1=p;subst l;rw[L!,C! rfl,C! rfl];refine⟨λk t m=>?_,λd o m=>N! m ((G f (BM u)).2.2.1 d o),λr hr=>⟨by have:=(c r hr).1;omega,λ_ q=>?_⟩⟩;obtain⟨j,x⟩:=Ci t;by_cases s:j=i;subst s;rw[GJ w]at x;rw[<-BH x,v];exact E! (λz=>upd z e) (a f (BM u) rfl);rw[DD (λh=>s h.symm)]at x;exact N! (J j k x m) s;have:=q g A_ C;rw[y]at this;cases this;rw[D! (by simpa using l),D! (by simpa using l)];refine⟨λk t m=>?_,b,λr hr=>⟨(c r hr).1,λo q=>(c r hr).2 o λk t m=>?_⟩⟩;rcases VN t with h|h;exact a k h m;subst h;exact N! (C.symm.trans m) l;exact q k (wq u k t o!) m
def FD.set{n:Int}{F:List BA}{D_:List Ae}{i:Nat}{f g:BA}(h:FD B n F D_)(b:F[i]?=δ f)(c:g.1.1=f.1.1):FD B n (F.set i g) D_:=by intro k d;rcases VN d with a|a;exact h k a;subst a;rw[c];exact h f (BM b)
def KP.supply{n:Int}{L:List AE}{F:List BA}{D_ l:List Ae}{R:List BW}{x:AT}{g:BA}(h:KP n L F D_ R)(y:x=st L x.1)
  (w:∀f∈F,f.1.1≠x.1) (t:g.1=x) (i:(g.2.1=ζ/\l=D_.filter λd=>d.1 !=x.1)\/(g.2.1=η/\(∀d∈D_,d.1≠x.1)/\l=D_)):KP n L (F++[g]) l R:=by
 intro p z A_;obtain⟨a,b,c⟩:=h p z A_;have v:∀d∈l,d∈D_:=by rcases i with⟨_,e⟩|⟨_,_,e⟩<;>subst e;exact λd i=>(BU.1 i).1;exact λd i=>i
 refine⟨λf j e=>?_,λd i=>b d (v d i),λr hr=>⟨(c r hr).1,λq s=>(c r hr).2 ?_ λf j=>s f (Ff _ j)⟩⟩;rcases Ao.1 j with j|j;exact a f j e;rw[A7]at j;subst j;rw[t]at e⊢;rw[<-e];exact y;intro d k e;rcases i with⟨u,o⟩|⟨_,_,o⟩<;>subst o;by_cases m:p=x.1;have:=s g k! (by rw[t,m]);rw[u]at this;cases this;exact q d (BU.2 ⟨k,w!⟩) e;exact q d k e
def FD.supply{n:Int}{F:List BA}{D_ b:List Ae}{p:Int}{g:BA}(h:FD B n F D_)(k:0<=p)(l:p<n)(i:B p)(j:g.1.1=p)(e:∀d∈b,d∈D_)(hn:∀d∈b,d.1≠p):FD B n (F++[g]) b:=by intro f a;rcases Ao.1 a with a|a;exact⟨(h f a).1,(h f a).2.1,λd c=>(h f a).2.2.1 d (e d c),(h f a).2.2.2⟩;grind
end Go.Pm
namespace Go.Pm
open Go Go.Ab
variable {B:Int->Prop}
def SB(k:AP):Prop:=Fy k.2.2.2.2.1/\θ k.2.2.2.2.2.1<=16777216/\θ k.2.2.2.2.2.2.2<=16777216
def SK(B:Int->Prop)(k:AP):Prop:=Fy k.2.2.2.2.1/\θ k.2.2.2.2.2.1<=16777216/\θ k.2.2.2.2.2.2.2<=16777216/\KI B k
def SK.sb{k:AP}(h:SK B k):SB k:=⟨h.1,h.2.1,h.2.2.1⟩
def SK.ki{k:AP}(h:SK B k):KI B k:=h.2.2.2
def SB.sk{k:AP}(h:SB k)(g:KI B k):SK B k:=⟨h.1,h.2.1,h.2.2,g⟩
def VK(k:AP):Prop:=1<=k.1/\k.1<=64/\Dd k.2.2.1/\PE k.2.2.2.1/\Zb k.2.2.2.2.1/\Yc k.2.2.2.2.2.1/\lh k.2.2.2.2.2.2.1/\θ k.2.2.2.2.2.2.1=k.1
def dC{x:AP}(h:SB x):An (Le x) λr=>r=ζ->VK x:=by
 unfold Le VK;unfold SB at h
 exact x!
def YF{x:AP×Int}{s:Int×Ae}(h:0<=s.1/\s.1<=θ x.1.2.2.2.2.2.2.2/\θ x.1.2.2.2.2.2.2.2<=16777216/\∀(i:Nat)(d:Ae),i<s.1->x.1.2.2.2.2.2.2.2[i]?=δ d->d.1≠x.2):An (Aa (NK x) s) λr=>(∃d∈x.1.2.2.2.2.2.2.2,r=.inl (ζ,d)/\d.1=x.2)\/∃z,r=.inr z/\∀d∈x.1.2.2.2.2.2.2.2,d.1≠x.2:=by
 refine AU (λ(s:Int×Ae)=>0<=s.1/\s.1<=θ x.1.2.2.2.2.2.2.2/\θ x.1.2.2.2.2.2.2.2<=16777216/\∀(i:Nat)(d:Ae),i<s.1->x.1.2.2.2.2.2.2.2[i]?=δ d->d.1≠x.2) (λ(s:Int×Ae)=>((θ x.1.2.2.2.2.2.2.2:Int)-s.1).toNat) h (λs j=>?_);have⟨c,m,f,g⟩:=j;unfold NK;refine AC (λa=>?_) (λa=>AB (.inr ⟨_,rfl,λd b=>?_⟩));simp[len]at a;refine AA (AI c a) λv o=>?_;apply AQ<;>intro n;grind[AA,AI,AB,Option.some.inj];have e:=AW (x:=s.1+1);refine AB ⟨⟨d!,d!,f,λi d k b=>?_⟩,d!⟩;dsimp only at k;by_cases l:(i:Int)<s.1;exact g i d l b;have:i=s.1.toNat:=o!
 grind[Option.some.inj];grind[List.getElem?_of_mem,Nat.lt_or_ge,List.getElem?_eq_none]
def Jo{x:AP×Int}(h:SB x.1):An (Ee x) λr=>(r.2=ζ->r.1∈x.1.2.2.2.2.2.2.2/\r.1.1=x.2)/\(r.2=η->∀d∈x.1.2.2.2.2.2.2.2,d.1≠x.2):=by unfold Ee;refine AA (YF ⟨o!,d!,h.2.2,λi d a=>N! a d!⟩) λv b=>?_;grind[BG,AB,Av]
def YG{x:AP}{s:Int}(h:0<=s/\s<=θ x.2.2.2.2.2.1/\(θ x.2.2.2.2.2.1:Int)<=16777216):An (Aa (NM x) s) λr=>r≠.inl ζ:=by
 refine AU (λ(s:Int)=>0<=s/\s<=θ x.2.2.2.2.2.1/\(θ x.2.2.2.2.2.1:Int)<=16777216) (λ(s:Int)=>((θ x.2.2.2.2.2.1:Int)-s).toNat) h (λs b=>?_);unfold NM;exact x!
def YH{x:AP}{s:Int}(h:0<=s/\s<=θ x.2.2.2.1.2.1/\(θ x.2.2.2.1.2.1:Int)<=16777216/\SB x):An (Aa (NN x) s) λr=>r≠.inl ζ:=by
 refine AU (λ(s:Int)=>0<=s/\s<=θ x.2.2.2.1.2.1/\(θ x.2.2.2.1.2.1:Int)<=16777216/\SB x) (λ(s:Int)=>((θ x.2.2.2.1.2.1:Int)-s).toNat) h (λs b=>?_);unfold NN;exact x!
def YI{x:AP}{s:Int}(h:0<=s/\s<=θ x.2.2.2.2.1.1/\(θ x.2.2.2.2.1.1:Int)<=16777216):An (Aa (NO x) s) λr=>r≠.inl ζ:=by
 refine AU (λ(s:Int)=>0<=s/\s<=θ x.2.2.2.2.1.1/\(θ x.2.2.2.2.1.1:Int)<=16777216) (λ(s:Int)=>((θ x.2.2.2.2.1.1:Int)-s).toNat) h (λs b=>?_);unfold NO;exact x!
def YJ{x:AP}{s:Int}(h:0<=s/\s<=θ x.2.2.2.2.1.2/\(θ x.2.2.2.2.1.2:Int)<=16777216):An (Aa (NP x) s) λr=>r≠.inl ζ:=by
 refine AU (λ(s:Int)=>0<=s/\s<=θ x.2.2.2.2.1.2/\(θ x.2.2.2.2.1.2:Int)<=16777216) (λ(s:Int)=>((θ x.2.2.2.2.1.2:Int)-s).toNat) h (λs b=>?_);unfold NP;exact x!
def B3{x:AP}(h:SB x):An (Ba x) λr=>r=ζ->VK x:=by
 unfold Ba;exact x!
def Y1{x:List Aj×Int}{s:Int}(h:0<=s/\s<=θ x.1/\(θ x.1:Int)<=16777216):An (Aa (Jm x) s) λr=>∀u,r=.inl u->0<=u/\u<θ x.1/\∃t,x.1[u.toNat]?=δ t/\t.1=x.2:=by
 refine AU (λ(s:Int)=>0<=s/\s<=θ x.1/\(θ x.1:Int)<=16777216) (λ(s:Int)=>((θ x.1:Int)-s).toNat) h (λs b=>?_);unfold Jm;exact x!
def Hu{x:List Aj×Int}(h:θ x.1<=16777216):An (EP x) λr=> -1<=r/\r<θ x.1/\(0<=r->∃t,x.1[r.toNat]?=δ t/\t.1=x.2):=by
 unfold EP;exact x!
def FK{x:List Aj×Int}(h:θ x.1<=16777216):An (CM x) λr=> -1<=r/\r<θ x.1/\(0<=r->∃t,x.1[r.toNat]?=δ t/\t.1=x.2):=by
 unfold CM;exact x!
def mc(p:Bj)(id:Int):Prop:=∃(i:Nat)(f:BA),p.2.1[i]?=δ f/\f.1.1=id
def Y0{x:Bj×Int}{s:Int}(h:0<=s/\s<=θ x.1.2.1/\(θ x.1.2.1:Int)<=16777216/\∀(i:Nat)(f:BA),i<s->x.1.2.1[i]?=δ f->f.1.1≠x.2):An (Aa (OB x) s) λr=>(∃u,r=.inl u/\0<=u/\u<θ x.1.2.1/\∃f,x.1.2.1[u.toNat]?=δ f/\f.1.1=x.2)\/(r=.inr ()/\¬mc x.1 x.2):=by
 refine AU (λ(s:Int)=>0<=s/\s<=θ x.1.2.1/\(θ x.1.2.1:Int)<=16777216/\∀(i:Nat)(f:BA),i<s->x.1.2.1[i]?=δ f->f.1.1≠x.2) (λ(s:Int)=>((θ x.1.2.1:Int)-s).toNat) h (λs b=>?_);unfold OB;repeat' with_reducible first|intro a|apply AC|apply AQ|apply AJ|apply AB|(refine AL ?_ (AI ?_ ?_);rintro r ⟨hr,c⟩)
 all_goals try (have e:=AW (x:=s+1))
 all_goals first|omega|grind[mc]
def GS{x:Bj×Int}(h:θ x.1.2.1<=16777216):An (E9 x) λr=> -1<=r/\r<θ x.1.2.1/\(0<=r->∃f,x.1.2.1[r.toNat]?=δ f/\f.1.1=x.2)/\(r<0->¬mc x.1 x.2):=by refine AA (Y0 (by refine⟨o!,o!,o!,λi f a=>N! a o!⟩)) λs b=>?_;grind[BG,AB,Av]
def FJ{x:Bj×Int}:An (D1 x) λr=> -1<=r/\r<θ x.1.2.1/\(0<=r->PE x.1/\∃f,x.1.2.1[r.toNat]?=δ f/\f.1.1=x.2)/\(PE x.1->mc x.1 x.2->0<=r):=by
 unfold D1;exact x!
def Ia{x:Bj×Int}:An (Fc x) λr=>(r.2=ζ->PE x.1/\HB r.1/\mc x.1 x.2/\r.1.1=x.2/\∃f∈x.1.2.1,f.1=r.1)/\(r.2=η->PE x.1->¬mc x.1 x.2):=by
 unfold Fc;exact x!
theorem Dd.last{x:AZ}(h:Dd x):wi (wi (x.1+len x.2.1)-1)=x.1+θ x.2.1-1:=by have⟨a,b,c,d,e,f⟩:=h;grind[AW]
def Dd.at{x:AZ}{n:Int}{e:AE}(h:Dd x)(a:x.1<=n)(b:n<=x.1+θ x.2.1-1)(c:x.2.1[(wi (n-x.1)).toNat]?=δ e):L3 e/\e.1=n:=by have⟨a1,a2,a3,a4,a5,a6⟩:=h;grind[AW]
theorem Dd.append{x:AZ}{e:AE}{l:List AE}(h:Dd x)(b:θ x.2.1≠4096)(d:L3 e)(c:e.1=x.1+θ x.2.1)(a:l=x.2.1++[e]):Dd (x.1,l,x.2.2):=by have⟨a1,a2,a3,a4,a5,a6⟩:=h;subst a;refine⟨a1,a2,w!,a4,w!,λi f g=>?_⟩;grind[Nat.lt_or_ge,List.getElem?_append_right,List.getElem?_eq_none]
def Dd.force{x:AZ}{n:Int}(h:Dd x)(a:n<=x.1+θ x.2.1-1):Dd (x.1,x.2.1,if n>x.2.2 then n else x.2.2):=by have⟨a1,a2,a3,a4,a5,a6⟩:=h;refine⟨a1,a2,a3,?_,?_,a6⟩<;>(dsimp only;split<;>omega)
def GR{x:AZ}:An (E7 x) λr=>Dd x->r=x.1+θ x.2.1-1:=by
 unfold E7;exact x!
def Jk{x:AZ×Int}:An (D7 x) λr=>(r.2=0->Dd r.1/\r.1.2.1=x.1.2.1/\r.1.1=x.1.1/\x.1.2.2<=r.1.2.2/\x.2<=r.1.2.2):=by
 unfold D7;repeat' with_reducible first|apply AC<;>intro a|apply AO<;>intro a|apply AJ<;>intro a|apply AB|(apply AA (BP);intro r hr)|(apply AA (EM);intro r hr)
 all_goals try (intro _;have b:Dd x.1:=by grind
                have c:=b.last;exact⟨b.force (by omega),rfl,rfl,by dsimp only;split<;>omega,by dsimp only;split<;>omega⟩)
 all_goals ((try dsimp[len]at*);(try first|omega|assumption|grind[AW]))
theorem Gw{x:AZ×Int}:An (Eo x) λr=>(r.2=0->L3 r.1/\r.1.1=x.2/\x.1.2.1[(x.2-x.1.1).toNat]?=δ r.1/\x.1.1<=x.2)/\(Dd x.1->x.1.1<=x.2->x.2<=x.1.1+θ x.1.2.1-1->r.2=0):=by
 unfold Eo;repeat' with_reducible first|intro c|apply AC|apply AO|apply AJ|apply AB|(apply AA (BP);intro r hr)|(apply AA (EM);intro r hr)|(refine AL ?_ (AI ?_ ?_);rintro r ⟨hr,f⟩)
 all_goals try (have a:Dd x.1:=q!)
 all_goals try (have e:=a.last;have:=a.1;have:=a.2.1;have:=a.2.2.1)
 all_goals try (have d:wi (x.2-x.1.1)=x.2-x.1.1:=AW)
 all_goals try (have b:=a.at (n:=x.2) o! o! hr;rw[d]at hr;exact⟨λ_=>⟨b.1,b.2,hr,o!⟩,λ_ _ _=>rfl⟩)
 all_goals exact l!
def aI{x:AZ×AE}:An (KT x) λr=>(r.2.2=0->Dd r.1/\Dd x.1/\r.1.2.1=x.1.2.1++[(r.2.1,x.2.2)]/\r.1.1=x.1.1/\r.2.1=x.1.1+θ x.1.2.1/\r.1.2.2=x.1.2.2):=by
 unfold KT;repeat' with_reducible first|intro b|apply AO|apply AQ|apply AJ|apply AB|(apply AA (BP);intro r hr)|(apply AA (EM);intro r hr)|(apply AA (CG);intro r hr)|(refine AL ?_ (Ac ?_);rintro r ⟨hr,c,d⟩)
 all_goals try (have a:Dd x.1:=q!)
 all_goals try (have c:=a.last;have:=a.1;have:=a.2.1;have:=a.2.2.1)
 all_goals ((try dsimp[len]at*);(try first|omega|assumption|grind[AW,Dd.append]))
def Bs{x:AE}:An (BE x) λr=>r=ζ↔x.2.1=1\/x.2.1=2:=by
 unfold BE;exact x!
end Go.Pm
namespace Go.Pm
open Go Go.Ab
def rF(n:Int):0<=ι .u64 n:=by rw[WI];omega
theorem dx(l:List Int):(Ga l).length=θ l:=by simp[Ga]
def aB{x:BV×Int×Int}{s:BV×Int}(h:0<=s.2/\s.2<=x.2.2/\x.2.2<=8/\(θ s.1:Int)=θ x.1+s.2/\θ x.1<=1099511627776):An (Aa (GO x) s) λr=>(θ r:Int)=θ x.1+x.2.2:=by
 refine AU (λ(s:BV×Int)=>0<=s.2/\s.2<=x.2.2/\x.2.2<=8/\(θ s.1:Int)=θ x.1+s.2/\θ x.1<=1099511627776) (λ(s:BV×Int)=>(x.2.2-s.2).toNat) h (λs b=>?_);unfold GO;repeat' with_reducible first|intro a|apply AC|apply AJ|apply AB|apply Z9|(refine AL ?_ (Co ?_);rintro r ⟨hr,c⟩)
 all_goals try (have d:=rF (wi (8*s.2));omega)
 all_goals ((try dsimp[len]at*);(try first|omega|assumption|grind[AW,dx]))
def DN{x:BV×Int×Int}(h:θ x.1<=1099511627776):An (Ah x) λr=>(1<=x.2.2->x.2.2<=8->(θ r:Int)=θ x.1+x.2.2)/\θ r<=θ x.1+8:=by
 unfold Ah;exact x!
def AA8{n:Int}(h:n<=4):(2:Int)^(8*n.toNat)<=4294967296:=by
 have:n.toNat=0\/n.toNat=1\/n.toNat=2\/n.toNat=3\/n.toNat=4:=o!
 rcases this with h|h|h|h|h<;>rw[h]<;>decide
def AFf{n:Int}(h:n<=2):(2:Int)^(8*n.toNat)<=65536:=by
 have:n.toNat=0\/n.toNat=1\/n.toNat=2:=o!
 rcases this with h|h|h<;>rw[h]<;>decide
def ADk{a b:Int}{k:Nat}(e:0<=a)(c:a<2^k)(f:0<=b)(d:b<2^k)(g:k<=64):(0:Int)<=((π (κ 64 a|||κ 64 b):Nat):Int)/\((π (κ 64 a|||κ 64 b):Nat):Int)<2^k:=by
 refine⟨o!,?_⟩;obtain⟨n,rfl⟩:=FC e;obtain⟨m,rfl⟩:=FC f;have hn:n<2^k:=by exact_mod_cast c
 have h:m<2^k:=by exact_mod_cast d
 have i:2^k<=2^64:=dt g! g;rw[BitVec.toNat_or];simp[oK,oL];rw[VQ o!,VQ o!];exact_mod_cast Nat.or_lt_two_pow hn h
def xu{a v i:Int}(d:0≤i)(e:i<8)(c:0≤a)(b:a<2^(8*i.toNat))(g:0≤v)(h:v<256):
  0<=ι .u64 (((π ((κ 64 a)|||(κ 64 (ι .u64 ((ι .u64 v)*(2^(min (ο (ι .u64 (wi (8*i)))) 64))))))):Nat):Int)/\
  ι .u64 (((π ((κ 64 a)|||(κ 64 (ι .u64 ((ι .u64 v)*(2^(min (ο (ι .u64 (wi (8*i)))) 64))))))):Nat):Int)<2^(8*(wi (i+1)).toNat):=by
 rw[(AW),AW,(by rw[WI];omega:ι .u64 (8*i)=8*i),(by rw[WI];omega:ι .u64 v=v)];obtain⟨n,rfl⟩:=FC d;obtain⟨m,rfl⟩:=FC g;rw[(by omega:min (8*(n:Int)).toNat 64=8*n)];rw[(by omega:((n:Int)+1).toNat=n+1)];rw[(by omega:((n:Int)).toNat=n)]at b;have f:(m:Int)*2^(8*n)<2^(8*(n+1)):=by
  have:(m*2^(8*n):Nat)<2^(8*(n+1)):=by rw[(by grind[Nat.mul_add,Nat.pow_add]:2^(8*(n+1))=256*2^(8*n))];exact Nat.mul_lt_mul_of_pos_right o! (Nat.pow_pos g!)
  exact_mod_cast this
 have l:(2:Int)^(8*(n+1))<=2^64:=by have:(2^(8*(n+1)):Nat)<=2^64:=dt g! o!;exact_mod_cast this
 have j:(0:Int)<=(m:Int)*2^(8*n):=by
  have:(0:Int)<=((m*2^(8*n):Nat):Int):=o!
  exact_mod_cast this
 rw[(by rw[WI];omega:ι .u64 ((m:Int)*2^(8*n))=(m:Int)*2^(8*n))];have⟨o,p⟩:=ADk (k:=8*(n+1)) c (by grind[Nat.pow_le_pow_right]) j f o!;grind[π,WI]
def aA{x:BV×Int×Int}{s:Int×Int}(h:0<=s.2/\s.2<=x.2.2/\x.2.2<=8/\0<=x.2.1/\x.2.1+x.2.2<=θ x.1/\θ x.1<=1099511627776/\0<=s.1/\s.1<2^(8*s.2.toNat)):An (Aa (GN x) s) λr=>0<=r/\r<2^(8*x.2.2.toNat):=by
 refine AU (λ(s:Int×Int)=>0<=s.2/\s.2<=x.2.2/\x.2.2<=8/\0<=x.2.1/\x.2.1+x.2.2<=θ x.1/\θ x.1<=1099511627776/\0<=s.1/\s.1<2^(8*s.2.toNat)) (λ(s:Int×Int)=>(x.2.2-s.2).toNat) h (λs n=>?_);unfold GN;have⟨d,q,f,g,j,k,l,m⟩:=n;repeat' with_reducible first|intro o|apply AC|apply AJ|apply AB|apply Z9|(refine AL ?_ (UH ?_ ?_);rintro r ⟨hr,p⟩)
 all_goals try (have t:=rF (wi (8*s.2));omega)
 all_goals (first|(have⟨b,c⟩:=xu (a:=s.1) (v:=r) (i:=s.2) d o! l m hr p;have e:=AW (x:=s.2+1);exact⟨⟨o!,o!,f,g,j,k,b,c⟩,d!⟩)|skip)
 all_goals exact l!
def DM{x:BV×Int×Int}(h:x.1.length<=1099511627776):An (Au x) λr=>r.2=0->0<=x.2.1/\x.2.1+x.2.2<=x.1.length/\(x.2.2<=4->0<=r.1/\r.1<4294967296)/\(x.2.2<=2->r.1<65536):=by
 unfold Au;repeat' with_reducible first|apply AC<;>intro c|apply AJ<;>intro c|apply AB|(refine AL ?_ (aA ?_);intro r hr)
 all_goals dsimp[len]at*
 all_goals first
  |omega
  |(intro d;exact absurd d (by decide))
  |(have e:=AW (x:=(x.1.length:Int)-x.2.1);exact⟨by omega,by omega,by omega,by omega,by omega,h,by omega,by simp⟩)
  |(intro _;have e:=AW (x:=(x.1.length:Int)-x.2.1);refine⟨by omega,by omega,λb=>?_,λa=>?_⟩;(have:=AA8 b;rw[AW];omega);(have:=AFf a;rw[AW];omega))
def aD  {s:Int×Int}(h:0<=s.2/\s.2<=8):An (Aa (Hp) s) λr=>True:=by
 refine AU (λ(s:Int×Int)=>0<=s.2/\s.2<=8) (λ(s:Int×Int)=>(8-s.2).toNat) h (λs b=>?_);unfold Hp;exact x!
def aC{x:BV}{s:Int×Int}(h:0<=s.2/\s.2<=θ x/\θ x<=1099511627776):An (Aa (Ho x) s) λr=>True:=by
 refine AU (λ(s:Int×Int)=>0<=s.2/\s.2<=θ x/\θ x<=1099511627776) (λ(s:Int×Int)=>((θ x:Int)-s.2).toNat) h (λs b=>?_);unfold Ho;exact x!
def U7{x:BV}(h:θ x<=1099511627776):An (Em x) λr=>True:=by
 unfold Em;exact x!
theorem TW{x:BV}:An (DH x) λr=>θ r<=8408:=by
 unfold DH;repeat' with_reducible first|intro a|apply AC|apply AJ|apply AB|(refine AL ?_ (DN ?_);intro r hr)|(refine AL ?_ (U7 ?_);intro r hr)|(refine AL ?_ (Co ?_);rintro r ⟨hr,b⟩)
 all_goals dsimp[len]at*
 all_goals exact l!
def fe{x:BV×Ch}(h:θ x.1<=1099511627776)(b:θ x.2.2<=16777216):An (F3 x) λr=>θ r<=θ x.1+8+θ x.2.2:=by
 unfold F3;exact x!
def Ur.lens{x:AE}(h:Ur x):θ x.2.2.2.2.2.2.1.2.2.1.2<=12/\θ x.2.2.2.2.2.2.1.2.2.2.2<=12/\θ x.2.2.2.2.2.2.2<=8192:=by grind[Ur,OY,IQ,Px]
theorem aG{x:AE}:An (FG x) λr=>θ r.1<=8400:=by
 unfold FG;repeat' with_reducible first|intro a|apply AO|apply AJ|apply AB|(apply AA (CG);intro r hr)|(refine AL ?_ (DN ?_);intro r hr)|(refine AL ?_ (fe ?_ ?_);intro r hr)|(refine AL ?_ (Co ?_);rintro r ⟨hr,b⟩)
 all_goals try (have c:=(Ur.lens (x:=x) (by unfold L3 at*;grind)))
 all_goals exact l!
def AFY(k:Nat):(0:Int)<256^k:=by have:0<256^k:=Nat.pow_pos g!;grind
def AIS(b k:Nat):(b:Int)*256^k=((b*256^k:Nat):Int):=q!
def DZ(n:Int):Nat->BV
 |0=>[]
 |k+1=>UInt8.ofNat (n%256).toNat::DZ (n/256) k
def nr:BV->Nat
 |[]=>0
 |b::r=>b.toNat+256*nr r
theorem A3:∀(k:Nat)(n:Int),(DZ n k).length=k
 |0,n=>rfl
 |k+1,n=>by rw[DZ,Cg,A3 k]
theorem tC:∀l:BV,nr l<256^θ l
 |[]=>by simp[nr]
 |b::r=>by have a:=tC r;have c:=b.toNat_lt;grind[nr,List.length_cons,Nat.pow_succ]
def AA4:∀l:BV,DZ (nr l:Int) (θ l)=l
 |[]=>rfl
 |b::r=>by have a:=b.toNat_lt;rw[Cg,DZ,(by rw[nr];omega:((nr (b::r):Nat):Int)/256=(nr r:Int)),(by rw[nr];omega:(((nr (b::r):Nat):Int)%256).toNat=b.toNat),AA4 r];simp
def vB:∀(k:Nat)(n m:Int),n%256^k=m%256^k->DZ n k=DZ m k
 |0,_,_,_=>rfl
 |k+1,n,m,h=>by
  have e:(256:Int)^(k+1)=256^k*256:=Int.pow_succ ..;have b:n%256=m%256:=by have a:n%256^(k+1)%256=n%256:=Int.emod_emod_of_dvd n ⟨256^k,by rw[e,Int.mul_comm]⟩;simp_all
  have c:n/256%256^k=m/256%256^k:=by
   have g:∀x:Int,x/256%256^k=x%256^(k+1)/256:=λx=>by have d:=oN (x/256) (256^k);have f:=oN x (256*256^k);grind[Int.ediv_ediv_of_nonneg]
   grind
  rw[DZ,DZ,b,vB k _ _ c]
def tB:∀(k:Nat)(n:Int),DZ n (k+1)=DZ n k++[UInt8.ofNat (n/256^k%256).toNat]
 |0,n=>by simp[DZ]
 |k+1,n=>by rw[DZ,tB k (n/256),DZ];grind[Int.pow_succ,Int.mul_comm,Int.ediv_ediv_of_nonneg]
theorem qy:∀(k:Nat)(n:Int),((nr (DZ n k):Nat):Int)=n%256^k
 |0,n=>by simp[DZ,nr]
 |k+1,n=>by
  rw[DZ,nr];have b:(UInt8.ofNat (n%256).toNat).toNat=(n%256).toNat:=by grind[UInt8.toNat_ofNat']
  have c:=qy k (n/256);have a:=oN (n/256) (256^k);grind[Int.mul_ediv_add_emod,Int.ediv_ediv_of_nonneg]
theorem tD:∀(l:BV)(b:UInt8),nr (l++[b])=nr l+b.toNat*256^θ l
 |[],b=>by simp[nr]
 |a::r,b=>by rw[am,nr,tD r b,nr,Cg,Nat.pow_succ,Nat.mul_add];grind
def dc(k:Nat)(n:Int):Prop:=(k<=7->0<=n/\n<256^k)/\ -9223372036854775808<=n/\n<=9223372036854775807
theorem ZU{k:Nat}(f:k<=8){n m:Int}(hn:dc k n)(d:dc k m)(h:DZ n k=DZ m k):n=m:=by
 have e:=qy k n;rw[h,qy k m]at e;by_cases c:k<=7;have a:=hn.1 c;have b:=d.1 c;grind[Int.emod_eq_of_lt];have:k=8:=o!
 have a:=hn.2;have b:=d.2;grind
def rd(l:BV):Int:=wi (nr l:Int)
def AIT{k:Nat}(h:k<=7):(256:Int)^k<=72057594037927936:=by
 have:k=0\/k=1\/k=2\/k=3\/k=4\/k=5\/k=6\/k=7:=o!
 grind
theorem zz{l:BV}(h:θ l<=8):dc (θ l) (rd l):=by have b:=tC l;have d:rd l=((nr l:Int)+9223372036854775808)%18446744073709551616-9223372036854775808:=AES _;refine⟨λa=>?_,o!⟩;have c:=AIT a;grind
theorem wS{l:BV}(h:θ l<=8):DZ (rd l) (θ l)=l:=by
 rw[show DZ (rd l) (θ l)=DZ (nr l:Int) (θ l) from ?_,AA4];apply vB;by_cases a:θ l<=7;have c:=AIT a;have b:(nr l:Int)<256^θ l:=by grind[tC]
 have:rd l=(nr l:Int):=by unfold rd;exact AW
 rw[this];have:θ l=8:=o!
 rw[this,show(256:Int)^8=18446744073709551616 by decide];unfold rd;rw[AES];omega
theorem pW{k:Nat}{n:Int}(a:k<=8)(h:dc k n):rd (DZ n k)=n:=by grind[A3,ZU,zz,DZ,wS]
def zt(k:Nat):(2:Int)^(8*k)=256^k:=by grind[Int.pow_mul]
def ADw{n:Int}{i:Int}(c:0<=i)(d:i<8):Ga ([ι .u8 (Int.fdiv (ι .u64 n) (2^(min (ο (ι .u64 (wi (8*i)))) 64)))]:List Int)=[UInt8.ofNat (n/256^i.toNat%256).toNat]:=by
 have a:wi (8*i)=8*i:=AW;have b:ι .u64 (8*i)=8*i:=by rw[WI];omega
 rw[a,b,show min (8*i).toNat 64=8*i.toNat by omega,zt];have e:=AFY i.toNat
 rw[kC _ o!,WI,AIi];have:n%18446744073709551616/256^i.toNat%256=n/256^i.toNat%256:=by
  have:i.toNat=0\/i.toNat=1\/i.toNat=2\/i.toNat=3\/i.toNat=4\/i.toNat=5\/i.toNat=6\/i.toNat=7:=o!
  rcases this with h|h|h|h|h|h|h|h<;>rw[h];rw[show(256:Int)^0=1 by decide];omega;rw[show(256:Int)^1=256 by decide];omega;rw[show(256:Int)^2=65536 by decide];omega;rw[show(256:Int)^3=16777216 by decide];omega;rw[show(256:Int)^4=4294967296 by decide];omega;rw[show(256:Int)^5=1099511627776 by decide];omega;rw[show(256:Int)^6=281474976710656 by decide];omega;rw[show(256:Int)^7=72057594037927936 by decide];omega
 rw[this];rfl
theorem HZ{s:BV}{n:Int}{k:Int}(h:θ s<=1099511627776)(i:1<=k)(j:k<=8):Ah (s,n,k)=δ (s++DZ n k.toNat):=by
 have key:An (Aa (GO (s,n,k)) (s,0)) λr=>r=s++DZ n k.toNat:=by refine AU (λ(t:BV×Int)=>0<=t.2/\t.2<=k/\t.1=s++DZ n t.2.toNat) (λt=>(k-t.2).toNat) ⟨AX _,d!,by simp[DZ]⟩ ?_;rintro⟨l,a⟩ ⟨b,g,c⟩;dsimp only at b g c;subst c;unfold GO;dsimp only;refine AC (λd=>?_) (λd=>AB (by rw[show a=k by omega]));refine AC (λe=>N! e (by have:=rF (wi (8*a));omega)) (λ_=>?_);rw[ADw b o!];refine AA (Co (by rw[Af,A3];simp;omega)) λv f=>AB ?_;rw[(AW)];refine⟨⟨o!,o!,?_⟩,o!⟩;rw[f.1,show(a+1).toNat=a.toNat+1 by omega,tB,A5]
 obtain⟨r,hr,rfl⟩:=key;unfold Ah;grind
def ym{a t:BV}{i:Int}(c:0<=i)(d:i<θ t)(e:(θ a:Int)<=2199023255552)(f:(θ t:Int)<=2199023255552):∃b:UInt8,six (a++t) (wi ((θ a:Int)+i))=δ (b.toNat:Int)/\t.take (i+1).toNat=t.take i.toNat++[b]:=by obtain⟨k,rfl⟩:=FC c;refine⟨t[k],?_,?_⟩;grind[AW,six];simp_all
theorem AHK{a b k:Nat}(h:a<256^k)(f:b<256)(g:k<8):π (κ 64 (a:Int)|||κ 64 ((b:Int)*256^k))=a+b*256^k:=by
 have e:(256:Nat)^k=2^(8*k):=by rw[Nat.pow_mul]
 have d:a+b*256^k<256^(k+1):=by
  have:b*256^k+256^k<=256*256^k:=by rw[<-Nat.succ_mul];exact Mu _ o!
  omega
 have c:(256:Nat)^(k+1)<=2^64:=by rw[show(2:Nat)^64=256^8 by decide];exact dt g! o!
 rw[AIS];rw[BitVec.toNat_or,oK,oK,oL,oL,VQ o!,VQ o!];grind[Nat.mul_comm,Nat.two_pow_add_eq_or_of_lt]
theorem AAw{a:Nat}{b:UInt8}{i:Int}(g:0<=i)(h:i<8)(k:a<256^i.toNat)(j:Int)(d:j=8*i):ι .u64 (((π ((κ 64 (a:Int))|||(κ 64 (ι .u64 ((ι .u64 (b.toNat:Int))*(2^(min (ο j) 64))))))):Nat):Int)=((a+b.toNat*256^i.toNat:Nat):Int):=by
 have l:=b.toNat_lt;have c:(256:Nat)^(i.toNat+1)<=2^64:=by rw[show(2:Nat)^64=256^8 by decide];exact dt g! o!
 have e:a+b.toNat*256^i.toNat<256^(i.toNat+1):=by
  have:b.toNat*256^i.toNat+256^i.toNat<=256*256^i.toNat:=by rw[<-Nat.succ_mul];exact Mu _ o!
  omega
 rw[d,(by rw[WI];omega:ι .u64 (b.toNat:Int)=b.toNat),show min (8*i).toNat 64=8*i.toNat by omega,zt];have f:ι .u64 ((b.toNat:Int)*256^i.toNat)=(b.toNat:Int)*256^i.toNat:=by rw[WI,AIS];omega
 grind[AHK,WI]
theorem ig{a t:BV}{k:Int}(h:(θ a:Int)+θ t<=2199023255552)(x:1<=k)(y:k<=8):Au (a++t,(θ a:Int),k)=if k<=θ t then δ (rd (t.take k.toNat),0)else δ (0,5):=by
 unfold Au;dsimp only;have d:len (a++t)=(θ a:Int)+θ t:=by unfold len;rw[List.length_append];omega
 rw[F! o!,A!,F! o!,A!,F! o!,A!,F! o!,A!];have q:wi (len (a++t)-(θ a:Int))=θ t:=by rw[d,AW];omega
 by_cases g:k<=θ t;rw[F! o!,A!,C! g];have key:An (Aa (GN (a++t,(θ a:Int),k)) (0,0)) λr=>r=(nr (t.take k.toNat):Int):=by
  refine AU (λ(s:Int×Int)=>0<=s.2/\s.2<=k/\s.1=(nr (t.take s.2.toNat):Int)) (λs=>(k-s.2).toNat) ⟨AX _,d!,by simp[nr]⟩ ?_;rintro⟨z,c⟩ ⟨f,u,l⟩;dsimp only at f u l;subst l;unfold GN;dsimp only;refine AC (λo=>?_) (λo=>AB (by rw[show c=k by omega]));obtain⟨b,v,w⟩:=ym (a:=a) (t:=t) (i:=c) f o! o! o!;rw[v,AD];refine AC (λp=>N! p (by have:=rF (wi (8*c));omega)) (λ_=>AB ?_);have e:wi (c+1)=c+1:=AW;have m:wi (8*c)=8*c:=AW;have n:ι .u64 (8*c)=8*c:=by rw[WI];omega
  have j:(t.take c.toNat).length=c.toNat:=by rw[BJ];omega
  dsimp only;rw[e,AAw f o! (by have:=tC (t.take c.toNat);rwa [j]at this) _ (by rw[m,n])];refine⟨⟨o!,o!,?_⟩,o!⟩;rw[w,tD,j]
 obtain⟨r,hr,rfl⟩:=key;rw[hr];rfl;rw[G! o!,B!,D! g]
theorem XK{a t:BV}{k:Int}(h:(θ a:Int)+θ t<=2199023255552)(q:1<=k)(u:k<=8):Bl (a++t,(θ a:Int),k)=if k<=θ t then δ (rd (t.take k.toNat),0)else δ (0,5):=by
 unfold Bl;dsimp only;have f:len (a++t)=(θ a:Int)+θ t:=q!
 rw[F! o!,A!,F! o!,A!,F! o!,A!,F! o!,A!];have m:wi (len (a++t)-(θ a:Int))=θ t:=by grind[AW]
 by_cases l:k<=θ t;rw[F! o!,A!,C! l];have key:An (Aa (UJ (a++t,(θ a:Int),k)) (0,0)) λr=>r=(nr (t.take k.toNat):Int):=by refine AU (λ(s:Int×Int)=>0<=s.2/\s.2<=k/\s.1=(nr (t.take s.2.toNat):Int)) (λs=>(k-s.2).toNat) ⟨AX _,d!,by simp[nr]⟩ ?_;rintro⟨w,c⟩ ⟨d,n,e⟩;dsimp only at d n e;subst e;unfold UJ;dsimp only;refine AC (λg=>?_) (λg=>AB (by rw[show c=k by omega]));have⟨b,o,v⟩:=ym (a:=a) (t:=t) (i:=c) d o! o! o!;have p:wi (8*c)=8*c:=AW;rw[o,AD];refine AC (λj=>N! j o!) (λ_=>AB ?_);grind[AW,AAw,tC,tD]
 obtain⟨r,hr,rfl⟩:=key;rw[hr];rfl;grind
def OM(x:BV×Int×Int):Option BV:=
 bif τ (θ x.1<=1099511627776)&&(τ (1<=x.2.2)&&τ (x.2.2<=8))then δ (x.1++DZ x.2.1 x.2.2.toNat)else ε
def Kp(x:BV×Int):Option BV:=
 bif (x.1==[0])&&(τ (0<=x.2)&&τ (x.2<=8000))then δ (ς x.2.toNat 0)else ε
end Go.Pm
