/- Texts of wip, joined and shortened by wip/tools/pack.py; nothing is assumed. -/
import Derived.Test.YtdbincbpjobdpaaGreatK7
noncomputable section
set_option linter.all false
open Option renaming some->δ,none->ε,bind->σ
open Bool renaming true->ζ,false->η
open List renaming length->θ,replicate->ς
open Go.IntKind renaming wrap->ι
open BitVec renaming ofInt->κ,toNat->π
open Sum renaming elim->ν
open Nat renaming beq->ξ
open Int renaming toNat->ο
open Decidable renaming decide->τ
namespace Go.Pm
open Go Go.Ab
set_option maxHeartbeats 400000
def Gt(x:Cg):Prop:=θ x.2<=12/\(x.1=ζ\/x.2=[])
def Oe(x:Du):Prop:=0<=x.1/\x.1<64/\0<=x.2.1/\x.2.1<16/\Gt x.2.2.1/\Gt x.2.2.2
def KU{x:Cg}:As (Da x) λr=>r=ζ↔Gt x:=by
 unfold Da Gt
 exact x!
def Tr{x:Du}:As (Il x) λr=>r=ζ↔Oe x:=by
 unfold Il Oe
 exact x!
def P2:Du:=(0,0,(η,[]),η,[])
def VE(x:AE):Prop:=
 (x.2.1=1/\x.2.2.2.2.2.1=0/\x.2.2.2.2.2.2.2=[]/\1<=x.2.2.1/\x.2.2.1<=1073741824/\Oe x.2.2.2.2.2.2.1)\/
 (x.2.1=2/\0<x.2.2.2.1/\1<=x.2.2.2.2.2.1/\x.2.2.2.2.2.1<=x.2.2.2.1/\x.2.2.2.2.2.2.2=[]/\1<=x.2.2.1/\x.2.2.1<=1073741824/\Oe x.2.2.2.2.2.2.1)\/
 ((x.2.1=3\/x.2.1=4\/x.2.1=5)/\0<x.2.2.2.1/\x.2.2.2.2.1=0/\x.2.2.2.2.2.1=0/\x.2.2.2.2.2.2.1=P2/\x.2.2.2.2.2.2.2=[]/\1<=x.2.2.1/\x.2.2.1<=1073741824)\/
 ((x.2.1=6\/x.2.1=8)/\x.2.2.1=0/\x.2.2.2.1=0/\x.2.2.2.2.1=0/\x.2.2.2.2.2.1=0/\x.2.2.2.2.2.2.1=P2/\θ x.2.2.2.2.2.2.2<=8192)\/
 (x.2.1=7/\x.2.2.1=0/\x.2.2.2.1=0/\x.2.2.2.2.1=0/\0<=x.2.2.2.2.2.2.1.1/\x.2.2.2.2.2.2.1.1<64/\x.2.2.2.2.2.2.1.2=P2.2/\x.2.2.2.2.2.2.2=[])
def L5(x:AE):Prop:=1<=x.1/\x.1<=1099511627776/\0<=x.2.2.2.1/\x.2.2.2.1<x.1/\0<=x.2.2.2.2.1/\x.2.2.2.2.1<x.1/\0<=x.2.2.2.2.2.1/\x.2.2.2.2.2.1<x.1/\VE x
def ac{x:Int×Int}:As (Ga x) λr=>r=ζ↔0<=x.1/\x.1<x.2:=by
 unfold Ga;exact x!
def dP{x:AE}:As (LY x) λr=>(r.2=true/\r.1=x)↔VE x:=by
 obtain⟨a,b,c,d,e,f,⟨g,h,⟨i,j⟩,k,l⟩,m⟩:=x;unfold LY VE P2;dsimp only
 repeat' first
   |with_reducible apply AC<;>intro n
   |with_reducible apply AP<;>intro n
   |with_reducible apply AK<;>intro n
   |(with_reducible apply BF;try dsimp only)
   |with_reducible apply Bh
   |with_reducible apply B0
   |with_reducible apply AB
   |(with_reducible apply AA (Tr);intro r hr)
 all_goals grind
def CV{x:AE}:As (Cq x) λr=>r=true↔L5 x:=by
 unfold Cq;refine AA dP λn A=>?_;have e:((n.1.1==x.1)&&((n.1.2.1==x.2.1)&&((n.1.2.2.1==x.2.2.1)&&((n.1.2.2.2.1==x.2.2.2.1)&&((n.1.2.2.2.2.1==x.2.2.2.2.1)&&((n.1.2.2.2.2.2.1==x.2.2.2.2.2.1)&&((n.1.2.2.2.2.2.2.1.1==x.2.2.2.2.2.2.1.1)&&((n.1.2.2.2.2.2.2.1.2.1==x.2.2.2.2.2.2.1.2.1)&&((n.1.2.2.2.2.2.2.1.2.2.1.1==x.2.2.2.2.2.2.1.2.2.1.1)&&((n.1.2.2.2.2.2.2.1.2.2.1.2==x.2.2.2.2.2.2.1.2.2.1.2)&&((n.1.2.2.2.2.2.2.1.2.2.2.1==x.2.2.2.2.2.2.1.2.2.2.1)&&((n.1.2.2.2.2.2.2.1.2.2.2.2==x.2.2.2.2.2.2.1.2.2.2.2)&&((n.1.2.2.2.2.2.2.2==x.2.2.2.2.2.2.2)&&true)))))))))))))=true↔n.1=x:=by obtain⟨⟨a,b,c,d,e,f,⟨g,h,⟨i,j⟩,k,l⟩,m⟩,z⟩:=n;obtain⟨p,q,s,t,u,v,⟨w,y,⟨B,C⟩,D,E⟩,F⟩:=x;simp[and_assoc]
 generalize ((n.1.1==x.1)&&_)=bb at e⊢;unfold L5
 repeat' first
   |with_reducible apply AC<;>intro o
   |with_reducible apply AP<;>intro o
   |with_reducible apply AK<;>intro o
   |(with_reducible apply BF;try dsimp only)
   |with_reducible apply Bh
   |with_reducible apply B0
   |with_reducible apply AB
   |(with_reducible apply AA (ac);intro r hr)
 all_goals grind
def Ee{x:Aa}:As (Ch x) λr=>r=wi (wi (x.1+len x.2.1)-1):=by
 unfold Ch;exact x!
def Do(x:Aa):Prop:=1<=x.1/\x.1<=1099511627776/\θ x.2.1<=4096/\x.1-1<=x.2.2/\x.2.2<=x.1+θ x.2.1-1/\∀(i:Nat)(e:AE),x.2.1[i]?=δ e->e.1=x.1+i/\L5 e
def YQ{x:Aa}{s:Int}(h:0<=s/\s<=x.2.1.length/\x.2.1.length<=4096/\1<=x.1/\x.1<=1099511627776/\ ∀(i:Nat) (e:AE),i<s->x.2.1[i]? =some e->e.1=x.1+i/\L5 e):As (Ai (M9 x) s) λr=>(r= .inl false/\ ¬Do x)\/(r= .inr ()/\ ∀(i:Nat) (e:AE),x.2.1[i]? =some e->e.1=x.1+i/\L5 e):=by
 refine AW (λ(s:Int)=>0<=s/\s<=x.2.1.length/\x.2.1.length<=4096/\1<=x.1/\x.1<=1099511627776/\ ∀(i:Nat) (e:AE),i<s->x.2.1[i]? =some e->e.1=x.1+i/\L5 e) (λ(s:Int)=>((x.2.1.length:Int)-s).toNat) h (λs b=>?_);unfold M9;obtain⟨c,d,f,g,j,k⟩:=b;repeat' with_reducible first|intro a|apply AC|apply AO|apply AL|apply AK|apply AB|(apply AA (CV);intro r hr)|(refine AM ?_ (AJ ?_ ?_);rintro r ⟨hr,l⟩)
 all_goals try (first|omega|grind[AZ,Do])
def Bo{x:Aa}:As (B7 x) λr=>r=true↔Do x:=by
 unfold B7;repeat' with_reducible first|intro a|apply AC|apply AK|(apply BK;try dsimp only)|(apply A4;try dsimp only)|(apply BG<;>(intro u b;try subst b))|apply AB|(apply AA (Ee);intro r hr)|(refine AM ?_ (YQ ?_);intro r hr)
 all_goals try (first|omega|grind[AZ,Do])
def HO(x:AS):Prop:=0<=x.1/\x.1<64/\0<=x.2.1/\x.2.1<=1099511627776/\∀i,Gt (x.2.2 i)/\(x.2.1=0->(x.2.2 i).1=η)
def L8{x:AS}:As (He x) λr=>r=ζ↔0<=x.1/\x.1<64/\0<=x.2.1/\x.2.1<=1099511627776:=by
 unfold He;exact x!
def YM{x:AS}{s:Int}(h:0<=s/\s<=16/\∀i:Fin 16,(i.val:Int)<s->Gt (x.2.2 i)/\(x.2.1=0->(x.2.2 i).1=η)):As (Ai (M1 x) s) λr=>(r=.inl η/\¬ ∀i,Gt (x.2.2 i)/\(x.2.1=0->(x.2.2 i).1=η))\/(r=.inr ()/\∀i,Gt (x.2.2 i)/\(x.2.1=0->(x.2.2 i).1=η)):=by
 refine AW (λ(s:Int)=>0<=s/\s<=16/\∀i:Fin 16,(i.val:Int)<s->Gt (x.2.2 i)/\(x.2.1=0->(x.2.2 i).1=η)) (λ(s:Int)=>(16-s).toNat) h (λs b=>?_);unfold M1;exact x!
def N2{x:AS}:As (Ij x) λr=>r=ζ↔∀i,Gt (x.2.2 i)/\(x.2.1=0->(x.2.2 i).1=η):=by
 unfold Ij;exact x!
def dL{x:AS}:As (LU x) λr=>r=ζ↔HO x:=by
 unfold LU HO
 exact x!
def N1{x:AS}:As (D1 x) λr=>r=0->HO x:=by
 unfold D1 HO
 exact x!
def oy(f:BH):Prop:=HO f.1/\(f.2.1=ζ->1<=f.2.2.1/\f.2.2.1<=f.1.2.1)/\(f.2.1=η->f.2.2.1=0)
def KO(l:List BH)(n:Int):Prop:=(∀(i:Nat)(f:BH),i<n->l[i]?=δ f->oy f)/\∀(i j:Nat)(f g:BH),i<j->j<n->l[i]?=δ f->l[j]?=δ g->f.1.1≠g.1.1
def PN(x:Bw):Prop:=1<=x.1/\x.1<=64/\θ x.2.1<=x.1/\0<=x.2.2/\(θ x.2.1=0/\x.2.2=0\/x.2.2<θ x.2.1)/\KO x.2.1 (θ x.2.1)
theorem KO.step{l:List BH}{n:Int}{f:BH}(e:0<=n)(h:KO l n)(o:l[n.toNat]?=δ f)(r:oy f)(m:∀(j:Nat)(g:BH),j<n->l[j]?=δ g->g.1.1≠f.1.1):KO l (n+1):=by
 refine⟨λi g p b=>?_,λi j g k c q b d=>?_⟩;rcases ku i n with a|a;exact h.1 i g a b;grind;rcases ku j n with a|a;exact h.2 i j g k c a b d;have:j=n.toNat:=o!
 grind
theorem pk{l:List BH}{n:Int}{f:BH}(c:0<=n)(d:n<θ l)(a:l[n.toNat]?=δ f)(b:¬oy f):¬KO l (θ l):=λh=>b (h.1 n.toNat f o! a)
theorem pn{l:List BH}{n:Int}{f:BH}(e:0<=n)(i:n<θ l)(d:l[n.toNat]?=δ f)(c:∃(j:Nat)(g:BH),j<n/\l[j]?=δ g/\g.1.1=f.1.1):¬KO l (θ l):=λh=>by have⟨j,g,k,a,b⟩:=c;exact h.2 j n.toNat g f o! o! a d b
def IC{x:Bw}{a:Int}{b:BH}{s:Int}(h:0<=s/\s<=a/\a<=θ x.2.1/\(θ x.2.1:Int)<=16777216/\∀(j:Nat)(g:BH),j<s->x.2.1[j]?=δ g->g.1.1≠b.1.1):As (Ai (Ft x a b) s) λr=>(r=.inl η/\∃(j:Nat)(g:BH),j<a/\x.2.1[j]?=δ g/\g.1.1=b.1.1)\/(r=.inr ()/\∀(j:Nat)(g:BH),j<a->x.2.1[j]?=δ g->g.1.1≠b.1.1):=by
 refine AW (λ(s:Int)=>0<=s/\s<=a/\a<=θ x.2.1/\(θ x.2.1:Int)<=16777216/\∀(j:Nat)(g:BH),j<s->x.2.1[j]?=δ g->g.1.1≠b.1.1) (λ(s:Int)=>(a-s).toNat) h (λs d=>?_);unfold Ft;exact x!
def YV{x:Bw}{s:Int}(h:0<=s/\s<=θ x.2.1/\(θ x.2.1:Int)<=16777216/\KO x.2.1 s):As (Ai (NF x) s) λr=>(r=.inl η/\¬KO x.2.1 (θ x.2.1))\/(r=.inr ()/\KO x.2.1 (θ x.2.1)):=by
 refine AW (λ(s:Int)=>0<=s/\s<=θ x.2.1/\(θ x.2.1:Int)<=16777216/\KO x.2.1 s) (λ(s:Int)=>((θ x.2.1:Int)-s).toNat) h (λs d=>?_);unfold NF;repeat' with_reducible first|intro a|apply AC|apply AO|apply AL|apply AK|(apply BK;try dsimp only)|(apply A4;try dsimp only)|(apply BG<;>(intro u c;try subst c))|apply AB|(apply AA (dL);intro r hr)|(refine AM ?_ (IC ?_);intro r hr)|(refine AM ?_ (IC ?_);intro r hr)|(refine AM ?_ (IC ?_);intro r hr)|(refine AM ?_ (IC ?_);intro r hr)|(refine AM ?_ (AJ ?_ ?_);rintro r ⟨hr,f⟩)
 all_goals try (have e:=AZ (x:=s+1))
 all_goals first|omega|(exact⟨o!,o!,o!,o!,λj g b=>N! b o!⟩)|grind[KO.step,pk,pn,oy]
def KO.zero(l:List BH):KO l 0:=⟨λi f h=>N! h o!,λi j f g h a=>N! a o!⟩
def AI5(n h:Int)(a:0<=n)(b:n<=64):(h>if wi (n-1)>0 then wi (n-1)else 0)↔¬(n=0/\h<=0\/h<n):=by grind[AZ]
def ER{x:Bw}:As (De x) λr=>r=ζ↔PN x:=by
 unfold De PN
 repeat' first
   |with_reducible apply AC<;>intro b
   |(with_reducible apply BG<;>(intro u a;try subst a))
   |with_reducible apply AB
   |(with_reducible refine AM ?_ (YV ?_);intro r hr)
 all_goals try dsimp[len]at*
 all_goals first
  |(exact⟨o!,o!,o!,KO.zero _⟩)
  |(have c:=AI5 (θ x.2.1) x.2.2 o! o!;grind)
  |grind
def N8{x:Av}:As (G4 x) λr=>True:=by
 unfold G4;exact x!
def Um{x:Av×Av}:As (FW x) λr=>True:=by
 unfold FW;exact x!
def GK{x:Av×Av}:As (EB x) λr=>True:=by
 unfold EB;exact x!
def ZI{x:A9×Int×Cs}{s:Int}(h:0<=s/\s<=θ x.1.1/\(θ x.1.1:Int)<=16777216):As (Ai (OB x) s) λr=>True:=by
 refine AW (λ(s:Int)=>0<=s/\s<=θ x.1.1/\(θ x.1.1:Int)<=16777216) (λ(s:Int)=>((θ x.1.1:Int)-s).toNat) h (λs b=>?_);unfold OB;exact x!
def IB{x:A9×Int×Cs}(h:θ x.1.1<=16777216):As (EC x) λr=>True:=by
 unfold EC;exact x!
def GG(x:A9):Prop:=θ x.1<=16777216/\θ x.2<=16777216
def Qi{x:A9}{a:Int}{s:Int}(h:s<a/\ -1<=s/\0<=a/\a<θ x.1/\θ x.1<=16777216):As (Ai (JL x a) s) λr=>r≠.inl ζ:=by
 refine AW (λ(s:Int)=>s<a/\ -1<=s/\0<=a/\a<θ x.1/\θ x.1<=16777216) (λ(s:Int)=>(s+1).toNat) h (λs c=>?_);unfold JL;exact x!
def YR{x:A9}{s:Int}(h:0<=s/\s<=x.1.length/\(x.1.length:Int)<=16777216):As (Ai (NA x) s) λr=>r≠ .inl true:=by
 refine AW (λ(s:Int)=>0<=s/\s<=x.1.length/\(x.1.length:Int)<=16777216) (λ(s:Int)=>((x.1.length:Int)-s).toNat) h (λs c=>?_);unfold NA;repeat' with_reducible first|intro a|apply AC|apply AO|apply AK|(apply BK;try dsimp only)|(apply A4;try dsimp only)|(apply BG<;>(intro u b;try subst b))|apply AB|(apply AA (N8);intro r hr)|(apply AA (Um);intro r hr)|(refine AM ?_ (Qi ?_);intro r hr)|(refine AM ?_ (Qi ?_);intro r hr)|(refine AM ?_ (AJ ?_ ?_);rintro r ⟨hr,d⟩)
 all_goals ((try dsimp[len]at*);(try first|omega|assumption|grind[AZ]|((try simp (disch:=omega) only[AZ,len]at*)<;>(try intros)<;>(try and_intros)<;>(try intros)<;>(first|omega|assumption|grind))))
def YT{x:A9}{a:Int}{b:Av}{s:Int}(h:0<=s/\s<=a/\(a:Int)<=16777216/\a<=θ x.2):As (Ai (NC x a b) s) λr=>r≠.inl ζ:=by
 refine AW (λ(s:Int)=>0<=s/\s<=a/\(a:Int)<=16777216/\a<=θ x.2) (λ(s:Int)=>((a:Int)-s).toNat) h (λs d=>?_);unfold NC;exact x!
def YS{x:A9}{s:Int}(h:0<=s/\s<=θ x.2/\(θ x.2:Int)<=16777216/\θ x.1<=16777216):As (Ai (NB x) s) λr=>r≠.inl ζ:=by
 refine AW (λ(s:Int)=>0<=s/\s<=θ x.2/\(θ x.2:Int)<=16777216/\θ x.1<=16777216) (λ(s:Int)=>((θ x.2:Int)-s).toNat) h (λs c=>?_);unfold NB;exact x!
def Zv(x:A9):Prop:=θ x.1+θ x.2<=1024
def FM{x:A9}(h:GG x):As (D2 x) λr=>r=ζ->Zv x:=by
 unfold D2 Zv;unfold GG at h
 exact x!
def VTx(x:Am):Prop:=θ x.2.2.2.2.1<=4096/\θ x.2.2.2.2.2<=8/\1<=x.1
def Y0(x:List Am):Prop:=θ x<=64/\∀(i:Nat)(t:Am),x[i]?=δ t->VTx t
def Qj{x:Am}{s:Int}(h:0<=s/\s<=x.2.2.2.2.1.length/\(x.2.2.2.2.1.length:Int)<=16777216):As (Ai (JP x) s) λr=>r≠ .inl true:=by
 refine AW (λ(s:Int)=>0<=s/\s<=x.2.2.2.2.1.length/\(x.2.2.2.2.1.length:Int)<=16777216) (λ(s:Int)=>((x.2.2.2.2.1.length:Int)-s).toNat) h (λs b=>?_);unfold JP;repeat' with_reducible first|intro a|apply AC|apply AK|apply AB|(refine AM ?_ (AJ ?_ ?_);rintro r ⟨hr,c⟩)
 all_goals ((try dsimp[len]at*);(try first|omega|assumption|grind[AZ]|((try simp (disch:=omega) only[AZ,len]at*)<;>(try intros)<;>(try and_intros)<;>(try intros)<;>(first|omega|assumption|grind))))
def Qk{x:Am}{s:Int}(h:0<=s/\s<=x.2.2.2.2.2.length/\(x.2.2.2.2.2.length:Int)<=16777216):As (Ai (JQ x) s) λr=>r≠ .inl true:=by
 refine AW (λ(s:Int)=>0<=s/\s<=x.2.2.2.2.2.length/\(x.2.2.2.2.2.length:Int)<=16777216) (λ(s:Int)=>((x.2.2.2.2.2.length:Int)-s).toNat) h (λs b=>?_);unfold JQ;repeat' with_reducible first|intro a|apply AC|apply AK|apply AB|(refine AM ?_ (AJ ?_ ?_);rintro r ⟨hr,c⟩)
 all_goals ((try dsimp[len]at*);(try first|omega|assumption|grind[AZ]|((try simp (disch:=omega) only[AZ,len]at*)<;>(try intros)<;>(try and_intros)<;>(try intros)<;>(first|omega|assumption|grind))))
def dW{x:Am}:As (Lg x) λr=>r=ζ->VTx x:=by
 unfold Lg VTx
 exact x!
def YY{x:List Am}{s:Int}(h:0<=s/\s<=x.length/\(x.length:Int)<=16777216/\ ∀(i:Nat) (t:Am),i<s->x[i]? =some t->VTx t):As (Ai (NH x) s) λr=>r= .inl false\/(r= .inr ()/\ ∀(i:Nat) (t:Am),x[i]? =some t->VTx t):=by
 refine AW (λ(s:Int)=>0<=s/\s<=x.length/\(x.length:Int)<=16777216/\ ∀(i:Nat) (t:Am),i<s->x[i]? =some t->VTx t) (λ(s:Int)=>((x.length:Int)-s).toNat) h (λs b=>?_);unfold NH;repeat' with_reducible first|intro a|apply AC|apply AO|apply AK|apply AB|(apply AA (dW);intro r hr)|(refine AM ?_ (AJ ?_ ?_);rintro r ⟨hr,c⟩)
 all_goals ((try dsimp[len]at*);(try first|omega|assumption|grind[AZ]|((try simp (disch:=omega) only[AZ,len]at*)<;>(try intros)<;>(try and_intros)<;>(try intros)<;>(first|omega|assumption|grind))))
def Dz{x:List Am}:As (D4 x) λr=>r=ζ->Y0 x:=by
 unfold D4 Y0
 exact x!
def mY(x:Bu):Prop:=1<=θ x/\θ x<=64
def jA{x:Int}:As (Gr x) λr=>True:=by
 unfold Gr;exact x!
def YW{x:Bu}{s:Int}(h:0<=s/\s<=θ x/\(θ x:Int)<=16777216):As (Ai (JN x) s) λr=>r≠.inl ζ:=by
 refine AW (λ(s:Int)=>0<=s/\s<=θ x/\(θ x:Int)<=16777216) (λ(s:Int)=>((θ x:Int)-s).toNat) h (λs b=>?_);unfold JN;exact x!
def GC{x:Bu}:As (D3 x) λr=>r=ζ->mY x:=by
 unfold D3 mY
 exact x!
def U9{x:List Ah×Int}{s:Int}(h:0<=s/\s<=x.1.length/\(x.1.length:Int)<=16777216):As (Ai (Gx x) s) λr=>r≠ .inl true:=by
 refine AW (λ(s:Int)=>0<=s/\s<=x.1.length/\(x.1.length:Int)<=16777216) (λ(s:Int)=>((x.1.length:Int)-s).toNat) h (λs b=>?_);unfold Gx;repeat' with_reducible first|intro a|apply AC|apply AK|apply AB|(refine AM ?_ (AJ ?_ ?_);rintro r ⟨hr,c⟩)
 all_goals ((try dsimp[len]at*);(try first|omega|assumption|grind[AZ]|((try simp (disch:=omega) only[AZ,len]at*)<;>(try intros)<;>(try and_intros)<;>(try intros)<;>(first|omega|assumption|grind))))
def Pc{x:List Ah×Int}(h:θ x.1<=16777216):As (FO x) λr=>True:=by
 unfold FO;exact x!
theorem C1{b:Type}{l:List b}{i:Nat}{a:b}(h:l[i]?=δ a):i<θ l:=q!
def cu(p:Int)(e:AE):Bool:=((e.2.1==1)||(e.2.1==2))&&(e.2.2.2.2.2.2.1.1==p)
def Bd(L:List AE)(p:Int):Int:=L.foldl (λa e=>if cu p e then e.1 else a) 0
theorem PL(L:List AE)(e:AE)(p:Int):Bd (L++[e]) p=if cu p e then e.1 else Bd L p:=by simp[Bd,Xm,Xn,List.foldl_nil]
def upd(x:AS)(e:AE):AS:=(x.1,e.1,Wi x.2.2 e.2.2.2.2.2.2.1.2.1 e.2.2.2.2.2.2.1.2.2.2)
def st(L:List AE)(p:Int):AS:=(L.filter (cu p)).foldl upd (p,0,GO.all (η,[]))
def ABo(L M:List AE)(p:Int):st (L++M) p=(M.filter (cu p)).foldl upd (st L p):=by unfold st;rw[HY,Xm]
theorem AAx(L:List AE)(e:AE)(p:Int):st (L++[e]) p=if cu p e then upd (st L p) e else st L p:=by rw[ABo,Q5,kz];split<;>rfl
def ACO(L:List AE)(x:AS):(L.foldl upd x).1=x.1:=by
 induction L generalizing x with
 |nil=>rfl
 |cons e L a=>exact a (upd x e)
theorem U3(L:List AE)(p:Int):(st L p).1=p:=ACO _ _
theorem KB(L:List AE)(p:Int):(st L p).2.1=Bd L p:=by
 suffices h:∀(L:List AE)(x:AS),((L.filter (cu p)).foldl upd x).2.1=L.foldl (λa e=>if cu p e then e.1 else a) x.2.1 from h L _
 intro L;induction L with
 |nil=>exact λx=>rfl
 |cons e L b=>intro x;rw[Q5,Xn];split;exact b (upd x e);exact b x
def xn(n:Int)(L:List AE)(D:List Ah)(R:List Bi):Prop:=
 ∀p,0<=p->p<n->(∀d∈D,d.1=p->d.2.2=Bd L p)/\∀r,R[p.toNat]?=δ r->r.1<=Bd L p/\((∀d∈D,d.1≠p)->r.1=Bd L p)
def KP(n:Int)(L:List AE)(F:List BH)(D:List Ah)(R:List Bi):Prop:=
 ∀p,0<=p->p<n->(∀f∈F,f.1.1=p->f.1=st L p)/\(∀d∈D,d.1=p->d.2.2=Bd L p)/\
  ∀r,R[p.toNat]?=δ r->r.1<=Bd L p/\((∀d∈D,d.1≠p)->(∀f∈F,f.1.1=p->f.2.1=η)->r.1=Bd L p)
def EOK(n:Int)(M:List AE)(e:AE):Prop:=
 (e.2.1=1\/e.2.1=2->e.2.2.2.2.1=Bd M e.2.2.2.2.2.2.1.1/\Gk (st M e.2.2.2.2.2.2.1.1).2.2 e.2.2.2.2.2.2.1.2.1=δ e.2.2.2.2.2.2.1.2.2.1)/\(e.2.1=7->e.2.2.2.2.2.1=Bd M e.2.2.2.2.2.2.1.1)/\
  (e.2.1=6->∀c,DE e.2.2.2.2.2.2.2=δ (c,0)->c.1=n->xn n M c.2.2.2.1 c.2.2.2.2)
def LI(n:Int)(L:List AE):Prop:=∀(i:Nat)(e:AE),L[i]?=δ e->EOK n (L.take i) e
def LI.nil(n:Int):LI n []:=λi e h=>by simp at h
def LI.app{n:Int}{L:List AE}{e:AE}(h:LI n L)(c:EOK n L e):LI n (L++[e]):=by intro i f b;rcases QX i (θ L) with a|a|a;rw[CT a]at b;rw[eL o!];exact h i f b;grind;grind[List.getElem?_eq_none]
def LI.pre{n:Int}{L T:List AE}(h:LI n (L++T)):LI n L:=by intro i f a;have:=h i f q!;grind
def FD(B:Int->Prop)(n:Int)(F:List BH)(D:List Ah):Prop:=∀f∈F,0<=f.1.1/\f.1.1<n/\(∀d∈D,d.1≠f.1.1)/\B f.1.1
variable {B:Int->Prop}
def KI(B:Int->Prop)(k:AT):Prop:=LI k.1 k.2.2.1.2.1/\KP k.1 k.2.2.1.2.1 k.2.2.2.1.2.1 k.2.2.2.2.2.2.2 k.2.2.2.2.2.2.1/\FD B k.1 k.2.2.2.1.2.1 k.2.2.2.2.2.2.2
def FD.sub{n:Int}{F G:List BH}{D:List Ah}(h:FD B n F D)(a:∀g∈G,∃f∈F,f.1.1=g.1.1/\f.1=g.1):FD B n G D:=by intro g c;have⟨f,b,e,_⟩:=a g c;rw[<-e];exact h f b
def oK{p b:Int}:∀(L:List AE)(a:Int),a<b->(∀e∈L,e.1<b)->L.foldl (λa e=>if cu p e then e.1 else a) a<b
 |[],a,ha,_=>ha
 |e::L,a,ha,h=>by refine oK L _ ?_ λf c=>h f (Ce _ c);show(if cu p e=ζ then e.1 else a)<b;split;exact h e I3;exact ha
def lP{l:Aa}(h:Do l)(p:Int):Bd l.2.1 p<l.1+θ l.2.1:=by have⟨a,_,_,_,_,b⟩:=h;refine oK _ _ o! λe c=>?_;grind[List.getElem?_of_mem]
def KP.app{n:Int}{L:List AE}{F:List BH}{D:List Ah}{R:List Bi}{e:AE}(h:KP n L F D R)(c:e.2.1≠1/\e.2.1≠2):KP n (L++[e]) F D R:=by intro p a b;rw[(by grind[PL,cu]:Bd (L++[e]) p=Bd L p),(by grind[AAx,cu]:st (L++[e]) p=st L p)];exact h p a b
def KP.frames{n:Int}{L:List AE}{F G:List BH}{D:List Ah}{R:List Bi}(h:KP n L F D R)
  (m:∀g∈G,∃f∈F,f.1.1=g.1.1/\f.1=g.1) (o:∀f∈F,f.2.1=ζ->∃g∈G,g.1.1=f.1.1/\g.2.1=ζ):KP n L G D R:=by
 intro p w x;obtain⟨a,b,c⟩:=h p w x;refine⟨λg v e=>?_,b,λr hr=>⟨(c r hr).1,λt u=>(c r hr).2 t λf d e=>?_⟩⟩;obtain⟨f,d,j,k⟩:=m g v;rw[<-k];exact a f d (j.trans e);cases s:f.2.1 with
 |false=>rfl
 |true=>obtain⟨g,q,l,i⟩:=o f d s;rw[u g q (l.trans e)]at i;cases i
def KP.written{n:Int}{L:List AE}{F G:List BH}{D:List Ah}{R:List Bi}{q lsn:Int}{w:Bi}(h:KP n L F D R)(q0:0≤q)(z:lsn=Bd L q)(A:q<n)
  (o:∀g∈G,∃f∈F,f.1.1=g.1.1/\f.1=g.1) (s:∀f∈F,f.1.1≠q->f∈G) (k:R[q.toNat]?=δ w):
  KP n L G D (R.set q.toNat ((if lsn>w.1 then lsn else w.1),w.2)):=by
 intro p x y;obtain⟨a,b,c⟩:=h p x y;refine⟨λg v e=>?_,b,λr hr=>?_⟩;obtain⟨f,d,l,m⟩:=o g v;rw[<-m];exact a f d (l.trans e);by_cases j:p=q;subst j;have i:p.toNat<θ R:=by rcases Ax p.toNat (θ R) with h|h;exact h;rw[Cn h]at k;cases k
 rw[Gy i]at hr;have:=(c w k).1;have e:r.1=Bd L p:=by rw[<-Bg hr];dsimp only;split<;>omega
 exact⟨o!,λ_ _=>e⟩;rw[DW o!]at hr;refine⟨(c r hr).1,λt u=>(c r hr).2 t λf d e=>?_⟩;exact u f (s f d o!) e
def ABl{F:List BH}{i:Nat}{f n:BH}(a:F[i]?=δ f)(hn:n.1=f.1):∀g∈F.set i n,∃f∈F,f.1.1=g.1.1/\f.1=g.1:=q!
def xd{F:List BH}{i:Nat}{f n:BH}(c:F[i]?=δ f):∀g∈F,g.1.1≠f.1.1->g∈F.set i n:=by intro g a b;have⟨j,d⟩:=DU a;apply BN (i:=j);grind
def KP.change{n:Int}{L:List AE}{F:List BH}{D:List Ah}{R:List Bi}{e:AE}{i:Nat}{f g:BH}(h:KP n L F D R)(G:FD B n F D)
  (t:e.2.1=1\/e.2.1=2) (u:F[i]?=δ f) (I:f.1.1=e.2.2.2.2.2.2.1.1) (v:g.1=upd f.1 e) (y:g.2.1=ζ)
  (J:∀j k,F[j]?=δ k->k.1.1=f.1.1->j=i) (H:Bd L f.1.1<e.1):KP n (L++[e]) (F.set i g) D R:=by
 have w:i<θ F:=by rcases Ax i (θ F) with h|h;exact h;rw[Cn h]at u;cases u
 have A:g∈F.set i g:=BN (i:=i) (Gy w);have C:g.1.1=f.1.1:=by rw[v];rfl
 intro p K M;obtain⟨a,b,c⟩:=h p K M;have E:cu p e=(f.1.1==p):=by rw[I];unfold cu;rcases t with h|h<;>simp[h]
 rw[PL,AAx,E];by_cases l:f.1.1=p;subst l;rw[L!,C! rfl,C! rfl];refine⟨λk t m=>?_,λd o m=>N! m ((G f (BN u)).2.2.1 d o),λr hr=>⟨by have:=(c r hr).1;omega,λ_ q=>?_⟩⟩;obtain⟨j,x⟩:=DU t;by_cases s:j=i;subst s;rw[Gy w]at x;rw[<-Bg x,v];exact E! (λz=>upd z e) (a f (BN u) rfl);rw[DW (λh=>s h.symm)]at x;exact N! (J j k x m) s;have:=q g A C;rw[y]at this;cases this;rw[D! (by simpa using l),D! (by simpa using l)];refine⟨λk t m=>?_,b,λr hr=>⟨(c r hr).1,λo q=>(c r hr).2 o λk t m=>?_⟩⟩;rcases QV t with h|h;exact a k h m;subst h;exact N! (C.symm.trans m) l;exact q k (xd u k t o!) m
def FD.set{n:Int}{F:List BH}{D:List Ah}{i:Nat}{f g:BH}(h:FD B n F D)(b:F[i]?=δ f)(c:g.1.1=f.1.1):FD B n (F.set i g) D:=by intro k d;rcases QV d with a|a;exact h k a;subst a;rw[c];exact h f (BN b)
def KP.supply{n:Int}{L:List AE}{F:List BH}{D l:List Ah}{R:List Bi}{x:AS}{g:BH}(h:KP n L F D R)(y:x=st L x.1)
  (w:∀f∈F,f.1.1≠x.1) (t:g.1=x) (i:(g.2.1=ζ/\l=D.filter λd=>d.1 !=x.1)\/(g.2.1=η/\(∀d∈D,d.1≠x.1)/\l=D)):KP n L (F++[g]) l R:=by
 intro p z A;obtain⟨a,b,c⟩:=h p z A;have v:∀d∈l,d∈D:=by rcases i with⟨_,e⟩|⟨_,_,e⟩<;>subst e;exact λd i=>(BU.1 i).1;exact λd i=>i
 refine⟨λf j e=>?_,λd i=>b d (v d i),λr hr=>⟨(c r hr).1,λq s=>(c r hr).2 ?_ λf j=>s f (HS _ j)⟩⟩;rcases Ak.1 j with j|j;exact a f j e;rw[BA]at j;subst j;rw[t]at e⊢;rw[<-e];exact y;intro d k e;rcases i with⟨u,o⟩|⟨_,_,o⟩<;>subst o;by_cases m:p=x.1;have:=s g k! (by rw[t,m]);rw[u]at this;cases this;exact q d (BU.2 ⟨k,w!⟩) e;exact q d k e
def FD.supply{n:Int}{F:List BH}{D b:List Ah}{p:Int}{g:BH}(h:FD B n F D)(k:0<=p)(l:p<n)(i:B p)(j:g.1.1=p)(e:∀d∈b,d∈D)(hn:∀d∈b,d.1≠p):FD B n (F++[g]) b:=by intro f a;rcases Ak.1 a with a|a;exact⟨(h f a).1,(h f a).2.1,λd c=>(h f a).2.2.1 d (e d c),(h f a).2.2.2⟩;grind
end Go.Pm
namespace Go.Pm
open Go Go.Ab
set_option maxHeartbeats 400000
variable {B:Int->Prop}
def SB(k:AT):Prop:=GG k.2.2.2.2.1/\θ k.2.2.2.2.2.1<=16777216/\θ k.2.2.2.2.2.2.2<=16777216
def SK(B:Int->Prop)(k:AT):Prop:=GG k.2.2.2.2.1/\θ k.2.2.2.2.2.1<=16777216/\θ k.2.2.2.2.2.2.2<=16777216/\KI B k
def SK.sb{k:AT}(h:SK B k):SB k:=⟨h.1,h.2.1,h.2.2.1⟩
def SK.ki{k:AT}(h:SK B k):KI B k:=h.2.2.2
def SB.sk{k:AT}(h:SB k)(g:KI B k):SK B k:=⟨h.1,h.2.1,h.2.2,g⟩
def VK(k:AT):Prop:=1<=k.1/\k.1<=64/\Do k.2.2.1/\PN k.2.2.2.1/\Zv k.2.2.2.2.1/\Y0 k.2.2.2.2.2.1/\mY k.2.2.2.2.2.2.1/\θ k.2.2.2.2.2.2.1=k.1
def da{x:AT}(h:SB x):As (Lk x) λr=>r=ζ->VK x:=by
 unfold Lk VK;unfold SB at h
 exact x!
def YZ{x:AT×Int}{s:Int×Ah}(h:0<=s.1/\s.1<=θ x.1.2.2.2.2.2.2.2/\θ x.1.2.2.2.2.2.2.2<=16777216/\∀(i:Nat)(d:Ah),i<s.1->x.1.2.2.2.2.2.2.2[i]?=δ d->d.1≠x.2):As (Ai (NJ x) s) λr=>(∃d∈x.1.2.2.2.2.2.2.2,r=.inl (ζ,d)/\d.1=x.2)\/∃z,r=.inr z/\∀d∈x.1.2.2.2.2.2.2.2,d.1≠x.2:=by
 refine AW (λ(s:Int×Ah)=>0<=s.1/\s.1<=θ x.1.2.2.2.2.2.2.2/\θ x.1.2.2.2.2.2.2.2<=16777216/\∀(i:Nat)(d:Ah),i<s.1->x.1.2.2.2.2.2.2.2[i]?=δ d->d.1≠x.2) (λ(s:Int×Ah)=>((θ x.1.2.2.2.2.2.2.2:Int)-s.1).toNat) h (λs j=>?_);have⟨c,m,f,g⟩:=j;unfold NJ;refine AC (λa=>?_) (λa=>AB (.inr ⟨_,rfl,λd b=>?_⟩));simp[len]at a;refine AA (AJ c a) λv o=>?_;apply AP<;>intro n;grind[AA,AJ,AB,Option.some.inj];have e:=AZ (x:=s.1+1);refine AB ⟨⟨d!,d!,f,λi d k b=>?_⟩,d!⟩;dsimp only at k;by_cases l:(i:Int)<s.1;exact g i d l b;have:i=s.1.toNat:=o!
 grind[Option.some.inj];grind[List.getElem?_of_mem,Nat.lt_or_ge,List.getElem?_eq_none]
def Jy{x:AT×Int}(h:SB x.1):As (Ew x) λr=>(r.2=ζ->r.1∈x.1.2.2.2.2.2.2.2/\r.1.1=x.2)/\(r.2=η->∀d∈x.1.2.2.2.2.2.2.2,d.1≠x.2):=by unfold Ew;refine AA (YZ ⟨o!,d!,h.2.2,λi d a=>N! a d!⟩) λv b=>?_;grind[BK,AB,A4]
def Ya{x:AT}{s:Int}(h:0<=s/\s<=θ x.2.2.2.2.2.1/\(θ x.2.2.2.2.2.1:Int)<=16777216):As (Ai (NK x) s) λr=>r≠.inl ζ:=by
 refine AW (λ(s:Int)=>0<=s/\s<=θ x.2.2.2.2.2.1/\(θ x.2.2.2.2.2.1:Int)<=16777216) (λ(s:Int)=>((θ x.2.2.2.2.2.1:Int)-s).toNat) h (λs b=>?_);unfold NK;exact x!
def Yb{x:AT}{s:Int}(h:0<=s/\s<=θ x.2.2.2.1.2.1/\(θ x.2.2.2.1.2.1:Int)<=16777216/\SB x):As (Ai (NM x) s) λr=>r≠.inl ζ:=by
 refine AW (λ(s:Int)=>0<=s/\s<=θ x.2.2.2.1.2.1/\(θ x.2.2.2.1.2.1:Int)<=16777216/\SB x) (λ(s:Int)=>((θ x.2.2.2.1.2.1:Int)-s).toNat) h (λs b=>?_);unfold NM;exact x!
def Yc{x:AT}{s:Int}(h:0<=s/\s<=θ x.2.2.2.2.1.1/\(θ x.2.2.2.2.1.1:Int)<=16777216):As (Ai (NN x) s) λr=>r≠.inl ζ:=by
 refine AW (λ(s:Int)=>0<=s/\s<=θ x.2.2.2.2.1.1/\(θ x.2.2.2.2.1.1:Int)<=16777216) (λ(s:Int)=>((θ x.2.2.2.2.1.1:Int)-s).toNat) h (λs b=>?_);unfold NN;exact x!
def Yd{x:AT}{s:Int}(h:0<=s/\s<=θ x.2.2.2.2.1.2/\(θ x.2.2.2.2.1.2:Int)<=16777216):As (Ai (NO x) s) λr=>r≠.inl ζ:=by
 refine AW (λ(s:Int)=>0<=s/\s<=θ x.2.2.2.2.1.2/\(θ x.2.2.2.2.1.2:Int)<=16777216) (λ(s:Int)=>((θ x.2.2.2.2.1.2:Int)-s).toNat) h (λs b=>?_);unfold NO;exact x!
def CA{x:AT}(h:SB x):As (Bp x) λr=>r=true->VK x:=by
 unfold Bp;repeat' with_reducible first|intro a|apply AO|apply AK|(apply BK;try dsimp only)|(apply A4;try dsimp only)|(apply BG<;>(intro u b;try subst b))|apply AB|(refine AM ?_ (da ?_);intro r hr)|(refine AM ?_ (Ya ?_);intro r hr)|(refine AM ?_ (Yb ?_);intro r hr)|(refine AM ?_ (Yc ?_);intro r hr)|(refine AM ?_ (Yd ?_);intro r hr)
 all_goals ((try dsimp[len]at*);(try first|omega|assumption|grind[SB,VK,GG,PN]))
def ZM{x:List Am×Int}{s:Int}(h:0<=s/\s<=θ x.1/\(θ x.1:Int)<=16777216):As (Ai (Jw x) s) λr=>∀u,r=.inl u->0<=u/\u<θ x.1/\∃t,x.1[u.toNat]?=δ t/\t.1=x.2:=by
 refine AW (λ(s:Int)=>0<=s/\s<=θ x.1/\(θ x.1:Int)<=16777216) (λ(s:Int)=>((θ x.1:Int)-s).toNat) h (λs b=>?_);unfold Jw;exact x!
def IF{x:List Am×Int}(h:θ x.1<=16777216):As (Eg x) λr=> -1<=r/\r<θ x.1/\(0<=r->∃t,x.1[r.toNat]?=δ t/\t.1=x.2):=by
 unfold Eg;exact x!
def Fh{x:List Am×Int}(h:θ x.1<=16777216):As (Cb x) λr=> -1<=r/\r<θ x.1/\(0<=r->∃t,x.1[r.toNat]?=δ t/\t.1=x.2):=by
 unfold Cb;exact x!
def nU(p:Bw)(id:Int):Prop:=∃(i:Nat)(f:BH),p.2.1[i]?=δ f/\f.1.1=id
def ZL{x:Bw×Int}{s:Int}(h:0<=s/\s<=θ x.1.2.1/\(θ x.1.2.1:Int)<=16777216/\∀(i:Nat)(f:BH),i<s->x.1.2.1[i]?=δ f->f.1.1≠x.2):As (Ai (OC x) s) λr=>(∃u,r=.inl u/\0<=u/\u<θ x.1.2.1/\∃f,x.1.2.1[u.toNat]?=δ f/\f.1.1=x.2)\/(r=.inr ()/\¬nU x.1 x.2):=by
 refine AW (λ(s:Int)=>0<=s/\s<=θ x.1.2.1/\(θ x.1.2.1:Int)<=16777216/\∀(i:Nat)(f:BH),i<s->x.1.2.1[i]?=δ f->f.1.1≠x.2) (λ(s:Int)=>((θ x.1.2.1:Int)-s).toNat) h (λs b=>?_);unfold OC;repeat' with_reducible first|intro a|apply AC|apply AP|apply AK|apply AB|(refine AM ?_ (AJ ?_ ?_);rintro r ⟨hr,c⟩)
 all_goals try (have e:=AZ (x:=s+1))
 all_goals first|omega|grind[nU]
def Gb{x:Bw×Int}(h:θ x.1.2.1<=16777216):As (FX x) λr=> -1<=r/\r<θ x.1.2.1/\(0<=r->∃f,x.1.2.1[r.toNat]?=δ f/\f.1.1=x.2)/\(r<0->¬nU x.1 x.2):=by refine AA (ZL (by refine⟨o!,o!,o!,λi f a=>N! a o!⟩)) λs b=>?_;grind[BK,AB,A4]
def Fg{x:Bw×Int}:As (ED x) λr=> -1<=r/\r<x.1.2.1.length/\(0<=r->PN x.1/\ ∃f,x.1.2.1[r.toNat]? =some f/\f.1.1=x.2)/\(PN x.1->nU x.1 x.2->0<=r):=by
 unfold ED;repeat' with_reducible first|intro b|apply AO|apply AK|apply AB|(apply AA (ER);intro r hr)|(refine AM ?_ (Gb ?_);intro r hr)
 all_goals first|omega|(have a:PN x.1:=q!;have:=a.1;have:=a.2.1;have:=a.2.2.1;omega)|grind
def Ip{x:Bw×Int}:As (Fv x) λr=>(r.2=true->PN x.1/\HO r.1/\nU x.1 x.2/\r.1.1=x.2/\ ∃f∈x.1.2.1,f.1=r.1)/\(r.2=false->PN x.1-> ¬nU x.1 x.2):=by
 unfold Fv;repeat' with_reducible first|intro a|apply AC|apply AK|apply AB|(apply AA (Fg);intro r hr)|(refine AM ?_ (AJ ?_ ?_);rintro r ⟨hr,b⟩)
 all_goals first|omega|(simp;grind)|grind[PN,KO,oy,nU]
theorem Do.last{x:Aa}(h:Do x):wi (wi (x.1+len x.2.1)-1)=x.1+θ x.2.1-1:=by have⟨a,b,c,d,e,f⟩:=h;grind[AZ]
def Do.at{x:Aa}{n:Int}{e:AE}(h:Do x)(a:x.1<=n)(b:n<=x.1+θ x.2.1-1)(c:x.2.1[(wi (n-x.1)).toNat]?=δ e):L5 e/\e.1=n:=by have⟨a1,a2,a3,a4,a5,a6⟩:=h;grind[AZ]
theorem Do.append{x:Aa}{e:AE}{l:List AE}(h:Do x)(b:θ x.2.1≠4096)(d:L5 e)(c:e.1=x.1+θ x.2.1)(a:l=x.2.1++[e]):Do (x.1,l,x.2.2):=by have⟨a1,a2,a3,a4,a5,a6⟩:=h;subst a;refine⟨a1,a2,w!,a4,w!,λi f g=>?_⟩;grind[Nat.lt_or_ge,List.getElem?_append_right,List.getElem?_eq_none]
def Do.force{x:Aa}{n:Int}(h:Do x)(a:n<=x.1+θ x.2.1-1):Do (x.1,x.2.1,if n>x.2.2 then n else x.2.2):=by have⟨a1,a2,a3,a4,a5,a6⟩:=h;refine⟨a1,a2,a3,?_,?_,a6⟩<;>(dsimp only;split<;>omega)
def Fe{x:Aa}:As (Ed x) λr=>Do x->r=x.1+x.2.1.length-1:=by
 unfold Ed;repeat' with_reducible first|intro a|apply AO|apply AK|apply AB|(apply AA (Bo);intro r hr)|(apply AA (Ee);intro r hr)
 all_goals ((try dsimp[len]at*);(try first|omega|assumption|grind[Do.last]))
def Ju{x:Aa×Int}:As (EK x) λr=>(r.2=0->Do r.1/\r.1.2.1=x.1.2.1/\r.1.1=x.1.1/\x.1.2.2<=r.1.2.2/\x.2<=r.1.2.2):=by
 unfold EK;repeat' with_reducible first|apply AC<;>intro a|apply AO<;>intro a|apply AK<;>intro a|apply AB|(apply AA (Bo);intro r hr)|(apply AA (Ee);intro r hr)
 all_goals try (intro _;have b:Do x.1:=q!
                have c:=b.last;exact⟨b.force o!,rfl,rfl,by dsimp only;split<;>omega,by dsimp only;split<;>omega⟩)
 all_goals exact l!
theorem G3{x:Aa×Int}:As (E8 x) λr=>(r.2=0->L5 r.1/\r.1.1=x.2/\x.1.2.1[(x.2-x.1.1).toNat]?=δ r.1/\x.1.1<=x.2)/\(Do x.1->x.1.1<=x.2->x.2<=x.1.1+θ x.1.2.1-1->r.2=0):=by
 unfold E8;repeat' with_reducible first|intro c|apply AC|apply AO|apply AK|apply AB|(apply AA (Bo);intro r hr)|(apply AA (Ee);intro r hr)|(refine AM ?_ (AJ ?_ ?_);rintro r ⟨hr,f⟩)
 all_goals try (have a:Do x.1:=q!)
 all_goals try (have e:=a.last;have:=a.1;have:=a.2.1;have:=a.2.2.1)
 all_goals try (have d:wi (x.2-x.1.1)=x.2-x.1.1:=AZ)
 all_goals try (have b:=a.at (n:=x.2) o! o! hr;rw[d]at hr;exact⟨λ_=>⟨b.1,b.2,hr,o!⟩,λ_ _ _=>rfl⟩)
 all_goals exact l!
def ae{x:Aa×AE}:As (KV x) λr=>(r.2.2=0->Do r.1/\Do x.1/\r.1.2.1=x.1.2.1++[(r.2.1,x.2.2)]/\r.1.1=x.1.1/\r.2.1=x.1.1+θ x.1.2.1/\r.1.2.2=x.1.2.2):=by
 unfold KV;repeat' with_reducible first|intro b|apply AO|apply AP|apply AK|apply AB|(apply AA (Bo);intro r hr)|(apply AA (Ee);intro r hr)|(apply AA (CV);intro r hr)|(refine AM ?_ (Ad ?_);rintro r ⟨hr,c,d⟩)
 all_goals try (have a:Do x.1:=q!)
 all_goals try (have c:=a.last;have:=a.1;have:=a.2.1;have:=a.2.2.1)
 all_goals ((try dsimp[len]at*);(try first|omega|assumption|grind[AZ,Do.append]))
def CK{x:AE}:As (BB x) λr=>r=ζ↔x.2.1=1\/x.2.1=2:=by
 unfold BB;exact x!
end Go.Pm
namespace Go.Pm
open Go Go.Ab
set_option maxHeartbeats 400000
def sJ(n:Int):0<=ι .u64 n:=by rw[We];omega
theorem MP(l:List Int):(Eu l).length=θ l:=by simp[Eu]
def aV{x:BX×Int×Int}{s:BX×Int}(h:0<=s.2/\s.2<=x.2.2/\x.2.2<=8/\(θ s.1:Int)=θ x.1+s.2/\θ x.1<=1099511627776):As (Ai (GY x) s) λr=>(θ r:Int)=θ x.1+x.2.2:=by
 refine AW (λ(s:BX×Int)=>0<=s.2/\s.2<=x.2.2/\x.2.2<=8/\(θ s.1:Int)=θ x.1+s.2/\θ x.1<=1099511627776) (λ(s:BX×Int)=>(x.2.2-s.2).toNat) h (λs b=>?_);unfold GY;repeat' with_reducible first|intro a|apply AC|apply AK|apply AB|apply aT|(refine AM ?_ (CE ?_);rintro r ⟨hr,c⟩)
 all_goals try (have d:=sJ (wi (8*s.2));omega)
 all_goals ((try dsimp[len]at*);(try first|omega|assumption|grind[AZ,MP]))
def Dd{x:BX×Int×Int}(h:θ x.1<=1099511627776):As (Al x) λr=>(1<=x.2.2->x.2.2<=8->(θ r:Int)=θ x.1+x.2.2)/\θ r<=θ x.1+8:=by
 unfold Al;exact x!
def ABe{n:Int}(h:n<=4):(2:Int)^(8*n.toNat)<=4294967296:=by
 have:n.toNat=0\/n.toNat=1\/n.toNat=2\/n.toNat=3\/n.toNat=4:=o!
 rcases this with h|h|h|h|h<;>rw[h]<;>decide
def AGS{n:Int}(h:n<=2):(2:Int)^(8*n.toNat)<=65536:=by
 have:n.toNat=0\/n.toNat=1\/n.toNat=2:=o!
 rcases this with h|h|h<;>rw[h]<;>decide
def AEQ{a b:Int}{k:Nat}(e:0<=a)(c:a<2^k)(f:0<=b)(d:b<2^k)(g:k<=64):(0:Int)<=((π (κ 64 a|||κ 64 b):Nat):Int)/\((π (κ 64 a|||κ 64 b):Nat):Int)<2^k:=by
 refine⟨o!,?_⟩;obtain⟨n,rfl⟩:=EE e;obtain⟨m,rfl⟩:=EE f;have hn:n<2^k:=by exact_mod_cast c
 have h:m<2^k:=by exact_mod_cast d
 have i:2^k<=2^64:=eO g! g;rw[BitVec.toNat_or];simp[bU,bV];rw[S8 o!,S8 o!];exact_mod_cast Nat.or_lt_two_pow hn h
def yY{a v i:Int}(d:0≤i)(e:i<8)(c:0≤a)(b:a<2^(8*i.toNat))(g:0≤v)(h:v<256):
  0<=ι .u64 (((π ((κ 64 a)|||(κ 64 (ι .u64 ((ι .u64 v)*(2^(min (ο (ι .u64 (wi (8*i)))) 64))))))):Nat):Int)/\
  ι .u64 (((π ((κ 64 a)|||(κ 64 (ι .u64 ((ι .u64 v)*(2^(min (ο (ι .u64 (wi (8*i)))) 64))))))):Nat):Int)<2^(8*(wi (i+1)).toNat):=by
 rw[(AZ),AZ,(by rw[We];omega:ι .u64 (8*i)=8*i),(by rw[We];omega:ι .u64 v=v)];obtain⟨n,rfl⟩:=EE d;obtain⟨m,rfl⟩:=EE g;rw[(by omega:min (8*(n:Int)).toNat 64=8*n)];rw[(by omega:((n:Int)+1).toNat=n+1)];rw[(by omega:((n:Int)).toNat=n)]at b;have f:(m:Int)*2^(8*n)<2^(8*(n+1)):=by
  have:(m*2^(8*n):Nat)<2^(8*(n+1)):=by rw[(by grind[Nat.mul_add,Nat.pow_add]:2^(8*(n+1))=256*2^(8*n))];exact Nat.mul_lt_mul_of_pos_right o! (Nat.pow_pos g!)
  exact_mod_cast this
 have l:(2:Int)^(8*(n+1))<=2^64:=by have:(2^(8*(n+1)):Nat)<=2^64:=eO g! o!;exact_mod_cast this
 have j:(0:Int)<=(m:Int)*2^(8*n):=by
  have:(0:Int)<=((m*2^(8*n):Nat):Int):=o!
  exact_mod_cast this
 rw[(by rw[We];omega:ι .u64 ((m:Int)*2^(8*n))=(m:Int)*2^(8*n))];have⟨q1,q2⟩:=AEQ (k:=8*(n+1)) c (by grind[Nat.pow_le_pow_right]) j f o!;grind[π,We]
def aU{x:BX×Int×Int}{s:Int×Int}(h:0<=s.2/\s.2<=x.2.2/\x.2.2<=8/\0<=x.2.1/\x.2.1+x.2.2<=θ x.1/\θ x.1<=1099511627776/\0<=s.1/\s.1<2^(8*s.2.toNat)):As (Ai (GX x) s) λr=>0<=r/\r<2^(8*x.2.2.toNat):=by
 refine AW (λ(s:Int×Int)=>0<=s.2/\s.2<=x.2.2/\x.2.2<=8/\0<=x.2.1/\x.2.1+x.2.2<=θ x.1/\θ x.1<=1099511627776/\0<=s.1/\s.1<2^(8*s.2.toNat)) (λ(s:Int×Int)=>(x.2.2-s.2).toNat) h (λs n=>?_);unfold GX;have⟨d,q,f,g,j,k,l,m⟩:=n;repeat' with_reducible first|intro o|apply AC|apply AK|apply AB|apply aT|(refine AM ?_ (RE ?_ ?_);rintro r ⟨hr,p⟩)
 all_goals try (have t:=sJ (wi (8*s.2));omega)
 all_goals (first|(have⟨b,c⟩:=yY (a:=s.1) (v:=r) (i:=s.2) d o! l m hr p;have e:=AZ (x:=s.2+1);exact⟨⟨o!,o!,f,g,j,k,b,c⟩,d!⟩)|skip)
 all_goals exact l!
def Cj{x:BX×Int×Int}(h:x.1.length<=1099511627776):As (Ay x) λr=>r.2=0->0<=x.2.1/\x.2.1+x.2.2<=x.1.length/\(x.2.2<=4->0<=r.1/\r.1<4294967296)/\(x.2.2<=2->r.1<65536):=by
 unfold Ay;repeat' with_reducible first|apply AC<;>intro c|apply AK<;>intro c|apply AB|(refine AM ?_ (aU ?_);intro r hr)
 all_goals dsimp[len]at*
 all_goals first
  |omega
  |(intro d;exact absurd d g!)
  |(have e:=AZ (x:=(x.1.length:Int)-x.2.1);exact⟨o!,o!,o!,o!,o!,h,o!,k!⟩)
  |(intro _;have e:=AZ (x:=(x.1.length:Int)-x.2.1);refine⟨o!,o!,λb=>?_,λa=>?_⟩;(have:=ABe b;rw[AZ];omega);(have:=AGS a;rw[AZ];omega))
def aX  {s:Int×Int}(h:0<=s.2/\s.2<=8):As (Ai (IA) s) λr=>True:=by
 refine AW (λ(s:Int×Int)=>0<=s.2/\s.2<=8) (λ(s:Int×Int)=>(8-s.2).toNat) h (λs b=>?_);unfold IA;exact x!
def aW{x:BX}{s:Int×Int}(h:0<=s.2/\s.2<=θ x/\θ x<=1099511627776):As (Ai (H9 x) s) λr=>True:=by
 refine AW (λ(s:Int×Int)=>0<=s.2/\s.2<=θ x/\θ x<=1099511627776) (λ(s:Int×Int)=>((θ x:Int)-s.2).toNat) h (λs b=>?_);unfold H9;exact x!
def Ps{x:BX}(h:θ x<=1099511627776):As (E7 x) λr=>True:=by
 unfold E7;exact x!
theorem Tp{x:BX}:As (Dc x) λr=>θ r<=8408:=by
 unfold Dc;repeat' with_reducible first|intro a|apply AC|apply AK|apply AB|(refine AM ?_ (Dd ?_);intro r hr)|(refine AM ?_ (Ps ?_);intro r hr)|(refine AM ?_ (CE ?_);rintro r ⟨hr,b⟩)
 all_goals dsimp[len]at*
 all_goals exact l!
theorem RY{x:BX×Int}(h:θ x.1<=1099511627776):As (CQ x) λr=>r.2.2=0->θ r.1<=8392/\x.2+8+θ r.1=r.2.1/\0<=x.2/\r.2.1<=θ x.1:=by
 unfold CQ;repeat' with_reducible first|intro a|apply AC|apply AL|apply AK|apply AB|(refine AM ?_ (Cj ?_);intro r hr)|(refine AM ?_ (Ps ?_);intro r hr)|(refine AM ?_ (CY ?_ ?_ ?_);rintro r ⟨hr,b⟩)
 all_goals dsimp[len]at*
 all_goals exact l!
def gE{x:BX×Cg}(h:θ x.1<=1099511627776)(b:θ x.2.2<=16777216):As (GJ x) λr=>θ r<=θ x.1+8+θ x.2.2:=by
 unfold GJ;exact x!
def VE.lens{x:AE}(h:VE x):θ x.2.2.2.2.2.2.1.2.2.1.2<=12/\θ x.2.2.2.2.2.2.1.2.2.2.2<=12/\θ x.2.2.2.2.2.2.2<=8192:=by grind[VE,Oe,Gt,P2]
theorem ab{x:AE}:As (Fc x) λr=>θ r.1<=8400:=by
 unfold Fc;repeat' with_reducible first|intro a|apply AO|apply AK|apply AB|(apply AA (CV);intro r hr)|(refine AM ?_ (Dd ?_);intro r hr)|(refine AM ?_ (gE ?_ ?_);intro r hr)|(refine AM ?_ (CE ?_);rintro r ⟨hr,b⟩)
 all_goals try (have c:=(VE.lens (x:=x) (by unfold L5 at*;grind)))
 all_goals exact l!
def AGL(k:Nat):(0:Int)<256^k:=by have:0<256^k:=Nat.pow_pos g!;grind
def AJO(b k:Nat):(b:Int)*256^k=((b*256^k:Nat):Int):=q!
def C8(n:Int):Nat->BX
 |0=>[]
 |k+1=>UInt8.ofNat (n%256).toNat::C8 (n/256) k
def oZ:BX->Nat
 |[]=>0
 |b::r=>b.toNat+256*oZ r
theorem A0:∀(k:Nat)(n:Int),(C8 n k).length=k
 |0,n=>rfl
 |k+1,n=>by rw[C8,Ba,A0 k]
theorem uG:∀l:BX,oZ l<256^θ l
 |[]=>by simp[oZ]
 |b::r=>by have a:=uG r;have c:=b.toNat_lt;grind[oZ,List.length_cons,Nat.pow_succ]
def ABb:∀l:BX,C8 (oZ l:Int) (θ l)=l
 |[]=>rfl
 |b::r=>by have a:=b.toNat_lt;rw[Ba,C8,(by rw[oZ];omega:((oZ (b::r):Nat):Int)/256=(oZ r:Int)),(by rw[oZ];omega:(((oZ (b::r):Nat):Int)%256).toNat=b.toNat),ABb r];simp
def vq:∀(k:Nat)(n m:Int),n%256^k=m%256^k->C8 n k=C8 m k
 |0,_,_,_=>rfl
 |k+1,n,m,h=>by
  have e:(256:Int)^(k+1)=256^k*256:=Int.pow_succ ..;have b:n%256=m%256:=by have a:n%256^(k+1)%256=n%256:=Int.emod_emod_of_dvd n ⟨256^k,by rw[e,Int.mul_comm]⟩;simp_all
  have c:n/256%256^k=m/256%256^k:=by
   have g:∀x:Int,x/256%256^k=x%256^(k+1)/256:=λx=>by have d:=o8 (x/256) (256^k);have f:=o8 x (256*256^k);grind[Int.ediv_ediv_of_nonneg]
   grind
  rw[C8,C8,b,vq k _ _ c]
def uF:∀(k:Nat)(n:Int),C8 n (k+1)=C8 n k++[UInt8.ofNat (n/256^k%256).toNat]
 |0,n=>by simp[C8]
 |k+1,n=>by rw[C8,uF k (n/256),C8];grind[Int.pow_succ,Int.mul_comm,Int.ediv_ediv_of_nonneg]
theorem sB:∀(k:Nat)(n:Int),((oZ (C8 n k):Nat):Int)=n%256^k
 |0,n=>by simp[C8,oZ]
 |k+1,n=>by
  rw[C8,oZ];have b:(UInt8.ofNat (n%256).toNat).toNat=(n%256).toNat:=by grind[UInt8.toNat_ofNat']
  have c:=sB k (n/256);have a:=o8 (n/256) (256^k);grind[Int.mul_ediv_add_emod,Int.ediv_ediv_of_nonneg]
theorem uH:∀(l:BX)(b:UInt8),oZ (l++[b])=oZ l+b.toNat*256^θ l
 |[],b=>by simp[oZ]
 |a::r,b=>by rw[EO,oZ,uH r b,oZ,Ba,Nat.pow_succ,Nat.mul_add];grind
def bR(k:Nat)(n:Int):Prop:=(k<=7->0<=n/\n<256^k)/\ -9223372036854775808<=n/\n<=9223372036854775807
theorem Xf{k:Nat}(f:k<=8){n m:Int}(hn:bR k n)(d:bR k m)(h:C8 n k=C8 m k):n=m:=by
 have e:=sB k n;rw[h,sB k m]at e;by_cases c:k<=7;have a:=hn.1 c;have b:=d.1 c;grind[Int.emod_eq_of_lt];have:k=8:=o!
 have a:=hn.2;have b:=d.2;grind
def rd(l:BX):Int:=wi (oZ l:Int)
def AJP{k:Nat}(h:k<=7):(256:Int)^k<=72057594037927936:=by
 have:k=0\/k=1\/k=2\/k=3\/k=4\/k=5\/k=6\/k=7:=o!
 grind
theorem AAg{l:BX}(h:θ l<=8):bR (θ l) (rd l):=by have b:=uG l;have d:rd l=((oZ l:Int)+9223372036854775808)%18446744073709551616-9223372036854775808:=AFC _;refine⟨λa=>?_,o!⟩;have c:=AJP a;grind
theorem xF{l:BX}(h:θ l<=8):C8 (rd l) (θ l)=l:=by
 rw[show C8 (rd l) (θ l)=C8 (oZ l:Int) (θ l) from ?_,ABb];apply vq;by_cases a:θ l<=7;have c:=AJP a;have b:(oZ l:Int)<256^θ l:=by grind[uG]
 have:rd l=(oZ l:Int):=by unfold rd;exact AZ
 rw[this];have:θ l=8:=o!
 rw[this,show(256:Int)^8=18446744073709551616 by decide];unfold rd;rw[AFC];omega
theorem qN{k:Nat}{n:Int}(a:k<=8)(h:bR k n):rd (C8 n k)=n:=by grind[A0,Xf,AAg,C8,xF]
def AAc(k:Nat):(2:Int)^(8*k)=256^k:=by grind[Int.pow_mul]
def AEd{n:Int}{i:Int}(c:0<=i)(d:i<8):Eu ([ι .u8 (Int.fdiv (ι .u64 n) (2^(min (ο (ι .u64 (wi (8*i)))) 64)))]:List Int)=[UInt8.ofNat (n/256^i.toNat%256).toNat]:=by
 have a:wi (8*i)=8*i:=AZ;have b:ι .u64 (8*i)=8*i:=by rw[We];omega
 rw[a,b,show min (8*i).toNat 64=8*i.toNat by omega,AAc];have e:=AGL i.toNat
 rw[kq _ o!,We,AGy];have:n%18446744073709551616/256^i.toNat%256=n/256^i.toNat%256:=by
  have:i.toNat=0\/i.toNat=1\/i.toNat=2\/i.toNat=3\/i.toNat=4\/i.toNat=5\/i.toNat=6\/i.toNat=7:=o!
  rcases this with h|h|h|h|h|h|h|h<;>rw[h];rw[show(256:Int)^0=1 by decide];omega;rw[show(256:Int)^1=256 by decide];omega;rw[show(256:Int)^2=65536 by decide];omega;rw[show(256:Int)^3=16777216 by decide];omega;rw[show(256:Int)^4=4294967296 by decide];omega;rw[show(256:Int)^5=1099511627776 by decide];omega;rw[show(256:Int)^6=281474976710656 by decide];omega;rw[show(256:Int)^7=72057594037927936 by decide];omega
 rw[this];rfl
theorem Hq{s:BX}{n:Int}{k:Int}(h:θ s<=1099511627776)(i:1<=k)(j:k<=8):Al (s,n,k)=δ (s++C8 n k.toNat):=by
 have key:As (Ai (GY (s,n,k)) (s,0)) λr=>r=s++C8 n k.toNat:=by refine AW (λ(t:BX×Int)=>0<=t.2/\t.2<=k/\t.1=s++C8 n t.2.toNat) (λt=>(k-t.2).toNat) ⟨Af _,d!,by simp[C8]⟩ ?_;rintro⟨l,a⟩ ⟨b,g,c⟩;dsimp only at b g c;subst c;unfold GY;dsimp only;refine AC (λd=>?_) (λd=>AB (by rw[show a=k by omega]));refine AC (λe=>N! e (by have:=sJ (wi (8*a));omega)) (λ_=>?_);rw[AEd b o!];refine AA (CE (by rw[AY,A0];simp;omega)) λv f=>AB ?_;rw[(AZ)];refine⟨⟨o!,o!,?_⟩,o!⟩;rw[f.1,show(a+1).toNat=a.toNat+1 by omega,uF,A5]
 obtain⟨r,hr,rfl⟩:=key;unfold Al;grind
def zR{a t:BX}{i:Int}(c:0<=i)(d:i<θ t)(e:(θ a:Int)<=2199023255552)(f:(θ t:Int)<=2199023255552):∃b:UInt8,six (a++t) (wi ((θ a:Int)+i))=δ (b.toNat:Int)/\t.take (i+1).toNat=t.take i.toNat++[b]:=by obtain⟨k,rfl⟩:=EE c;refine⟨t[k],?_,?_⟩;grind[AZ,six];simp_all
theorem AIE{a b k:Nat}(h:a<256^k)(f:b<256)(g:k<8):π (κ 64 (a:Int)|||κ 64 ((b:Int)*256^k))=a+b*256^k:=by
 have e:(256:Nat)^k=2^(8*k):=by rw[Nat.pow_mul]
 have d:a+b*256^k<256^(k+1):=by
  have:b*256^k+256^k<=256*256^k:=by rw[<-Nat.succ_mul];exact Mu _ o!
  omega
 have c:(256:Nat)^(k+1)<=2^64:=by rw[show(2:Nat)^64=256^8 by decide];exact eO g! o!
 rw[AJO];rw[BitVec.toNat_or,bU,bU,bV,bV,S8 o!,S8 o!];grind[Nat.mul_comm,Nat.two_pow_add_eq_or_of_lt]
theorem ABS{a:Nat}{b:UInt8}{i:Int}(g:0<=i)(h:i<8)(k:a<256^i.toNat)(j:Int)(d:j=8*i):ι .u64 (((π ((κ 64 (a:Int))|||(κ 64 (ι .u64 ((ι .u64 (b.toNat:Int))*(2^(min (ο j) 64))))))):Nat):Int)=((a+b.toNat*256^i.toNat:Nat):Int):=by
 have l:=b.toNat_lt;have c:(256:Nat)^(i.toNat+1)<=2^64:=by rw[show(2:Nat)^64=256^8 by decide];exact eO g! o!
 have e:a+b.toNat*256^i.toNat<256^(i.toNat+1):=by
  have:b.toNat*256^i.toNat+256^i.toNat<=256*256^i.toNat:=by rw[<-Nat.succ_mul];exact Mu _ o!
  omega
 rw[d,(by rw[We];omega:ι .u64 (b.toNat:Int)=b.toNat),show min (8*i).toNat 64=8*i.toNat by omega,AAc];have f:ι .u64 ((b.toNat:Int)*256^i.toNat)=(b.toNat:Int)*256^i.toNat:=by rw[We,AJO];omega
 grind[AIE,We]
theorem jQ{a t:BX}{k:Int}(h:(θ a:Int)+θ t<=2199023255552)(v:1<=k)(w:k<=8):Ay (a++t,(θ a:Int),k)=if k<=θ t then δ (rd (t.take k.toNat),0)else δ (0,5):=by
 unfold Ay;dsimp only;have d:len (a++t)=(θ a:Int)+θ t:=by unfold len;rw[List.length_append];omega
 rw[F! o!,A!,F! o!,A!,F! o!,A!,F! o!,A!];have q:wi (len (a++t)-(θ a:Int))=θ t:=by rw[d,AZ];omega
 by_cases g:k<=θ t;rw[F! o!,A!,C! g];have key:As (Ai (GX (a++t,(θ a:Int),k)) (0,0)) λr=>r=(oZ (t.take k.toNat):Int):=by
  refine AW (λ(s:Int×Int)=>0<=s.2/\s.2<=k/\s.1=(oZ (t.take s.2.toNat):Int)) (λs=>(k-s.2).toNat) ⟨Af _,d!,by simp[oZ]⟩ ?_;rintro⟨x,c⟩ ⟨f,u,l⟩;dsimp only at f u l;subst l;unfold GX;dsimp only;refine AC (λo=>?_) (λo=>AB (by rw[show c=k by omega]));obtain⟨b,q1,q2⟩:=zR (a:=a) (t:=t) (i:=c) f o! o! o!;rw[q1,AD];refine AC (λp=>N! p (by have:=sJ (wi (8*c));omega)) (λ_=>AB ?_);have e:wi (c+1)=c+1:=AZ;have m:wi (8*c)=8*c:=AZ;have n:ι .u64 (8*c)=8*c:=by rw[We];omega
  have j:(t.take c.toNat).length=c.toNat:=by rw[BR];omega
  dsimp only;rw[e,ABS f o! (by have:=uG (t.take c.toNat);rwa [j]at this) _ (by rw[m,n])];refine⟨⟨o!,o!,?_⟩,o!⟩;rw[q2,uH,j]
 obtain⟨r,hr,rfl⟩:=key;rw[hr];rfl;rw[G! o!,B!,D! g]
theorem Xg{a t:BX}{k:Int}(h:(θ a:Int)+θ t<=2199023255552)(p:1<=k)(q:k<=8):By (a++t,(θ a:Int),k)=if k<=θ t then δ (rd (t.take k.toNat),0)else δ (0,5):=by
 unfold By;dsimp only;have f:len (a++t)=(θ a:Int)+θ t:=q!
 rw[F! o!,A!,F! o!,A!,F! o!,A!,F! o!,A!];have m:wi (len (a++t)-(θ a:Int))=θ t:=by grind[AZ]
 by_cases l:k<=θ t;rw[F! o!,A!,C! l];have key:As (Ai (Ue (a++t,(θ a:Int),k)) (0,0)) λr=>r=(oZ (t.take k.toNat):Int):=by refine AW (λ(s:Int×Int)=>0<=s.2/\s.2<=k/\s.1=(oZ (t.take s.2.toNat):Int)) (λs=>(k-s.2).toNat) ⟨Af _,d!,by simp[oZ]⟩ ?_;rintro⟨u,c⟩ ⟨d,n,e⟩;dsimp only at d n e;subst e;unfold Ue;dsimp only;refine AC (λg=>?_) (λg=>AB (by rw[show c=k by omega]));have⟨b,q1,q2⟩:=zR (a:=a) (t:=t) (i:=c) d o! o! o!;have o:wi (8*c)=8*c:=AZ;rw[q1,AD];refine AC (λj=>N! j o!) (λ_=>AB ?_);grind[AZ,ABS,uG,uH]
 obtain⟨r,hr,rfl⟩:=key;rw[hr];rfl;grind
def OS(x:BX×Int×Int):Option BX:=
 bif τ (θ x.1<=1099511627776)&&(τ (1<=x.2.2)&&τ (x.2.2<=8))then δ (x.1++C8 x.2.1 x.2.2.toNat)else ε
def Kp(x:BX×Int):Option BX:=
 bif (x.1==[0])&&(τ (0<=x.2)&&τ (x.2<=8000))then δ (ς x.2.toNat 0)else ε
def AIN(a b:AS):Bool:=(a.1==b.1)&&((a.2.1==b.2.1)&&(List.finRange 16).foldr (λi r=>((a.2.2 i).1==(b.2.2 i).1)&&(((a.2.2 i).2==(b.2.2 i).2)&&r)) ζ)
end Go.Pm
