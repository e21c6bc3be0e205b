/- Texts of wip, joined and shortened by wip/tools/pack.py; nothing is assumed. -/
import Derived.Test.YtdbincbpjobdpaaGreatK7
noncomputable section
set_option linter.all false
set_option maxHeartbeats 400000
open Option renaming some->Z
open List renaming length->U
open Go renaming Ψ->S
open Bool renaming false->Y
open Bool renaming true->V
open Option renaming none->W
open Go renaming Ω->T
open Option renaming some->δ,none->ε
open Bool renaming true->ζ,false->η
open List renaming length->θ,replicate->ς
open Go.IntKind renaming wrap->ι
open BitVec renaming ofInt->κ,toNat->π
open Int renaming toNat->ο
open Decidable renaming decide->τ
namespace Go.Pm
open Go Go.Ab
def G9(x:Cj):Prop:=U x.2<=12/\(x.1=V\/x.2=[])
def Ow(x:Dz):Prop:=0<=x.1/\x.1<64/\0<=x.2.1/\x.2.1<16/\G9 x.2.2.1/\G9 x.2.2.2
def Kr{x}:Ap (Df x) λr=>r=V↔G9 x:=by
 unfold Df G9
 exact x!
def UE{x}:Ap (I6 x) λr=>r=V↔Ow x:=by
 unfold I6 Ow
 exact x!
def QL:Dz:=(0,0,(Y,[]),Y,[])
def Va(x:AE):Prop:=
 (x.2.1=1/\x.2.2.2.2.2.1=0/\x.2.2.2.2.2.2.2=[]/\1<=x.2.2.1/\x.2.2.1<=1073741824/\Ow x.2.2.2.2.2.2.1)\/
 (x.2.1=2/\0<x.2.2.2.1/\1<=x.2.2.2.2.2.1/\x.2.2.2.2.2.1<=x.2.2.2.1/\x.2.2.2.2.2.2.2=[]/\1<=x.2.2.1/\x.2.2.1<=1073741824/\Ow x.2.2.2.2.2.2.1)\/
 ((x.2.1=3\/x.2.1=4\/x.2.1=5)/\0<x.2.2.2.1/\x.2.2.2.2.1=0/\x.2.2.2.2.2.1=0/\x.2.2.2.2.2.2.1=QL/\x.2.2.2.2.2.2.2=[]/\1<=x.2.2.1/\x.2.2.1<=1073741824)\/
 ((x.2.1=6\/x.2.1=8)/\x.2.2.1=0/\x.2.2.2.1=0/\x.2.2.2.2.1=0/\x.2.2.2.2.2.1=0/\x.2.2.2.2.2.2.1=QL/\U x.2.2.2.2.2.2.2<=8192)\/
 (x.2.1=7/\x.2.2.1=0/\x.2.2.2.1=0/\x.2.2.2.2.1=0/\0<=x.2.2.2.2.2.2.1.1/\x.2.2.2.2.2.2.1.1<64/\x.2.2.2.2.2.2.1.2=QL.2/\x.2.2.2.2.2.2.2=[])
def MI(x:AE):Prop:=1<=x.1/\x.1<=1099511627776/\0<=x.2.2.2.1/\x.2.2.2.1<x.1/\0<=x.2.2.2.2.1/\x.2.2.2.2.1<x.1/\0<=x.2.2.2.2.2.1/\x.2.2.2.2.2.1<x.1/\Va x
def bR{x}:Ap (Gp x) λr=>r=V↔0<=x.1/\x.1<x.2:=by
 unfold Gp;exact x!
def dy{x:AE}:Ap (Lo x) λr=>(r.2=true/\r.1=x)↔Va x:=by
 obtain⟨a,b,c,d,e,f,⟨g,h,⟨i,j⟩,k,l⟩,m⟩:=x;unfold Lo Va QL;dsimp only
 repeat' first
   |with_reducible apply AC<;>intro n
   |with_reducible apply AP<;>intro n
   |with_reducible apply AK<;>intro n
   |(with_reducible apply BL;try dsimp only)
   |with_reducible apply Bp
   |with_reducible apply B8
   |with_reducible apply AB
   |(with_reducible apply AA (UE);intro r hr)
 all_goals grind
def CC{x:AE}:Ap (Cs x) λr=>r=true↔MI x:=by
 unfold Cs;refine AA dy λn A=>?_;have e:((n.1.1==x.1)&&((n.1.2.1==x.2.1)&&((n.1.2.2.1==x.2.2.1)&&((n.1.2.2.2.1==x.2.2.2.1)&&((n.1.2.2.2.2.1==x.2.2.2.2.1)&&((n.1.2.2.2.2.2.1==x.2.2.2.2.2.1)&&((n.1.2.2.2.2.2.2.1.1==x.2.2.2.2.2.2.1.1)&&((n.1.2.2.2.2.2.2.1.2.1==x.2.2.2.2.2.2.1.2.1)&&((n.1.2.2.2.2.2.2.1.2.2.1.1==x.2.2.2.2.2.2.1.2.2.1.1)&&((n.1.2.2.2.2.2.2.1.2.2.1.2==x.2.2.2.2.2.2.1.2.2.1.2)&&((n.1.2.2.2.2.2.2.1.2.2.2.1==x.2.2.2.2.2.2.1.2.2.2.1)&&((n.1.2.2.2.2.2.2.1.2.2.2.2==x.2.2.2.2.2.2.1.2.2.2.2)&&((n.1.2.2.2.2.2.2.2==x.2.2.2.2.2.2.2)&&true)))))))))))))=true↔n.1=x:=by obtain⟨⟨a,b,c,d,e,f,⟨g,h,⟨i,j⟩,k,l⟩,m⟩,z⟩:=n;obtain⟨p,q,s,t,u,v,⟨w,y,⟨B,C⟩,D,E⟩,F⟩:=x;simp[and_assoc]
 generalize ((n.1.1==x.1)&&_)=bb at e⊢;unfold MI
 repeat' first
   |with_reducible apply AC<;>intro o
   |with_reducible apply AP<;>intro o
   |with_reducible apply AK<;>intro o
   |(with_reducible apply BL;try dsimp only)
   |with_reducible apply Bp
   |with_reducible apply B8
   |with_reducible apply AB
   |(with_reducible apply AA (bR);intro r hr)
 all_goals grind
def Du{x}:Ap (Ck x) λr=>r=wi (wi (x.1+len x.2.1)-1):=by
 unfold Ck;exact x!
def De(x:AZ):Prop:=1<=x.1/\x.1<=1099511627776/\U x.2.1<=4096/\x.1-1<=x.2.2/\x.2.2<=x.1+U x.2.1-1/\∀(i:Nat)(e:AE),x.2.1[i]?=Z e->e.1=x.1+i/\MI e
def Yy{x:AZ}{s:Int}(h:0<=s/\s<=θ x.2.1/\θ x.2.1<=4096/\1<=x.1/\x.1<=1099511627776/\∀(i:Nat)(e:AE),i<s->x.2.1[i]?=δ e->e.1=x.1+i/\MI e):Ap (Aj (NS x) s) λr=>(r=.inl η/\¬De x)\/(r=.inr ()/\∀(i:Nat)(e:AE),x.2.1[i]?=δ e->e.1=x.1+i/\MI e):=by
 refine AW (λ(s:Int)=>0<=s/\s<=θ x.2.1/\θ x.2.1<=4096/\1<=x.1/\x.1<=1099511627776/\∀(i:Nat)(e:AE),i<s->x.2.1[i]?=δ e->e.1=x.1+i/\MI e) (λ(s:Int)=>((θ x.2.1:Int)-s).toNat) h (λs b=>?_);unfold NS;obtain⟨c,d,f,g,j,k⟩:=b;exact x!
def Bb{x}:Ap (B5 x) λr=>r=V↔De x:=by
 unfold B5;exact x!
def Hg(x:AT):Prop:=0<=x.1/\x.1<64/\0<=x.2.1/\x.2.1<=1099511627776/\∀i,G9 (x.2.2 i)/\(x.2.1=0->(x.2.2 i).1=Y)
def ML{x}:Ap (Hu x) λr=>r=V↔0<=x.1/\x.1<64/\0<=x.2.1/\x.2.1<=1099511627776:=by
 unfold Hu;exact x!
def Yu{x:AT}{s:Int}(h:0<=s/\s<=16/\∀i:Fin 16,(i.val:Int)<s->G9 (x.2.2 i)/\(x.2.1=0->(x.2.2 i).1=Y)):Ap (Aj (NJ x) s) λr=>(r=.inl Y/\¬ ∀i,G9 (x.2.2 i)/\(x.2.1=0->(x.2.2 i).1=Y))\/(r=.inr ()/\∀i,G9 (x.2.2 i)/\(x.2.1=0->(x.2.2 i).1=Y)):=by
 refine AW (λs=>0<=s/\s<=16/\∀i:Fin 16,(i.val:Int)<s->G9 (x.2.2 i)/\(x.2.1=0->(x.2.2 i).1=Y)) (λs=>(16-s).toNat) h (λs b=>?_);unfold NJ;exact x!
def OG{x}:Ap (I4 x) λr=>r=V↔∀i,G9 (x.2.2 i)/\(x.2.1=0->(x.2.2 i).1=Y):=by
 unfold I4;exact x!
def du{x}:Ap (Ll x) λr=>r=V↔Hg x:=by
 unfold Ll Hg
 exact x!
def OF{x}:Ap (D6 x) λr=>r=0->Hg x:=by
 unfold D6 Hg
 exact x!
def pT(f:BE):Prop:=Hg f.1/\(f.2.1=V->1<=f.2.2.1/\f.2.2.1<=f.1.2.1)/\(f.2.1=Y->f.2.2.1=0)
def Kn(l:S BE)(n:Int):Prop:=(∀(i:Nat)(f:BE),i<n->l[i]?=Z f->pT f)/\∀(i j:Nat)(f g:BE),i<j->j<n->l[i]?=Z f->l[j]?=Z g->f.1.1≠g.1.1
def Pg(x:Bv):Prop:=1<=x.1/\x.1<=64/\U x.2.1<=x.1/\0<=x.2.2/\(U x.2.1=0/\x.2.2=0\/x.2.2<U x.2.1)/\Kn x.2.1 (U x.2.1)
theorem Kn.step{l}{n:Int}{f:BE}(e:0<=n)(h:Kn l n)(o:l[ο n]?=Z f)(r:pT f)(m:∀(j:Nat)(g:BE),j<n->l[j]?=Z g->g.1.1≠f.1.1):Kn l (n+1):=by
 refine⟨λi g p b=>?_,λi j g k c q b d=>?_⟩;rcases lJ i n with a|a;exact h.1 i g a b;grind;rcases lJ j n with a|a;exact h.2 i j g k c a b d;have:j=ο n:=o!
 grind
theorem qR{l:S BE}{n:Int}{f:BE}(c:0<=n)(d:n<U l)(a:l[ο n]?=Z f)(b:¬pT f):¬Kn l (U l):=λh=>b (h.1 (ο n) f o! a)
theorem qS{l:S BE}{n:Int}{f:BE}(e:0<=n)(i:n<U l)(d:l[ο n]?=Z f)(c:∃(j:Nat)(g:BE),j<n/\l[j]?=Z g/\g.1.1=f.1.1):¬Kn l (U l):=λh=>by have⟨j,g,k,a,b⟩:=c;exact h.2 j (ο n) g f o! o! a d b
def IX{x:Bv}{a:Int}{b:BE}{s:Int}(h:0<=s/\s<=a/\a<=U x.2.1/\(U x.2.1:Int)<=16777216/\∀(j:Nat)(g:BE),j<s->x.2.1[j]?=Z g->g.1.1≠b.1.1):Ap (Aj (F7 x a b) s) λr=>(r=.inl Y/\∃(j:Nat)(g:BE),j<a/\x.2.1[j]?=Z g/\g.1.1=b.1.1)\/(r=.inr ()/\∀(j:Nat)(g:BE),j<a->x.2.1[j]?=Z g->g.1.1≠b.1.1):=by
 refine AW (λs=>0<=s/\s<=a/\a<=U x.2.1/\(U x.2.1:Int)<=16777216/\∀(j:Nat)(g:BE),j<s->x.2.1[j]?=Z g->g.1.1≠b.1.1) (λs=>(a-s).toNat) h (λs d=>?_);unfold F7;exact x!
def Y3{x:Bv}{s:Int}(h:0<=s/\s<=x.2.1.length/\(x.2.1.length:Int)<=16777216/\Kn x.2.1 s):Ap (Aj (NZ x) s) λr=>(r= .inl false/\ ¬Kn x.2.1 x.2.1.length)\/(r= .inr ()/\Kn x.2.1 x.2.1.length):=by
 refine AW (λ(s:Int)=>0<=s/\s<=x.2.1.length/\(x.2.1.length:Int)<=16777216/\Kn x.2.1 s) (λ(s:Int)=>((x.2.1.length:Int)-s).toNat) h (λs d=>?_);unfold NZ;repeat' with_reducible first|intro a|apply AC|apply AO|apply AL|apply AK|(apply BB;try dsimp only)|(apply Ax;try dsimp only)|(apply BG<;>(intro u c;try subst c))|apply AB|(apply AA (du);intro r hr)|(refine AM ?_ (IX ?_);intro r hr)|(refine AM ?_ (IX ?_);intro r hr)|(refine AM ?_ (IX ?_);intro r hr)|(refine AM ?_ (IX ?_);intro r hr)|(refine AM ?_ (AJ ?_ ?_);rintro r ⟨hr,f⟩)
 all_goals try (have e:=AY (x:=s+1))
 all_goals first|omega|(exact⟨o!,o!,o!,o!,λj g b=>absurd b o!⟩)|grind[Kn.step,qR,qS,pT]
def Kn.zero(l:S BE):Kn l 0:=⟨λi f h=>N! h o!,λi j f g h a=>N! a o!⟩
def AKB(n h:Int)(a:0<=n)(b:n<=64):(h>if wi (n-1)>0 then wi (n-1)else 0)↔¬(n=0/\h<=0\/h<n):=by grind[AY]
def D4{x}:Ap (Dj x) λr=>r=V↔Pg x:=by
 unfold Dj Pg
 repeat' first
   |with_reducible apply AC<;>intro b
   |(with_reducible apply BG<;>(intro u a;try subst a))
   |with_reducible apply AB
   |(with_reducible refine AM ?_ (Y3 ?_);intro r hr)
 all_goals try dsimp[len]at*
 all_goals first
  |(exact⟨o!,o!,o!,Kn.zero _⟩)
  |(have c:=AKB (U x.2.1) x.2.2 o! o!;grind)
  |grind
def OM{x}:Ap (HI x) λr=>True:=by
 unfold HI;exact x!
def U7{x}:Ap (Ff x) λr=>True:=by
 unfold Ff;exact x!
def Ga{x}:Ap (EG x) λr=>True:=by
 unfold EG;exact x!
def Zo{x:BC×Int×Cu}{s:Int}(h:0<=s/\s<=x.1.1.length/\(x.1.1.length:Int)<=16777216):Ap (Aj (OP x) s) λr=>True:=by
 refine AW (λ(s:Int)=>0<=s/\s<=x.1.1.length/\(x.1.1.length:Int)<=16777216) (λ(s:Int)=>((x.1.1.length:Int)-s).toNat) h (λs b=>?_);unfold OP;exact x!
def IW{x:BC×Int×Cu}(h:U x.1.1<=16777216):Ap (EH x) λr=>True:=by
 unfold EH;exact x!
def GV(x:BC):Prop:=U x.1<=16777216/\U x.2<=16777216
def Q2{x:BC}{a:Int}{s:Int}(h:s<a/\ -1<=s/\0<=a/\a<U x.1/\U x.1<=16777216):Ap (Aj (Jg x a) s) λr=>r≠.inl V:=by
 refine AW (λs=>s<a/\ -1<=s/\0<=a/\a<U x.1/\U x.1<=16777216) (λs=>(s+1).toNat) h (λs c=>?_);unfold Jg;exact x!
def Yz{x:BC}{s:Int}(h:0<=s/\s<=θ x.1/\(θ x.1:Int)<=16777216):Ap (Aj (NT x) s) λr=>r≠.inl ζ:=by
 refine AW (λ(s:Int)=>0<=s/\s<=θ x.1/\(θ x.1:Int)<=16777216) (λ(s:Int)=>((θ x.1:Int)-s).toNat) h (λs c=>?_);unfold NT;exact x!
def Y1{x:BC}{a:Int}{b}{s:Int}(h:0<=s/\s<=a/\(a:Int)<=16777216/\a<=U x.2):Ap (Aj (NV x a b) s) λr=>r≠.inl V:=by
 refine AW (λs=>0<=s/\s<=a/\(a:Int)<=16777216/\a<=U x.2) (λs=>((a:Int)-s).toNat) h (λs d=>?_);unfold NV;exact x!
def Y0{x:BC}{s:Int}(h:0<=s/\s<=x.2.length/\(x.2.length:Int)<=16777216/\x.1.length<=16777216):Ap (Aj (NU x) s) λr=>r≠ .inl true:=by
 refine AW (λ(s:Int)=>0<=s/\s<=x.2.length/\(x.2.length:Int)<=16777216/\x.1.length<=16777216) (λ(s:Int)=>((x.2.length:Int)-s).toNat) h (λs c=>?_);unfold NU;exact x!
def aR(x:BC):Prop:=U x.1+U x.2<=1024
def EW{x}(h:GV x):Ap (D7 x) λr=>r=V->aR x:=by
 unfold D7 aR;unfold GV at h
 exact x!
def VTx(x:Ai):Prop:=U x.2.2.2.2.1<=4096/\U x.2.2.2.2.2<=8/\1<=x.1
def cI(x:S Ai):Prop:=U x<=64/\∀(i:Nat)(t:Ai),x[i]?=Z t->VTx t
def Q3{x:Ai}{s:Int}(h:0<=s/\s<=θ x.2.2.2.2.1/\(θ x.2.2.2.2.1:Int)<=16777216):Ap (Aj (Ev x) s) λr=>r≠.inl ζ:=by
 refine AW (λ(s:Int)=>0<=s/\s<=θ x.2.2.2.2.1/\(θ x.2.2.2.2.1:Int)<=16777216) (λ(s:Int)=>((θ x.2.2.2.2.1:Int)-s).toNat) h (λs b=>?_);unfold Ev;exact x!
def Ib{x:Ai}{s:Int}(h:0<=s/\s<=θ x.2.2.2.2.2/\(θ x.2.2.2.2.2:Int)<=16777216):Ap (Aj (Jm x) s) λr=>r≠.inl ζ:=by
 refine AW (λ(s:Int)=>0<=s/\s<=θ x.2.2.2.2.2/\(θ x.2.2.2.2.2:Int)<=16777216) (λ(s:Int)=>((θ x.2.2.2.2.2:Int)-s).toNat) h (λs b=>?_);unfold Jm;exact x!
def eJ{x}:Ap (JB x) λr=>r=V->VTx x:=by
 unfold JB VTx
 exact x!
def Y6{x:List Ai}{s:Int}(h:0<=s/\s<=θ x/\(θ x:Int)<=16777216/\∀(i:Nat)(t:Ai),i<s->x[i]?=δ t->VTx t):Ap (Aj (Jk x) s) λr=>r=.inl η\/(r=.inr ()/\∀(i:Nat)(t:Ai),x[i]?=δ t->VTx t):=by
 refine AW (λ(s:Int)=>0<=s/\s<=θ x/\(θ x:Int)<=16777216/\∀(i:Nat)(t:Ai),i<s->x[i]?=δ t->VTx t) (λ(s:Int)=>((θ x:Int)-s).toNat) h (λs b=>?_);unfold Jk;exact x!
def C4{x}:Ap (C6 x) λr=>r=V->cI x:=by
 unfold C6 cI
 exact x!
def ms(x:Bt):Prop:=1<=U x/\U x<=64
def jU{x}:Ap (G7 x) λr=>True:=by
 unfold G7;exact x!
def Y4{x:Bt}{s:Int}(h:0<=s/\s<=x.length/\(x.length:Int)<=16777216):Ap (Aj (Ji x) s) λr=>r≠ .inl true:=by
 refine AW (λ(s:Int)=>0<=s/\s<=x.length/\(x.length:Int)<=16777216) (λ(s:Int)=>((x.length:Int)-s).toNat) h (λs b=>?_);unfold Ji;exact x!
def FY{x}:Ap (D8 x) λr=>r=V->ms x:=by
 unfold D8 ms
 exact x!
def VX{x:List Ah×Int}{s:Int}(h:0<=s/\s<=θ x.1/\(θ x.1:Int)<=16777216):Ap (Aj (Fh x) s) λr=>r≠.inl ζ:=by
 refine AW (λ(s:Int)=>0<=s/\s<=θ x.1/\(θ x.1:Int)<=16777216) (λ(s:Int)=>((θ x.1:Int)-s).toNat) h (λs b=>?_);unfold Fh;exact x!
def Pw{x:S Ah×Int}(h:U x.1<=16777216):Ap (Dx x) λr=>True:=by
 unfold Dx;exact x!
theorem Cp{b:Type}{l:S b}{i:Nat}{a:b}(h:l[i]?=Z a):i<U l:=k!
def cC(p:Int)(e:AE):Bool:=((e.2.1==1)||(e.2.1==2))&&(e.2.2.2.2.2.2.1.1==p)
def Be(L:S AE)(p:Int):Int:=L.foldl (λa e=>if cC p e then e.1 else a) 0
theorem Pe(L:S AE)(e:AE)(p:Int):Be (L++[e]) p=if cC p e then e.1 else Be L p:=by simp[Be,YN,YO,List.foldl_nil]
def upd(x:AT)(e:AE):AT:=(x.1,e.1,XK x.2.2 e.2.2.2.2.2.2.1.2.1 e.2.2.2.2.2.2.1.2.2.2)
def st(L:S AE)(p:Int):AT:=(L.filter (cC p)).foldl upd (p,0,Gd.all (Y,[]))
def ACV(L M:S AE)(p:Int):st (L++M) p=(M.filter (cC p)).foldl upd (st L p):=by unfold st;rw[GO,YN]
theorem ABf(L:S AE)(e:AE)(p:Int):st (L++[e]) p=if cC p e then upd (st L p) e else st L p:=by rw[ACV,Mb,lP];split<;>rfl
def AC7(L:S AE)(x:AT):(L.foldl upd x).1=x.1:=by
 induction L generalizing x with
 |nil=>rfl
 |cons e L a=>exact a (upd x e)
theorem VQ(L:S AE)(p:Int):(st L p).1=p:=AC7 _ _
theorem Kb(L:S AE)(p:Int):(st L p).2.1=Be L p:=by
 suffices h:∀(L:S AE)(x:AT),((L.filter (cC p)).foldl upd x).2.1=L.foldl (λa e=>if cC p e then e.1 else a) x.2.1 from h L _
 intro L;induction L with
 |nil=>exact λx=>rfl
 |cons e L b=>intro x;rw[Mb,YO];split;exact b (upd x e);exact b x
def yl(n:Int)(L:S AE)(D:S Ah)(R:S Bk):Prop:=
 ∀p,0<=p->p<n->(∀d∈D,d.1=p->d.2.2=Be L p)/\∀r,R[p.toNat]?=Z r->r.1<=Be L p/\((∀d∈D,d.1≠p)->r.1=Be L p)
def KP(n:Int)(L:S AE)(F:S BE)(D:S Ah)(R:S Bk):Prop:=
 ∀p,0<=p->p<n->(∀f∈F,f.1.1=p->f.1=st L p)/\(∀d∈D,d.1=p->d.2.2=Be L p)/\
  ∀r,R[p.toNat]?=Z r->r.1<=Be L p/\((∀d∈D,d.1≠p)->(∀f∈F,f.1.1=p->f.2.1=Y)->r.1=Be L p)
def EOK(n:Int)(M:S AE)(e:AE):Prop:=
 (e.2.1=1\/e.2.1=2->e.2.2.2.2.1=Be M e.2.2.2.2.2.2.1.1/\G1 (st M e.2.2.2.2.2.2.1.1).2.2 e.2.2.2.2.2.2.1.2.1=Z e.2.2.2.2.2.2.1.2.2.1)/\(e.2.1=7->e.2.2.2.2.2.1=Be M e.2.2.2.2.2.2.1.1)/\
  (e.2.1=6->∀c,DG e.2.2.2.2.2.2.2=Z (c,0)->c.1=n->yl n M c.2.2.2.1 c.2.2.2.2)
def LI(n:Int)(L:S AE):Prop:=∀(i:Nat)(e:AE),L[i]?=Z e->EOK n (L.take i) e
def LI.nil(n:Int):LI n []:=λi e h=>by simp at h
def LI.app{n}{L}{e}(h:LI n L)(c:EOK n L e):LI n (L++[e]):=by intro i f b;rcases Qr i (U L) with a|a|a;rw[CW a]at b;rw[WD o!];exact h i f b;grind;grind[u?]
def LI.pre{n}{L T:S AE}(h:LI n (L++T)):LI n L:=by intro i f a;have:=h i f k!;grind
def FD(B:Int->Prop)(n:Int)(F:S BE)(D:S Ah):Prop:=∀f∈F,0<=f.1.1/\f.1.1<n/\(∀d∈D,d.1≠f.1.1)/\B f.1.1
variable {B:Int->Prop}
abbrev pR:Type:=(Int->Prop)×(Nat×Nat)
def TW(l:S Ai):Nat:=(l.map λt=>2*U t.2.2.2.2.1+1).sum
def DN(F:S BE):Nat:=F.countP λf=>f.2.1
def sY(L:S AE):Nat:=L.countP λe=>e.2.1==1
def PH(k:AQ):Nat:=U k.2.2.1.2.1+DN k.2.2.2.1.2.1+U k.2.2.2.2.2.2.2+TW k.2.2.2.2.2.1
def RM(w:Nat×Nat)(k:AQ):Prop:=sY k.2.2.1.2.1<=w.1/\PH k<=w.2
def KI(B:pR)(k:AQ):Prop:=LI k.1 k.2.2.1.2.1/\KP k.1 k.2.2.1.2.1 k.2.2.2.1.2.1 k.2.2.2.2.2.2.2 k.2.2.2.2.2.2.1/\FD B.1 k.1 k.2.2.2.1.2.1 k.2.2.2.2.2.2.2/\RM B.2 k
def KI.fd{B}{k}(h:KI B k):FD B.1 k.1 k.2.2.2.1.2.1 k.2.2.2.2.2.2.2:=h.2.2.1
def KI.rm{B}{k}(h:KI B k):RM B.2 k:=h.2.2.2
def RM.up{w v:Nat×Nat}{k}(h:RM w k)(a:w.1<=v.1)(b:w.2<=v.2):RM v k:=⟨CK h.1 a,CK h.2 b⟩
def pR.up(B:pR)(i j:Nat):pR:=(B.1,B.2.1+i,B.2.2+j)
def AGa(L:S AE)(e:AE):sY (L++[e])=sY L+if e.2.1=1 then 1 else 0:=by unfold sY;rw[List.countP_append,List.countP_singleton];by_cases h:e.2.1=1<;>simp[h]
def AGb(L T:S AE):sY L<=sY (L++T):=by unfold sY;rw[List.countP_append];exact Nat.le_add_right _ _
def FD.sub{n}{F G:S BE}{D}(h:FD B n F D)(a:∀g∈G,∃f∈F,f.1.1=g.1.1/\f.1=g.1):FD B n G D:=by intro g c;have⟨f,b,e,_⟩:=a g c;rw[<-e];exact h f b
def ou{p b:Int}:∀(L:S AE)(a:Int),a<b->(∀e∈L,e.1<b)->L.foldl (λa e=>if cC p e then e.1 else a) a<b
 |[],a,ha,_=>ha
 |e::L,a,ha,h=>by refine ou L _ ?_ λf c=>h f (Ch _ c);show(if cC p e=V then e.1 else a)<b;split;exact h e KW;exact ha
def lj{l}(h:De l)(p:Int):Be l.2.1 p<l.1+U l.2.1:=by have⟨a,_,_,_,_,b⟩:=h;refine ou _ _ o! λe c=>?_;grind[List.getElem?_of_mem]
def KP.app{n}{L}{F}{D}{R}{e:AE}(h:KP n L F D R)(c:e.2.1≠1/\e.2.1≠2):KP n (L++[e]) F D R:=by intro p a b;rw[(by grind[Pe,cC]:Be (L++[e]) p=Be L p),(by grind[ABf,cC]:st (L++[e]) p=st L p)];exact h p a b
def KP.frames{n:Int}{L:S AE}{F G:S BE}{D:S Ah}{R:S Bk}(h:KP n L F D R)
  (m:∀g∈G,∃f∈F,f.1.1=g.1.1/\f.1=g.1) (o:∀f∈F,f.2.1=V->∃g∈G,g.1.1=f.1.1/\g.2.1=V):KP n L G D R:=by
 intro p w x;obtain⟨a,b,c⟩:=h p w x;refine⟨λg v e=>?_,b,λr hr=>⟨(c r hr).1,λt u=>(c r hr).2 t λf d e=>?_⟩⟩;obtain⟨f,d,j,k⟩:=m g v;rw[<-k];exact a f d (j.trans e);cases s:f.2.1 with
 |false=>rfl
 |true=>obtain⟨g,q,l,i⟩:=o f d s;rw[u g q (l.trans e)]at i;cases i
def KP.written{n:Int}{L:S AE}{F G:S BE}{D:S Ah}{R:S Bk}{q lsn:Int}{w:Bk}(h:KP n L F D R)(q0:0≤q)(z:lsn=Be L q)(A:q<n)
  (o:∀g∈G,∃f∈F,f.1.1=g.1.1/\f.1=g.1) (s:∀f∈F,f.1.1≠q->f∈G) (k:R[ο q]?=Z w):
  KP n L G D (R.set (ο q) ((if lsn>w.1 then lsn else w.1),w.2)):=by
 intro p x y;obtain⟨a,b,c⟩:=h p x y;refine⟨λg v e=>?_,b,λr hr=>?_⟩;obtain⟨f,d,l,m⟩:=o g v;rw[<-m];exact a f d (l.trans e);by_cases j:p=q;subst j;have i:p.toNat<U R:=by rcases Ay p.toNat (U R) with h|h;exact h;rw[Cq h]at k;cases k
 rw[Hq i]at hr;have:=(c w k).1;have e:r.1=Be L p:=by rw[<-Ba hr];dsimp only;split<;>omega
 exact⟨o!,λ_ _=>e⟩;rw[Db o!]at hr;refine⟨(c r hr).1,λt u=>(c r hr).2 t λf d e=>?_⟩;exact u f (s f d o!) e
def ACT{F:S BE}{i:Nat}{f n:BE}(a:F[i]?=Z f)(hn:n.1=f.1):∀g∈F.set i n,∃f∈F,f.1.1=g.1.1/\f.1=g.1:=k!
def yY{F:S BE}{i:Nat}{f n:BE}(c:F[i]?=Z f):∀g∈F,g.1.1≠f.1.1->g∈F.set i n:=by intro g a b;have⟨j,d⟩:=C2 a;apply BN (i:=j);grind
def KP.change{n:Int}{L:S AE}{F:S BE}{D:S Ah}{R:S Bk}{e:AE}{i:Nat}{f g:BE}(h:KP n L F D R)(G:FD B n F D)
  (t:e.2.1=1\/e.2.1=2) (u:F[i]?=Z f) (I:f.1.1=e.2.2.2.2.2.2.1.1) (v:g.1=upd f.1 e) (y:g.2.1=V)
  (J:∀j k,F[j]?=Z k->k.1.1=f.1.1->j=i) (H:Be L f.1.1<e.1):KP n (L++[e]) (F.set i g) D R:=by
 have w:i<U F:=by rcases Ay i (U F) with h|h;exact h;rw[Cq h]at u;cases u
 have A:g∈F.set i g:=BN (i:=i) (Hq w);have C:g.1.1=f.1.1:=by rw[v];rfl
 intro p K M;obtain⟨a,b,c⟩:=h p K M;have E:cC p e=(f.1.1==p):=by rw[I];unfold cC;rcases t with h|h<;>simp[h]
 rw[Pe,ABf,E];by_cases l:f.1.1=p;subst l;rw[L!,C! rfl,C! rfl];refine⟨λk t m=>?_,λd o m=>N! m ((G f (BN u)).2.2.1 d o),λr hr=>⟨by have:=(c r hr).1;omega,λ_ q=>?_⟩⟩;obtain⟨j,x⟩:=C2 t;by_cases s:j=i;subst s;rw[Hq w]at x;rw[<-Ba x,v];exact E! (upd · e) (a f (BN u) rfl);rw[Db (s ·.symm)]at x;exact N! (J j k x m) s;have:=q g A C;rw[y]at this;cases this;rw[D! (by simpa using l),D! (by simpa using l)];refine⟨λk t m=>?_,b,λr hr=>⟨(c r hr).1,λo q=>(c r hr).2 o λk t m=>?_⟩⟩;rcases Qo t with h|h;exact a k h m;subst h;exact N! (C.symm.trans m) l;exact q k (yY u k t o!) m
def FD.set{n}{F}{D}{i:Nat}{f g:BE}(h:FD B n F D)(b:F[i]?=Z f)(c:g.1.1=f.1.1):FD B n (F.set i g) D:=by intro k d;rcases Qo d with a|a;exact h k a;subst a;rw[c];exact h f (BN b)
def KP.supply{n:Int}{L:S AE}{F:S BE}{D l:S Ah}{R:S Bk}{x:AT}{g:BE}(h:KP n L F D R)(y:x=st L x.1)
  (w:∀f∈F,f.1.1≠x.1) (t:g.1=x) (i:(g.2.1=V/\l=D.filter λd=>d.1 !=x.1)\/(g.2.1=Y/\(∀d∈D,d.1≠x.1)/\l=D)):KP n L (F++[g]) l R:=by
 intro p z A;obtain⟨a,b,c⟩:=h p z A;have v:∀d∈l,d∈D:=by rcases i with⟨_,e⟩|⟨_,_,e⟩<;>subst e;exact λd i=>(BS.1 i).1;exact λd i=>i
 refine⟨λf j e=>?_,λd i=>b d (v d i),λr hr=>⟨(c r hr).1,λq s=>(c r hr).2 ?_ λf j=>s f (G2 _ j)⟩⟩;rcases Am.1 j with j|j;exact a f j e;rw[A9]at j;subst j;rw[t]at e⊢;rw[<-e];exact y;intro d k e;rcases i with⟨u,o⟩|⟨_,_,o⟩<;>subst o;by_cases m:p=x.1;have:=s g q! (by rw[t,m]);rw[u]at this;cases this;exact q d (BS.2 ⟨k,w!⟩) e;exact q d k e
def FD.supply{n}{F}{D b:S Ah}{p:Int}{g:BE}(h:FD B n F D)(k:0<=p)(l:p<n)(i:B p)(j:g.1.1=p)(e:∀d∈b,d∈D)(hn:∀d∈b,d.1≠p):FD B n (F++[g]) b:=by intro f a;rcases Am.1 a with a|a;exact⟨(h f a).1,(h f a).2.1,λd c=>(h f a).2.2.1 d (e d c),(h f a).2.2.2⟩;grind
end Go.Pm
namespace Go.Pm
open Go Go.Ab
variable {B:pR}
def SB(k:AQ):Prop:=GV k.2.2.2.2.1/\U k.2.2.2.2.2.1<=16777216/\U k.2.2.2.2.2.2.2<=16777216
def SK(B:pR)(k:AQ):Prop:=GV k.2.2.2.2.1/\U k.2.2.2.2.2.1<=16777216/\U k.2.2.2.2.2.2.2<=16777216/\KI B k
def SK.sb{k}(h:SK B k):SB k:=⟨h.1,h.2.1,h.2.2.1⟩
def SK.ki{k}(h:SK B k):KI B k:=h.2.2.2
def SB.sk{k}(h:SB k)(g:KI B k):SK B k:=⟨h.1,h.2.1,h.2.2,g⟩
def SK.up{k}{v:Nat×Nat}(h:SK B k)(a:B.2.1<=v.1)(b:B.2.2<=v.2):SK (B.1,v) k:=⟨h.1,h.2.1,h.2.2.1,h.ki.1,h.ki.2.1,h.ki.fd,h.ki.rm.up a b⟩
def VK(k:AQ):Prop:=1<=k.1/\k.1<=64/\De k.2.2.1/\Pg k.2.2.2.1/\aR k.2.2.2.2.1/\cI k.2.2.2.2.2.1/\ms k.2.2.2.2.2.2.1/\U k.2.2.2.2.2.2.1=k.1
theorem eN{x}(h:SB x):Ap (JD x) λr=>r=V->VK x:=by
 unfold JD VK;unfold SB at h
 exact x!
theorem Y7{x:AQ×Int}{s:Int×Ah}(h:0<=s.1/\s.1<=x.1.2.2.2.2.2.2.2.length/\x.1.2.2.2.2.2.2.2.length<=16777216/\ ∀(i:Nat) (d:Ah),i<s.1->x.1.2.2.2.2.2.2.2[i]? =some d->d.1≠x.2):Ap (Aj (Na x) s) λr=>(∃d∈x.1.2.2.2.2.2.2.2,r= .inl (true,d)/\d.1=x.2)\/ ∃z,r= .inr z/\ ∀d∈x.1.2.2.2.2.2.2.2,d.1≠x.2:=by
 refine AW (λ(s:Int×Ah)=>0<=s.1/\s.1<=x.1.2.2.2.2.2.2.2.length/\x.1.2.2.2.2.2.2.2.length<=16777216/\ ∀(i:Nat) (d:Ah),i<s.1->x.1.2.2.2.2.2.2.2[i]? =some d->d.1≠x.2) (λ(s:Int×Ah)=>((x.1.2.2.2.2.2.2.2.length:Int)-s.1).toNat) h (λs j=>?_);have⟨c,m,f,g⟩:=j;unfold Na;refine AC (λa=>?_) (λa=>AB (.inr ⟨_,rfl,λd b=>?_⟩));simp[len]at a;refine AA (AJ c a) λv o=>?_;apply AP<;>intro n;grind[AA,AJ,AB,Option.some.inj];have e:=AY (x:=s.1+1);refine AB ⟨⟨d!,d!,f,λi d k b=>?_⟩,d!⟩;dsimp only at k;by_cases l:(i:Int)<s.1;exact g i d l b;have:i=s.1.toNat:=o!
 grind[Option.some.inj];grind[List.getElem?_of_mem,Nat.lt_or_ge,u?]
theorem KJ{x:AQ×Int}(h:SB x.1):Ap (E9 x) λr=>(r.2=V->r.1∈x.1.2.2.2.2.2.2.2/\r.1.1=x.2)/\(r.2=Y->∀d∈x.1.2.2.2.2.2.2.2,d.1≠x.2):=by unfold E9;refine AA (Y7 ⟨o!,d!,h.2.2,λi d a=>N! a d!⟩) λv b=>?_;grind[BB,AB,Ax]
theorem Y8{x:AQ}{s:Int}(h:0<=s/\s<=x.2.2.2.2.2.1.length/\(x.2.2.2.2.2.1.length:Int)<=16777216):Ap (Aj (Nb x) s) λr=>r≠ .inl true:=by
 refine AW (λ(s:Int)=>0<=s/\s<=x.2.2.2.2.2.1.length/\(x.2.2.2.2.2.1.length:Int)<=16777216) (λ(s:Int)=>((x.2.2.2.2.2.1.length:Int)-s).toNat) h (λs b=>?_);unfold Nb;exact x!
theorem Y9{x:AQ}{s:Int}(h:0<=s/\s<=x.2.2.2.1.2.1.length/\(x.2.2.2.1.2.1.length:Int)<=16777216/\SB x):Ap (Aj (Nc x) s) λr=>r≠ .inl true:=by
 refine AW (λ(s:Int)=>0<=s/\s<=x.2.2.2.1.2.1.length/\(x.2.2.2.1.2.1.length:Int)<=16777216/\SB x) (λ(s:Int)=>((x.2.2.2.1.2.1.length:Int)-s).toNat) h (λs b=>?_);unfold Nc;exact x!
theorem ZA{x:AQ}{s:Int}(h:0<=s/\s<=x.2.2.2.2.1.1.length/\(x.2.2.2.2.1.1.length:Int)<=16777216):Ap (Aj (Nd x) s) λr=>r≠ .inl true:=by
 refine AW (λ(s:Int)=>0<=s/\s<=x.2.2.2.2.1.1.length/\(x.2.2.2.2.1.1.length:Int)<=16777216) (λ(s:Int)=>((x.2.2.2.2.1.1.length:Int)-s).toNat) h (λs b=>?_);unfold Nd;exact x!
theorem ZB{x:AQ}{s:Int}(h:0<=s/\s<=x.2.2.2.2.1.2.length/\(x.2.2.2.2.1.2.length:Int)<=16777216):Ap (Aj (Nf x) s) λr=>r≠ .inl true:=by
 refine AW (λ(s:Int)=>0<=s/\s<=x.2.2.2.2.1.2.length/\(x.2.2.2.2.1.2.length:Int)<=16777216) (λ(s:Int)=>((x.2.2.2.2.1.2.length:Int)-s).toNat) h (λs b=>?_);unfold Nf;exact x!
theorem Bz{x}(h:SB x):Ap (Bd x) λr=>r=V->VK x:=by
 unfold Bd;exact x!
theorem Zs{x:List Ai×Int}{s:Int}(h:0<=s/\s<=x.1.length/\(x.1.length:Int)<=16777216):Ap (Aj (KG x) s) λr=> ∀u,r= .inl u->0<=u/\u<x.1.length/\ ∃t,x.1[u.toNat]? =some t/\t.1=x.2:=by
 refine AW (λ(s:Int)=>0<=s/\s<=x.1.length/\(x.1.length:Int)<=16777216) (λ(s:Int)=>((x.1.length:Int)-s).toNat) h (λs b=>?_);unfold KG;exact x!
theorem Ft{x:S Ai×Int}(h:U x.1<=16777216):Ap (Ep x) λr=> -1<=r/\r<U x.1/\(0<=r->∃t,x.1[r.toNat]?=Z t/\t.1=x.2):=by
 unfold Ep;exact x!
theorem Fs{x:S Ai×Int}(h:U x.1<=16777216):Ap (Cd x) λr=> -1<=r/\r<U x.1/\(0<=r->∃t,x.1[r.toNat]?=Z t/\t.1=x.2):=by
 unfold Cd;exact x!
def ny(p:Bv)(id:Int):Prop:=∃(i:Nat)(f:BE),p.2.1[i]?=Z f/\f.1.1=id
theorem Zr{x:Bv×Int}{s:Int}(h:0<=s/\s<=x.1.2.1.length/\(x.1.2.1.length:Int)<=16777216/\ ∀(i:Nat) (f:BE),i<s->x.1.2.1[i]? =some f->f.1.1≠x.2):Ap (Aj (OQ x) s) λr=>(∃u,r= .inl u/\0<=u/\u<x.1.2.1.length/\ ∃f,x.1.2.1[u.toNat]? =some f/\f.1.1=x.2)\/(r= .inr ()/\ ¬ny x.1 x.2):=by
 refine AW (λ(s:Int)=>0<=s/\s<=x.1.2.1.length/\(x.1.2.1.length:Int)<=16777216/\ ∀(i:Nat) (f:BE),i<s->x.1.2.1[i]? =some f->f.1.1≠x.2) (λ(s:Int)=>((x.1.2.1.length:Int)-s).toNat) h (λs b=>?_);unfold OQ;repeat' with_reducible first|intro a|apply AC|apply AP|apply AK|apply AB|(refine AM ?_ (AJ ?_ ?_);rintro r ⟨hr,c⟩)
 all_goals try (have e:=AY (x:=s+1))
 all_goals first|omega|grind[ny]
theorem Gr{x:Bv×Int}(h:U x.1.2.1<=16777216):Ap (Fg x) λr=> -1<=r/\r<U x.1.2.1/\(0<=r->∃f,x.1.2.1[r.toNat]?=Z f/\f.1.1=x.2)/\(r<0->¬ny x.1 x.2):=by refine AA (Zr (by refine⟨o!,o!,o!,λi f a=>N! a o!⟩)) λs b=>?_;grind[BB,AB,Ax]
theorem Fq{x}:Ap (EI x) λr=> -1<=r/\r<U x.1.2.1/\(0<=r->Pg x.1/\∃f,x.1.2.1[r.toNat]?=Z f/\f.1.1=x.2)/\(Pg x.1->ny x.1 x.2->0<=r):=by
 unfold EI;exact x!
theorem I9{x}:Ap (GA x) λr=>(r.2=V->Pg x.1/\Hg r.1/\ny x.1 x.2/\r.1.1=x.2/\∃f∈x.1.2.1,f.1=r.1)/\(r.2=Y->Pg x.1->¬ny x.1 x.2):=by
 unfold GA;exact x!
theorem De.last{x}(h:De x):wi (wi (x.1+len x.2.1)-1)=x.1+U x.2.1-1:=by have⟨a,b,c,d,e,f⟩:=h;grind[AY]
theorem De.at{x}{n:Int}{e:AE}(h:De x)(a:x.1<=n)(b:n<=x.1+U x.2.1-1)(c:x.2.1[(wi (n-x.1)).toNat]?=Z e):MI e/\e.1=n:=by have⟨a1,a2,a3,a4,a5,a6⟩:=h;grind[AY]
theorem De.append{x}{e}{l:S AE}(h:De x)(b:U x.2.1≠4096)(d:MI e)(c:e.1=x.1+U x.2.1)(a:l=x.2.1++[e]):De (x.1,l,x.2.2):=by have⟨a1,a2,a3,a4,a5,a6⟩:=h;subst a;refine⟨a1,a2,w!,a4,w!,λi f g=>?_⟩;grind[Nat.lt_or_ge,List.getElem?_append_right,u?]
theorem De.force{x}{n:Int}(h:De x)(a:n<=x.1+U x.2.1-1):De (x.1,x.2.1,if n>x.2.2 then n else x.2.2):=by have⟨a1,a2,a3,a4,a5,a6⟩:=h;refine⟨a1,a2,a3,?_,?_,a6⟩<;>(dsimp only;split<;>omega)
theorem Em{x}:Ap (El x) λr=>De x->r=x.1+U x.2.1-1:=by
 unfold El;exact x!
theorem Hw{x:AZ×Int}:Ap (EP x) λr=>(r.2=0->De r.1/\r.1.2.1=x.1.2.1/\r.1.1=x.1.1/\x.1.2.2<=r.1.2.2/\x.2<=r.1.2.2):=by
 unfold EP;repeat' with_reducible first|apply AC<;>intro a|apply AO<;>intro a|apply AK<;>intro a|apply AB|(apply AA (Bb);intro r hr)|(apply AA (Du);intro r hr)
 all_goals try (intro _;have b:De x.1:=by grind
                have c:=b.last;exact⟨b.force (by omega),rfl,rfl,by dsimp only;split<;>omega,by dsimp only;split<;>omega⟩)
 all_goals ((try dsimp[len]at*);(try first|omega|assumption|grind[AY]))
theorem HH{x}:Ap (FL x) λr=>(r.2=0->MI r.1/\r.1.1=x.2/\x.1.2.1[(x.2-x.1.1).toNat]?=Z r.1/\x.1.1<=x.2)/\(De x.1->x.1.1<=x.2->x.2<=x.1.1+U x.1.2.1-1->r.2=0):=by
 unfold FL;repeat' with_reducible first|intro c|apply AC|apply AO|apply AK|apply AB|(apply AA (Bb);intro r hr)|(apply AA (Du);intro r hr)|(refine AM ?_ (AJ ?_ ?_);rintro r ⟨hr,f⟩)
 all_goals try (have a:De x.1:=k!)
 all_goals try (have e:=a.last;have:=a.1;have:=a.2.1;have:=a.2.2.1)
 all_goals try (have d:wi (x.2-x.1.1)=x.2-x.1.1:=AY)
 all_goals try (have b:=a.at (n:=x.2) o! o! hr;rw[d]at hr;exact⟨λ_=>⟨b.1,b.2,hr,o!⟩,λ_ _ _=>rfl⟩)
 all_goals exact l!
theorem Sn{x}:Ap (Gq x) λr=>(r.2.2=0->De r.1/\De x.1/\r.1.2.1=x.1.2.1++[(r.2.1,x.2.2)]/\r.1.1=x.1.1/\r.2.1=x.1.1+U x.1.2.1/\r.1.2.2=x.1.2.2):=by
 unfold Gq;repeat' with_reducible first|intro b|apply AO|apply AP|apply AK|apply AB|(apply AA (Bb);intro r hr)|(apply AA (Du);intro r hr)|(apply AA (CC);intro r hr)|(refine AM ?_ (Aa ?_);rintro r ⟨hr,c,d⟩)
 all_goals try (have a:De x.1:=k!)
 all_goals try (have c:=a.last;have:=a.1;have:=a.2.1;have:=a.2.2.1)
 all_goals ((try dsimp[len]at*);(try first|omega|assumption|grind[AY,De.append]))
theorem CO{x}:Ap (BF x) λr=>r=V↔x.2.1=1\/x.2.1=2:=by
 unfold BF;exact x!
end Go.Pm
namespace Go.Pm
open Go Go.Ab
theorem tB(n:Int):0<=ι .u64 n:=by rw[XH];omega
theorem Mf(l:S Int):(E7 l).length=U l:=by simp[E7]
theorem bJ{x:BZ×Int×Int}{s:BZ×Int}(h:0<=s.2/\s.2<=x.2.2/\x.2.2<=8/\(U s.1:Int)=U x.1+s.2/\U x.1<=1099511627776):Ap (Aj (Gm x) s) λr=>(U r:Int)=U x.1+x.2.2:=by
 refine AW (λs=>0<=s.2/\s.2<=x.2.2/\x.2.2<=8/\(U s.1:Int)=U x.1+s.2/\U x.1<=1099511627776) (λs=>(x.2.2-s.2).toNat) h (λs b=>?_);unfold Gm;repeat' with_reducible first|intro a|apply AC|apply AK|apply AB|apply bH|(refine AM ?_ (CL ?_);rintro r ⟨hr,c⟩)
 all_goals try (have d:=tB (wi (8*s.2));omega)
 all_goals ((try dsimp[len]at*);(try first|omega|assumption|grind[AY,Mf]))
theorem Di{x:BZ×Int×Int}(h:U x.1<=1099511627776):Ap (An x) λr=>(1<=x.2.2->x.2.2<=8->(U r:Int)=U x.1+x.2.2)/\U r<=U x.1+8:=by
 unfold An;exact x!
theorem ACM{n:Int}(h:n<=4):(2:Int)^(8*ο n)<=4294967296:=by
 have:ο n=0\/ο n=1\/ο n=2\/ο n=3\/ο n=4:=o!
 rcases this with h|h|h|h|h<;>rw[h]<;>decide
theorem AHN{n:Int}(h:n<=2):(2:Int)^(8*ο n)<=65536:=by
 have:ο n=0\/ο n=1\/ο n=2:=o!
 rcases this with h|h|h<;>rw[h]<;>decide
theorem AFB{a b:Int}{k:Nat}(e:0<=a)(c:a<2^k)(f:0<=b)(d:b<2^k)(g:k<=64):(0:Int)<=((π (κ 64 a|||κ 64 b):Nat):Int)/\((π (κ 64 a|||κ 64 b):Nat):Int)<2^k:=by
 refine⟨o!,?_⟩;obtain⟨n,rfl⟩:=Ef e;obtain⟨m,rfl⟩:=Ef f;have hn:n<2^k:=by exact_mod_cast c
 have h:m<2^k:=by exact_mod_cast d
 have i:2^k<=2^64:=fO g! g;rw[BitVec.toNat_or];simp[cK,cL];rw[TT o!,TT o!];exact_mod_cast Nat.or_lt_two_pow hn h
theorem zS{a v i:Int}(d:0≤i)(e:i<8)(c:0≤a)(b:a<2^(8*ο i))(g:0≤v)(h:v<256):
  0<=ι .u64 (((π ((κ 64 a)|||(κ 64 (ι .u64 ((ι .u64 v)*(2^(min (ο (ι .u64 (wi (8*i)))) 64))))))):Nat):Int)/\
  ι .u64 (((π ((κ 64 a)|||(κ 64 (ι .u64 ((ι .u64 v)*(2^(min (ο (ι .u64 (wi (8*i)))) 64))))))):Nat):Int)<2^(8*(wi (i+1)).toNat):=by
 rw[(AY),AY,(by rw[XH];omega:ι .u64 (8*i)=8*i),(by rw[XH];omega:ι .u64 v=v)];obtain⟨n,rfl⟩:=Ef d;obtain⟨m,rfl⟩:=Ef g;rw[(by omega:min (8*(n:Int)).toNat 64=8*n)];rw[(by omega:((n:Int)+1).toNat=n+1)];rw[(by omega:((n:Int)).toNat=n)]at b;have f:(m:Int)*2^(8*n)<2^(8*(n+1)):=by
  have:(m*2^(8*n):Nat)<2^(8*(n+1)):=by rw[(by grind[Nat.mul_add,Nat.pow_add]:2^(8*(n+1))=256*2^(8*n))];exact Nat.mul_lt_mul_of_pos_right o! (Nat.pow_pos g!)
  exact_mod_cast this
 have l:(2:Int)^(8*(n+1))<=2^64:=by have:(2^(8*(n+1)):Nat)<=2^64:=fO g! o!;exact_mod_cast this
 have j:(0:Int)<=(m:Int)*2^(8*n):=by
  have:(0:Int)<=((m*2^(8*n):Nat):Int):=o!
  exact_mod_cast this
 rw[(by rw[XH];omega:ι .u64 ((m:Int)*2^(8*n))=(m:Int)*2^(8*n))];have⟨q1,q2⟩:=AFB (k:=8*(n+1)) c (by grind[Nat.pow_le_pow_right]) j f o!;grind[π,XH]
theorem bI{x:BZ×Int×Int}{s:Int×Int}(h:0<=s.2/\s.2<=x.2.2/\x.2.2<=8/\0<=x.2.1/\x.2.1+x.2.2<=U x.1/\U x.1<=1099511627776/\0<=s.1/\s.1<2^(8*s.2.toNat)):Ap (Aj (Gl x) s) λr=>0<=r/\r<2^(8*x.2.2.toNat):=by
 refine AW (λs=>0<=s.2/\s.2<=x.2.2/\x.2.2<=8/\0<=x.2.1/\x.2.1+x.2.2<=U x.1/\U x.1<=1099511627776/\0<=s.1/\s.1<2^(8*s.2.toNat)) (λs=>(x.2.2-s.2).toNat) h (λs n=>?_);unfold Gl;have⟨d,q,f,g,j,k,l,m⟩:=n;repeat' with_reducible first|intro o|apply AC|apply AK|apply AB|apply bH|(refine AM ?_ (RY ?_ ?_);rintro r ⟨hr,p⟩)
 all_goals try (have t:=tB (wi (8*s.2));omega)
 all_goals (first|(have⟨b,c⟩:=zS (a:=s.1) (v:=r) (i:=s.2) d o! l m hr p;have e:=AY (x:=s.2+1);exact⟨⟨o!,o!,f,g,j,k,b,c⟩,d!⟩)|skip)
 all_goals exact l!
theorem Cm{x:BZ×Int×Int}(h:x.1.length<=1099511627776):Ap (Az x) λr=>r.2=0->0<=x.2.1/\x.2.1+x.2.2<=x.1.length/\(x.2.2<=4->0<=r.1/\r.1<4294967296)/\(x.2.2<=2->r.1<65536):=by
 unfold Az;repeat' with_reducible first|apply AC<;>intro c|apply AK<;>intro c|apply AB|(refine AM ?_ (bI ?_);intro r hr)
 all_goals dsimp[len]at*
 all_goals first
  |omega
  |(intro d;exact absurd d (by decide))
  |(have e:=AY (x:=(x.1.length:Int)-x.2.1);exact⟨by omega,by omega,by omega,by omega,by omega,h,by omega,by simp⟩)
  |(intro _;have e:=AY (x:=(x.1.length:Int)-x.2.1);refine⟨by omega,by omega,λb=>?_,λa=>?_⟩;(have:=ACM b;rw[AY];omega);(have:=AHN a;rw[AY];omega))
theorem bL  {s:Int×Int}(h:0<=s.2/\s.2<=8):Ap (Aj (IV) s) λr=>True:=by
 refine AW (λs=>0<=s.2/\s.2<=8) (λs=>(8-s.2).toNat) h (λs b=>?_);unfold IV;exact x!
theorem bK{x:BZ}{s:Int×Int}(h:0<=s.2/\s.2<=x.length/\x.length<=1099511627776):Ap (Aj (IU x) s) λr=>True:=by
 refine AW (λ(s:Int×Int)=>0<=s.2/\s.2<=x.length/\x.length<=1099511627776) (λ(s:Int×Int)=>((x.length:Int)-s.2).toNat) h (λs b=>?_);unfold IU;exact x!
theorem QB{x:BZ}(h:U x<=1099511627776):Ap (FK x) λr=>True:=by
 unfold FK;exact x!
theorem UB{x}:Ap (Dh x) λr=>U r<=8408:=by
 unfold Dh;repeat' with_reducible first|intro a|apply AC|apply AK|apply AB|(refine AM ?_ (Di ?_);intro r hr)|(refine AM ?_ (QB ?_);intro r hr)|(refine AM ?_ (CL ?_);rintro r ⟨hr,b⟩)
 all_goals dsimp[len]at*
 all_goals exact l!
theorem Rr{x:BZ×Int}(h:U x.1<=1099511627776):Ap (CV x) λr=>r.2.2=0->U r.1<=8392/\x.2+8+U r.1=r.2.1/\0<=x.2/\r.2.1<=U x.1:=by
 unfold CV;repeat' with_reducible first|intro a|apply AC|apply AL|apply AK|apply AB|(refine AM ?_ (Cm ?_);intro r hr)|(refine AM ?_ (QB ?_);intro r hr)|(refine AM ?_ (Ca ?_ ?_ ?_);rintro r ⟨hr,b⟩)
 all_goals dsimp[len]at*
 all_goals exact l!
theorem gf{x:BZ×Cj}(h:U x.1<=1099511627776)(b:U x.2.2<=16777216):Ap (GZ x) λr=>U r<=U x.1+8+U x.2.2:=by
 unfold GZ;exact x!
theorem Va.lens{x}(h:Va x):U x.2.2.2.2.2.2.1.2.2.1.2<=12/\U x.2.2.2.2.2.2.1.2.2.2.2<=12/\U x.2.2.2.2.2.2.2<=8192:=by grind[Va,Ow,G9,QL]
theorem bQ{x}:Ap (Fo x) λr=>U r.1<=8400:=by
 unfold Fo;repeat' with_reducible first|intro a|apply AO|apply AK|apply AB|(apply AA (CC);intro r hr)|(refine AM ?_ (Di ?_);intro r hr)|(refine AM ?_ (gf ?_ ?_);intro r hr)|(refine AM ?_ (CL ?_);rintro r ⟨hr,b⟩)
 all_goals try (have c:=(Va.lens (x:=x) (by unfold MI at*;grind)))
 all_goals exact l!
theorem AHE(k:Nat):(0:Int)<256^k:=by have:0<256^k:=Nat.pow_pos g!;grind
theorem AKV(b k:Nat):(b:Int)*256^k=((b*256^k:Nat):Int):=k!
def C9(n:Int):Nat->BZ
 |0=>[]
 |k+1=>UInt8.ofNat (n%256).toNat::C9 (n/256) k
def pF:BZ->Nat
 |[]=>0
 |b::r=>b.toNat+256*pF r
theorem A2:∀(k:Nat)(n:Int),(C9 n k).length=k
 |0,n=>rfl
 |k+1,n=>by rw[C9,BY,A2 k]
theorem ul:∀l:BZ,pF l<256^U l
 |[]=>by simp[pF]
 |b::r=>by have a:=ul r;have c:=b.toNat_lt;grind[pF,List.length_cons,Nat.pow_succ]
theorem ACH:∀l:BZ,C9 (pF l:Int) (U l)=l
 |[]=>rfl
 |b::r=>by have a:=b.toNat_lt;rw[BY,C9,(by rw[pF];omega:((pF (b::r):Nat):Int)/256=(pF r:Int)),(by rw[pF];omega:(((pF (b::r):Nat):Int)%256).toNat=b.toNat),ACH r];simp
theorem wg:∀(k:Nat)(n m:Int),n%256^k=m%256^k->C9 n k=C9 m k
 |0,_,_,_=>rfl
 |k+1,n,m,h=>by
  have e:(256:Int)^(k+1)=256^k*256:=Int.pow_succ ..;have b:n%256=m%256:=by have a:n%256^(k+1)%256=n%256:=Int.emod_emod_of_dvd n ⟨256^k,by rw[e,Int.mul_comm]⟩;simp_all
  have c:n/256%256^k=m/256%256^k:=by
   have g:∀x:Int,x/256%256^k=x%256^(k+1)/256:=λx=>by have d:=pY (x/256) (256^k);have f:=pY x (256*256^k);grind[Int.ediv_ediv_of_nonneg]
   grind
  rw[C9,C9,b,wg k _ _ c]
theorem uk:∀(k:Nat)(n:Int),C9 n (k+1)=C9 n k++[UInt8.ofNat (n/256^k%256).toNat]
 |0,n=>by simp[C9]
 |k+1,n=>by rw[C9,uk k (n/256),C9];grind[Int.pow_succ,Int.mul_comm,Int.ediv_ediv_of_nonneg]
theorem sj:∀(k:Nat)(n:Int),((pF (C9 n k):Nat):Int)=n%256^k
 |0,n=>by simp[C9,pF]
 |k+1,n=>by
  rw[C9,pF];have b:(UInt8.ofNat (n%256).toNat).toNat=(n%256).toNat:=by grind[UInt8.toNat_ofNat']
  have c:=sj k (n/256);have a:=pY (n/256) (256^k);grind[Int.mul_ediv_add_emod,Int.ediv_ediv_of_nonneg]
theorem um:∀(l:BZ)(b:UInt8),pF (l++[b])=pF l+b.toNat*256^U l
 |[],b=>by simp[pF]
 |a::r,b=>by rw[ET,pF,um r b,pF,BY,Nat.pow_succ,Nat.mul_add];grind
def cF(k:Nat)(n:Int):Prop:=(k<=7->0<=n/\n<256^k)/\ -9223372036854775808<=n/\n<=9223372036854775807
theorem YC{k:Nat}(f:k<=8){n m}(hn:cF k n)(d:cF k m)(h:C9 n k=C9 m k):n=m:=by
 have e:=sj k n;rw[h,sj k m]at e;by_cases c:k<=7;have a:=hn.1 c;have b:=d.1 c;grind[Int.emod_eq_of_lt];have:k=8:=o!
 have a:=hn.2;have b:=d.2;grind
def rd(l:BZ):Int:=wi (pF l:Int)
theorem AKW{k:Nat}(h:k<=7):(256:Int)^k<=72057594037927936:=by
 have:k=0\/k=1\/k=2\/k=3\/k=4\/k=5\/k=6\/k=7:=o!
 grind
theorem ABO{l:BZ}(h:U l<=8):cF (U l) (rd l):=by have b:=ul l;have d:rd l=((pF l:Int)+9223372036854775808)%18446744073709551616-9223372036854775808:=AFx _;refine⟨λa=>?_,o!⟩;have c:=AKW a;grind
theorem yA{l:BZ}(h:U l<=8):C9 (rd l) (U l)=l:=by
 rw[show C9 (rd l) (U l)=C9 (pF l:Int) (U l) from ?_,ACH];apply wg;by_cases a:U l<=7;have c:=AKW a;have b:(pF l:Int)<256^U l:=by grind[ul]
 have:rd l=(pF l:Int):=by unfold rd;exact AY
 rw[this];have:U l=8:=o!
 rw[this,show(256:Int)^8=18446744073709551616 by decide];unfold rd;rw[AFx];omega
theorem qv{k:Nat}{n}(a:k<=8)(h:cF k n):rd (C9 n k)=n:=by grind[A2,YC,ABO,C9,yA]
theorem ABK(k:Nat):(2:Int)^(8*k)=256^k:=by grind[Int.pow_mul]
theorem AFN{n:Int}{i:Int}(c:0<=i)(d:i<8):E7 ([ι .u8 (Int.fdiv (ι .u64 n) (2^(min (ο (ι .u64 (wi (8*i)))) 64)))]:S Int)=[UInt8.ofNat (n/256^ο i%256).toNat]:=by
 have a:wi (8*i)=8*i:=AY;have b:ι .u64 (8*i)=8*i:=by rw[XH];omega
 rw[a,b,show min (8*i).toNat 64=8*ο i by omega,ABK];have e:=AHE (ο i)
 rw[lI _ o!,XH,AHs];have:n%18446744073709551616/256^ο i%256=n/256^ο i%256:=by
  have:ο i=0\/ο i=1\/ο i=2\/ο i=3\/ο i=4\/ο i=5\/ο i=6\/ο i=7:=o!
  rcases this with h|h|h|h|h|h|h|h<;>rw[h];rw[show(256:Int)^0=1 by decide];omega;rw[show(256:Int)^1=256 by decide];omega;rw[show(256:Int)^2=65536 by decide];omega;rw[show(256:Int)^3=16777216 by decide];omega;rw[show(256:Int)^4=4294967296 by decide];omega;rw[show(256:Int)^5=1099511627776 by decide];omega;rw[show(256:Int)^6=281474976710656 by decide];omega;rw[show(256:Int)^7=72057594037927936 by decide];omega
 rw[this];rfl
theorem IE{s:BZ}{n:Int}{k:Int}(h:U s<=1099511627776)(i:1<=k)(j:k<=8):An (s,n,k)=Z (s++C9 n (ο k)):=by
 have key:Ap (Aj (Gm (s,n,k)) (s,0)) λr=>r=s++C9 n (ο k):=by refine AW (λt=>0<=t.2/\t.2<=k/\t.1=s++C9 n t.2.toNat) (λt=>(k-t.2).toNat) ⟨Ae _,d!,by simp[C9]⟩ ?_;rintro⟨l,a⟩ ⟨b,g,c⟩;dsimp only at b g c;subst c;unfold Gm;dsimp only;refine AC (λd=>?_) (λd=>AB (by rw[show a=k by omega]));refine AC (λe=>N! e (by have:=tB (wi (8*a));omega)) (λ_=>?_);rw[AFN b o!];refine AA (CL (by rw[Ac,A2];simp;omega)) λv f=>AB ?_;rw[(AY)];refine⟨⟨o!,o!,?_⟩,o!⟩;rw[f.1,show(a+1).toNat=a.toNat+1 by omega,uk,A6]
 obtain⟨r,hr,rfl⟩:=key;unfold An;grind
theorem AAK{a t:BZ}{i:Int}(c:0<=i)(d:i<U t)(e:(U a:Int)<=2199023255552)(f:(U t:Int)<=2199023255552):∃b:UInt8,six (a++t) (wi ((U a:Int)+i))=Z (b.toNat:Int)/\t.take (i+1).toNat=t.take (ο i)++[b]:=by obtain⟨k,rfl⟩:=Ef c;refine⟨t[k],?_,?_⟩;grind[AY,six];simp_all
theorem AJJ{a b k:Nat}(h:a<256^k)(f:b<256)(g:k<8):π (κ 64 (a:Int)|||κ 64 ((b:Int)*256^k))=a+b*256^k:=by
 have e:(256:Nat)^k=2^(8*k):=by rw[Nat.pow_mul]
 have d:a+b*256^k<256^(k+1):=by
  have:b*256^k+256^k<=256*256^k:=by rw[<-Nat.succ_mul];exact NB _ o!
  omega
 have c:(256:Nat)^(k+1)<=2^64:=by rw[show(2:Nat)^64=256^8 by decide];exact fO g! o!
 rw[AKV];rw[BitVec.toNat_or,cK,cK,cL,cL,TT o!,TT o!];grind[Nat.mul_comm,Nat.two_pow_add_eq_or_of_lt]
theorem AB8{a:Nat}{b:UInt8}{i:Int}(g:0<=i)(h:i<8)(k:a<256^ο i)(j:Int)(d:j=8*i):ι .u64 (((π ((κ 64 (a:Int))|||(κ 64 (ι .u64 ((ι .u64 (b.toNat:Int))*(2^(min (ο j) 64))))))):Nat):Int)=((a+b.toNat*256^ο i:Nat):Int):=by
 have l:=b.toNat_lt;have c:(256:Nat)^(ο i+1)<=2^64:=by rw[show(2:Nat)^64=256^8 by decide];exact fO g! o!
 have e:a+b.toNat*256^ο i<256^(ο i+1):=by
  have:b.toNat*256^ο i+256^ο i<=256*256^ο i:=by rw[<-Nat.succ_mul];exact NB _ o!
  omega
 rw[d,(by rw[XH];omega:ι .u64 (b.toNat:Int)=b.toNat),show min (8*i).toNat 64=8*ο i by omega,ABK];have f:ι .u64 ((b.toNat:Int)*256^ο i)=(b.toNat:Int)*256^ο i:=by rw[XH,AKV];omega
 grind[AJJ,XH]
theorem jf{a t:BZ}{k:Int}(h:(U a:Int)+U t<=2199023255552)(v:1<=k)(w:k<=8):Az (a++t,(U a:Int),k)=if k<=U t then Z (rd (t.take (ο k)),0)else Z (0,5):=by
 unfold Az;dsimp only;have d:len (a++t)=(U a:Int)+U t:=by unfold len;rw[n?];omega
 rw[F! o!,A!,F! o!,A!,F! o!,A!,F! o!,A!];have q:wi (len (a++t)-(U a:Int))=U t:=by rw[d,AY];omega
 by_cases g:k<=U t;rw[F! o!,A!,C! g];have key:Ap (Aj (Gl (a++t,(U a:Int),k)) (0,0)) λr=>r=(pF (t.take (ο k)):Int):=by
  refine AW (λs=>0<=s.2/\s.2<=k/\s.1=(pF (t.take s.2.toNat):Int)) (λs=>(k-s.2).toNat) ⟨Ae _,d!,by simp[pF]⟩ ?_;rintro⟨x,c⟩ ⟨f,u,l⟩;dsimp only at f u l;subst l;unfold Gl;dsimp only;refine AC (λo=>?_) (λo=>AB (by rw[show c=k by omega]));obtain⟨b,q1,q2⟩:=AAK (a:=a) (t:=t) (i:=c) f o! o! o!;rw[q1,AD];refine AC (λp=>N! p (by have:=tB (wi (8*c));omega)) (y? ?_);have e:wi (c+1)=c+1:=AY;have m:wi (8*c)=8*c:=AY;have n:ι .u64 (8*c)=8*c:=by rw[XH];omega
  have j:(t.take c.toNat).length=c.toNat:=by rw[BQ];omega
  dsimp only;rw[e,AB8 f o! (by have:=ul (t.take c.toNat);rwa [j]at this) _ (by rw[m,n])];refine⟨⟨o!,o!,?_⟩,o!⟩;rw[q2,um,j]
 obtain⟨r,hr,rfl⟩:=key;rw[hr];rfl;rw[G! o!,B!,D! g]
theorem YD{a t:BZ}{k:Int}(h:(U a:Int)+U t<=2199023255552)(p:1<=k)(q:k<=8):Bx (a++t,(U a:Int),k)=if k<=U t then Z (rd (t.take (ο k)),0)else Z (0,5):=by
 unfold Bx;dsimp only;have f:len (a++t)=(U a:Int)+U t:=k!
 rw[F! o!,A!,F! o!,A!,F! o!,A!,F! o!,A!];have m:wi (len (a++t)-(U a:Int))=U t:=by grind[AY]
 by_cases l:k<=U t;rw[F! o!,A!,C! l];have key:Ap (Aj (Uz (a++t,(U a:Int),k)) (0,0)) λr=>r=(pF (t.take (ο k)):Int):=by refine AW (λs=>0<=s.2/\s.2<=k/\s.1=(pF (t.take s.2.toNat):Int)) (λs=>(k-s.2).toNat) ⟨Ae _,d!,by simp[pF]⟩ ?_;rintro⟨u,c⟩ ⟨d,n,e⟩;dsimp only at d n e;subst e;unfold Uz;dsimp only;refine AC (λg=>?_) (λg=>AB (by rw[show c=k by omega]));have⟨b,q1,q2⟩:=AAK (a:=a) (t:=t) (i:=c) d o! o! o!;have o:wi (8*c)=8*c:=AY;rw[q1,AD];refine AC (N! · o!) (y? ?_);grind[AY,AB8,ul,um]
 obtain⟨r,hr,rfl⟩:=key;rw[hr];rfl;grind
def Og(x:BZ×Int×Int):T BZ:=
 bif τ (U x.1<=1099511627776)&&(τ (1<=x.2.2)&&τ (x.2.2<=8))then Z (x.1++C9 x.2.1 x.2.2.toNat)else W
def LA(x:BZ×Int):T BZ:=
 bif (x.1==[0])&&(τ (0<=x.2)&&τ (x.2<=8000))then Z (ς x.2.toNat 0)else W
def AHJ(a b:AT):Bool:=(a.1==b.1)&&((a.2.1==b.2.1)&&(List.finRange 16).foldr (λi r=>((a.2.2 i).1==(b.2.2 i).1)&&(((a.2.2 i).2==(b.2.2 i).2)&&r)) V)
end Go.Pm
