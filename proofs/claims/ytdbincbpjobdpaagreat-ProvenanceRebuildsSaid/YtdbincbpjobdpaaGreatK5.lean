import Derived.Test.YtdbincbpjobdpaaGreatK4
noncomputable section
set_option linter.all false
set_option maxHeartbeats 400000
open Option renaming some->Y
open List renaming length->W
open Go renaming Ψ->S
open Bool renaming false->X
open Bool renaming true->E
open Option renaming none->D
open Go renaming Ω->Z
open Option renaming some->δ,none->ε
open Bool renaming true->ζ,false->η
open List renaming length->θ,replicate->ς
open Go.IntKind renaming wrap->ι
open BitVec renaming ofInt->κ,toNat->π
open Int renaming toNat->ο
open Decidable renaming decide->τ
open _root_ renaming Int->V,Nat->U
namespace Go.Pm
open Go Go.Ab
def G6(x:Ck):Prop:=W x.2<=12/\(x.1=E\/x.2=[])
def PG(x:Dw):Prop:=0<=x.1/\x.1<64/\0<=x.2.1/\x.2.1<16/\G6 x.2.2.1/\G6 x.2.2.2
def Kz{x}:Ao (Df x) λr=>r=E↔G6 x:=by
 unfold Df G6
 exact x!
def UY{x}:Ao (JA x) λr=>r=E↔PG x:=by
 unfold JA PG
 exact x!
def Qe:Dw:=(0,0,(X,[]),X,[])
def Vw(x:AE):Prop:=
 (x.2.1=1/\x.2.2.2.2.2.1=0/\x.2.2.2.2.2.2.2=[]/\1<=x.2.2.1/\x.2.2.1<=1073741824/\PG x.2.2.2.2.2.2.1)\/
 (x.2.1=2/\0<x.2.2.2.1/\1<=x.2.2.2.2.2.1/\x.2.2.2.2.2.1<=x.2.2.2.1/\x.2.2.2.2.2.2.2=[]/\1<=x.2.2.1/\x.2.2.1<=1073741824/\PG x.2.2.2.2.2.2.1)\/
 ((x.2.1=3\/x.2.1=4\/x.2.1=5)/\0<x.2.2.2.1/\x.2.2.2.2.1=0/\x.2.2.2.2.2.1=0/\x.2.2.2.2.2.2.1=Qe/\x.2.2.2.2.2.2.2=[]/\1<=x.2.2.1/\x.2.2.1<=1073741824)\/
 ((x.2.1=6\/x.2.1=8)/\x.2.2.1=0/\x.2.2.2.1=0/\x.2.2.2.2.1=0/\x.2.2.2.2.2.1=0/\x.2.2.2.2.2.2.1=Qe/\W x.2.2.2.2.2.2.2<=8192)\/
 (x.2.1=7/\x.2.2.1=0/\x.2.2.2.1=0/\x.2.2.2.2.1=0/\0<=x.2.2.2.2.2.2.1.1/\x.2.2.2.2.2.2.1.1<64/\x.2.2.2.2.2.2.1.2=Qe.2/\x.2.2.2.2.2.2.2=[])
def Mc(x:AE):Prop:=1<=x.1/\x.1<=1099511627776/\0<=x.2.2.2.1/\x.2.2.2.1<x.1/\0<=x.2.2.2.2.1/\x.2.2.2.2.1<x.1/\0<=x.2.2.2.2.2.1/\x.2.2.2.2.2.1<x.1/\Vw x
def bu{x}:Ao (Gk x) λr=>r=E↔0<=x.1/\x.1<x.2:=by
 unfold Gk;exact x!
def ej{x:AE}:Ao (L9 x) λr=>(r.2=true/\r.1=x)↔Vw x:=by
 obtain⟨a,b,c,d,e,f,⟨g,h,⟨i,j⟩,k,l⟩,m⟩:=x;unfold L9 Vw Qe;dsimp only
 repeat' first
   |with_reducible apply AC<;>intro n
   |with_reducible apply AP<;>intro n
   |with_reducible apply AK<;>intro n
   |(with_reducible apply BJ;try dsimp only)
   |with_reducible apply Bn
   |with_reducible apply B5
   |with_reducible apply AB
   |(with_reducible apply AA (UY);intro r hr)
 all_goals grind
def Cc{x:AE}:Ao (Cw x) λr=>r=true↔Mc x:=by
 unfold Cw;refine AA ej λn A=>?_;have e:((n.1.1==x.1)&&((n.1.2.1==x.2.1)&&((n.1.2.2.1==x.2.2.1)&&((n.1.2.2.2.1==x.2.2.2.1)&&((n.1.2.2.2.2.1==x.2.2.2.2.1)&&((n.1.2.2.2.2.2.1==x.2.2.2.2.2.1)&&((n.1.2.2.2.2.2.2.1.1==x.2.2.2.2.2.2.1.1)&&((n.1.2.2.2.2.2.2.1.2.1==x.2.2.2.2.2.2.1.2.1)&&((n.1.2.2.2.2.2.2.1.2.2.1.1==x.2.2.2.2.2.2.1.2.2.1.1)&&((n.1.2.2.2.2.2.2.1.2.2.1.2==x.2.2.2.2.2.2.1.2.2.1.2)&&((n.1.2.2.2.2.2.2.1.2.2.2.1==x.2.2.2.2.2.2.1.2.2.2.1)&&((n.1.2.2.2.2.2.2.1.2.2.2.2==x.2.2.2.2.2.2.1.2.2.2.2)&&((n.1.2.2.2.2.2.2.2==x.2.2.2.2.2.2.2)&&true)))))))))))))=true↔n.1=x:=by obtain⟨⟨a,b,c,d,e,f,⟨g,h,⟨i,j⟩,k,l⟩,m⟩,z⟩:=n;obtain⟨p,q,s,t,u,v,⟨w,y,⟨B,C⟩,D_,E_⟩,F⟩:=x;simp[and_assoc]
 generalize ((n.1.1==x.1)&&_)=bb at e⊢;unfold Mc
 repeat' first
   |with_reducible apply AC<;>intro o
   |with_reducible apply AP<;>intro o
   |with_reducible apply AK<;>intro o
   |(with_reducible apply BJ;try dsimp only)
   |with_reducible apply Bn
   |with_reducible apply B5
   |with_reducible apply AB
   |(with_reducible apply AA (bu);intro r hr)
 all_goals grind
def En{x}:Ao (Cm x) λr=>r=wi (wi (x.1+len x.2.1)-1):=by
 unfold Cm;exact x!
def Dg(x:Aa):Prop:=1<=x.1/\x.1<=1099511627776/\W x.2.1<=4096/\x.1-1<=x.2.2/\x.2.2<=x.1+W x.2.1-1/\∀(i:U)(e:AE),x.2.1[i]?=Y e->e.1=x.1+i/\Mc e
def ZF{x:Aa}{s:V}(h:0<=s/\s<=θ x.2.1/\θ x.2.1<=4096/\1<=x.1/\x.1<=1099511627776/\∀(i:U)(e:AE),i<s->x.2.1[i]?=δ e->e.1=x.1+i/\Mc e):Ao (Ag (Nl x) s) λr=>(r=.inl η/\¬Dg x)\/(r=.inr ()/\∀(i:U)(e:AE),x.2.1[i]?=δ e->e.1=x.1+i/\Mc e):=by
 refine AW (λ(s:V)=>0<=s/\s<=θ x.2.1/\θ x.2.1<=4096/\1<=x.1/\x.1<=1099511627776/\∀(i:U)(e:AE),i<s->x.2.1[i]?=δ e->e.1=x.1+i/\Mc e) (λ(s:V)=>((θ x.2.1:V)-s).toNat) h (λs b=>?_);unfold Nl;obtain⟨c,d,f,g,j,k⟩:=b;exact x!
theorem Bb{x}:Ao (B6 x) λr=>r=E↔Dg x:=by
 unfold B6;exact x!
def Hg(x:AQ):Prop:=0<=x.1/\x.1<64/\0<=x.2.1/\x.2.1<=1099511627776/\∀i,G6 (x.2.2 i)/\(x.2.1=0->(x.2.2 i).1=X)
def Mg{x}:Ao (Hu x) λr=>r=E↔0<=x.1/\x.1<64/\0<=x.2.1/\x.2.1<=1099511627776:=by
 unfold Hu;exact x!
def ZB{x:AQ}{s:V}(h:0<=s/\s<=16/\∀i:Fin 16,(i.val:V)<s->G6 (x.2.2 i)/\(x.2.1=0->(x.2.2 i).1=X)):Ao (Ag (Nc x) s) λr=>(r=.inl X/\¬ ∀i,G6 (x.2.2 i)/\(x.2.1=0->(x.2.2 i).1=X))\/(r=.inr ()/\∀i,G6 (x.2.2 i)/\(x.2.1=0->(x.2.2 i).1=X)):=by
 refine AW (λs=>0<=s/\s<=16/\∀i:Fin 16,(i.val:V)<s->G6 (x.2.2 i)/\(x.2.1=0->(x.2.2 i).1=X)) (λs=>(16-s).toNat) h (λs b=>?_);unfold Nc;exact x!
def OY{x}:Ao (I8 x) λr=>r=E↔∀i,G6 (x.2.2 i)/\(x.2.1=0->(x.2.2 i).1=X):=by
 unfold I8;exact x!
def eW{x}:Ao (L6 x) λr=>r=E↔Hg x:=by
 unfold L6 Hg
 exact x!
def OX{x}:Ao (D1 x) λr=>r=0->Hg x:=by
 unfold D1 Hg
 exact x!
def pz(f:BK):Prop:=Hg f.1/\(f.2.1=E->1<=f.2.2.1/\f.2.2.1<=f.1.2.1)/\(f.2.1=X->f.2.2.1=0)
def Kv(l:S BK)(n:V):Prop:=(∀(i:U)(f:BK),i<n->l[i]?=Y f->pz f)/\∀(i j:U)(f g:BK),i<j->j<n->l[i]?=Y f->l[j]?=Y g->f.1.1≠g.1.1
def Pz(x:Bx):Prop:=1<=x.1/\x.1<=64/\W x.2.1<=x.1/\0<=x.2.2/\(W x.2.1=0/\x.2.2=0\/x.2.2<W x.2.1)/\Kv x.2.1 (W x.2.1)
theorem Kv.step{l}{n:V}{f:BK}(e:0<=n)(h:Kv l n)(o:l[ο n]?=Y f)(r:pz f)(m:∀(j:U)(g:BK),j<n->l[j]?=Y g->g.1.1≠f.1.1):Kv l (n+1):=by
 refine⟨λi g p b=>?_,λi j g k c q b d=>?_⟩;rcases mB i n with a|a;exact h.1 i g a b;grind;rcases mB j n with a|a;exact h.2 i j g k c a b d;have:j=ο n:=o!
 grind
theorem ql{l:S BK}{n:V}{f:BK}(c:0<=n)(d:n<W l)(a:l[ο n]?=Y f)(b:¬pz f):¬Kv l (W l):=λh=>b (h.1 (ο n) f o! a)
theorem qm{l:S BK}{n:V}{f:BK}(e:0<=n)(i:n<W l)(d:l[ο n]?=Y f)(c:∃(j:U)(g:BK),j<n/\l[j]?=Y g/\g.1.1=f.1.1):¬Kv l (W l):=λh=>by have⟨j,g,k,a,b⟩:=c;exact h.2 j (ο n) g f o! o! a d b
def IW{x:Bx}{a:V}{b:BK}{s:V}(h:0<=s/\s<=a/\a<=W x.2.1/\(W x.2.1:V)<=16777216/\∀(j:U)(g:BK),j<s->x.2.1[j]?=Y g->g.1.1≠b.1.1):Ao (Ag (F3 x a b) s) λr=>(r=.inl X/\∃(j:U)(g:BK),j<a/\x.2.1[j]?=Y g/\g.1.1=b.1.1)\/(r=.inr ()/\∀(j:U)(g:BK),j<a->x.2.1[j]?=Y g->g.1.1≠b.1.1):=by
 refine AW (λs=>0<=s/\s<=a/\a<=W x.2.1/\(W x.2.1:V)<=16777216/\∀(j:U)(g:BK),j<s->x.2.1[j]?=Y g->g.1.1≠b.1.1) (λs=>(a-s).toNat) h (λs d=>?_);unfold F3;exact x!
def ZK{x:Bx}{s:V}(h:0<=s/\s<=θ x.2.1/\(θ x.2.1:V)<=16777216/\Kv x.2.1 s):Ao (Ag (Nr x) s) λr=>(r=.inl η/\¬Kv x.2.1 (θ x.2.1))\/(r=.inr ()/\Kv x.2.1 (θ x.2.1)):=by
 refine AW (λ(s:V)=>0<=s/\s<=θ x.2.1/\(θ x.2.1:V)<=16777216/\Kv x.2.1 s) (λ(s:V)=>((θ x.2.1:V)-s).toNat) h (λs d=>?_);unfold Nr;repeat' with_reducible first|intro a|apply AC|apply AO|apply AL|apply AK|(apply BF;try dsimp only)|(apply A0;try dsimp only)|(apply BG<;>(intro u c;try subst c))|apply AB|(apply AA (eW);intro r hr)|(refine AM ?_ (IW ?_);intro r hr)|(refine AM ?_ (IW ?_);intro r hr)|(refine AM ?_ (IW ?_);intro r hr)|(refine AM ?_ (IW ?_);intro r hr)|(refine AM ?_ (AI ?_ ?_);rintro r ⟨hr,f⟩)
 all_goals try (have e:=AY (x:=s+1))
 all_goals first|omega|(exact⟨o!,o!,o!,o!,λj g b=>O! b o!⟩)|grind[Kv.step,ql,qm,pz]
def Kv.zero(l:S BK):Kv l 0:=⟨λi f h=>O! h o!,λi j f g h a=>O! a o!⟩
def AKH(n h:V)(a:0<=n)(b:n<=64):(h>if wi (n-1)>0 then wi (n-1)else 0)↔¬(n=0/\h<=0\/h<n):=by grind[AY]
def EW{x}:Ao (Dk x) λr=>r=E↔Pz x:=by
 unfold Dk Pz
 repeat' first
   |with_reducible apply AC<;>intro b
   |(with_reducible apply BG<;>(intro u a;try subst a))
   |with_reducible apply AB
   |(with_reducible refine AM ?_ (ZK ?_);intro r hr)
 all_goals try dsimp[len]at*
 all_goals first
  |(exact⟨o!,o!,o!,Kv.zero _⟩)
  |(have c:=AKH (W x.2.1) x.2.2 o! o!;grind)
  |grind
def Oe{x}:Ao (HH x) λr=>True:=by
 unfold HH;exact x!
def VY{x}:Ao (FZ x) λr=>True:=by
 unfold FZ;exact x!
def GV{x}:Ao (EB x) λr=>True:=by
 unfold EB;exact x!
def Z6{x:BB×V×C1}{s:V}(h:0<=s/\s<=θ x.1.1/\(θ x.1.1:V)<=16777216):Ao (Ag (Oh x) s) λr=>True:=by
 refine AW (λ(s:V)=>0<=s/\s<=θ x.1.1/\(θ x.1.1:V)<=16777216) (λ(s:V)=>((θ x.1.1:V)-s).toNat) h (λs b=>?_);unfold Oh;exact x!
def IV{x:BB×V×C1}(h:W x.1.1<=16777216):Ao (EC x) λr=>True:=by
 unfold EC;exact x!
def GS(x:BB):Prop:=W x.1<=16777216/\W x.2<=16777216
def RO{x:BB}{a:V}{s:V}(h:s<a/\ -1<=s/\0<=a/\a<W x.1/\W x.1<=16777216):Ao (Ag (Jl x a) s) λr=>r≠.inl E:=by
 refine AW (λs=>s<a/\ -1<=s/\0<=a/\a<W x.1/\W x.1<=16777216) (λs=>(s+1).toNat) h (λs c=>?_);unfold Jl;exact x!
def ZG{x:BB}{s:V}(h:0<=s/\s<=θ x.1/\(θ x.1:V)<=16777216):Ao (Ag (Nn x) s) λr=>r≠.inl ζ:=by
 refine AW (λ(s:V)=>0<=s/\s<=θ x.1/\(θ x.1:V)<=16777216) (λ(s:V)=>((θ x.1:V)-s).toNat) h (λs c=>?_);unfold Nn;exact x!
def ZI{x:BB}{a:V}{b}{s:V}(h:0<=s/\s<=a/\(a:V)<=16777216/\a<=W x.2):Ao (Ag (Np x a b) s) λr=>r≠.inl E:=by
 refine AW (λs=>0<=s/\s<=a/\(a:V)<=16777216/\a<=W x.2) (λs=>((a:V)-s).toNat) h (λs d=>?_);unfold Np;exact x!
def ZH{x:BB}{s:V}(h:0<=s/\s<=θ x.2/\(θ x.2:V)<=16777216/\θ x.1<=16777216):Ao (Ag (No x) s) λr=>r≠.inl ζ:=by
 refine AW (λ(s:V)=>0<=s/\s<=θ x.2/\(θ x.2:V)<=16777216/\θ x.1<=16777216) (λ(s:V)=>((θ x.2:V)-s).toNat) h (λs c=>?_);unfold No;exact x!
def an(x:BB):Prop:=W x.1+W x.2<=1024
def FQ{x}(h:GS x):Ao (D2 x) λr=>r=E->an x:=by
 unfold D2 an;unfold GS at h
 exact x!
def VTx(x:Ap):Prop:=W x.2.2.2.2.1<=4096/\W x.2.2.2.2.2<=8/\1<=x.1
def Zn(x:S Ap):Prop:=W x<=64/\∀(i:U)(t:Ap),x[i]?=Y t->VTx t
def RP{x:Ap}{s:V}(h:0<=s/\s<=θ x.2.2.2.2.1/\(θ x.2.2.2.2.1:V)<=16777216):Ao (Ag (Jp x) s) λr=>r≠.inl ζ:=by
 refine AW (λ(s:V)=>0<=s/\s<=θ x.2.2.2.2.1/\(θ x.2.2.2.2.1:V)<=16777216) (λ(s:V)=>((θ x.2.2.2.2.1:V)-s).toNat) h (λs b=>?_);unfold Jp;exact x!
def RQ{x:Ap}{s:V}(h:0<=s/\s<=θ x.2.2.2.2.2/\(θ x.2.2.2.2.2:V)<=16777216):Ao (Ag (Jq x) s) λr=>r≠.inl ζ:=by
 refine AW (λ(s:V)=>0<=s/\s<=θ x.2.2.2.2.2/\(θ x.2.2.2.2.2:V)<=16777216) (λ(s:V)=>((θ x.2.2.2.2.2:V)-s).toNat) h (λs b=>?_);unfold Jq;exact x!
def fF{x}:Ao (MH x) λr=>r=E->VTx x:=by
 unfold MH VTx
 exact x!
def ZN{x:List Ap}{s:V}(h:0<=s/\s<=θ x/\(θ x:V)<=16777216/\∀(i:U)(t:Ap),i<s->x[i]?=δ t->VTx t):Ao (Ag (Nt x) s) λr=>r=.inl η\/(r=.inr ()/\∀(i:U)(t:Ap),x[i]?=δ t->VTx t):=by
 refine AW (λ(s:V)=>0<=s/\s<=θ x/\(θ x:V)<=16777216/\∀(i:U)(t:Ap),i<s->x[i]?=δ t->VTx t) (λ(s:V)=>((θ x:V)-s).toNat) h (λs b=>?_);unfold Nt;exact x!
def D0{x}:Ao (D4 x) λr=>r=E->Zn x:=by
 unfold D4 Zn
 exact x!
def nX(x:Bv):Prop:=1<=W x/\W x<=64
def jy{x}:Ao (G4 x) λr=>True:=by
 unfold G4;exact x!
def ZL{x:Bv}{s:V}(h:0<=s/\s<=θ x/\(θ x:V)<=16777216):Ao (Ag (Jn x) s) λr=>r≠.inl ζ:=by
 refine AW (λ(s:V)=>0<=s/\s<=θ x/\(θ x:V)<=16777216) (λ(s:V)=>((θ x:V)-s).toNat) h (λs b=>?_);unfold Jn;exact x!
def GN{x}:Ao (D3 x) λr=>r=E->nX x:=by
 unfold D3 nX
 exact x!
def Vt{x:List Ai×V}{s:V}(h:0<=s/\s<=θ x.1/\(θ x.1:V)<=16777216):Ao (Ag (HA x) s) λr=>r≠.inl ζ:=by
 refine AW (λ(s:V)=>0<=s/\s<=θ x.1/\(θ x.1:V)<=16777216) (λ(s:V)=>((θ x.1:V)-s).toNat) h (λs b=>?_);unfold HA;exact x!
def QD{x:S Ai×V}(h:W x.1<=16777216):Ao (FU x) λr=>True:=by
 unfold FU;exact x!
theorem Cv{b:Type}{l:S b}{i:U}{a:b}(h:l[i]?=Y a):i<W l:=k!
def aT(p:V)(e:AE):Bool:=((e.2.1==1)||(e.2.1==2))&&(e.2.2.2.2.2.2.1.1==p)
def BY(L:S AE)(p:V):V:=L.foldl (λa e=>if aT p e then e.1 else a) 0
theorem Px(L:S AE)(e:AE)(p:V):BY (L++[e]) p=if aT p e then e.1 else BY L p:=by simp[BY,Ye,Yf,List.foldl_nil]
def upd(x:AQ)(e:AE):AQ:=(x.1,e.1,Xe x.2.2 e.2.2.2.2.2.2.1.2.1 e.2.2.2.2.2.2.1.2.2.2)
def st(L:S AE)(p:V):AQ:=(L.filter (aT p)).foldl upd (p,0,GG.all (X,[]))
def ACr(L M:S AE)(p:V):st (L++M) p=(M.filter (aT p)).foldl upd (st L p):=by unfold st;rw[GL,Ye]
theorem ABz(L:S AE)(e:AE)(p:V):st (L++[e]) p=if aT p e then upd (st L p) e else st L p:=by rw[ACr,Mu,mI];split<;>rfl
def ADO(L:S AE)(x:AQ):(L.foldl upd x).1=x.1:=by
 induction L generalizing x with
 |nil=>rfl
 |cons e L a=>exact a (upd x e)
theorem Se(L:S AE)(p:V):(st L p).1=p:=ADO _ _
theorem Jf(L:S AE)(p:V):(st L p).2.1=BY L p:=by
 suffices h:∀(L:S AE)x,((L.filter (aT p)).foldl upd x).2.1=L.foldl (λa e=>if aT p e then e.1 else a) x.2.1 from h L _
 intro L;induction L with
 |nil=>exact λx=>rfl
 |cons e L b=>intro x;rw[Mu,Yf];split;exact b (upd x e);exact b x
def yw(n:V)(L:S AE)(D:S Ai)(R:S Be):Prop:=
 ∀p,0<=p->p<n->(∀d∈D,d.1=p->d.2.2=BY L p)/\∀r,R[p.toNat]?=Y r->r.1<=BY L p/\((∀d∈D,d.1≠p)->r.1=BY L p)
def KP(n:V)(L:S AE)(F:S BK)(D:S Ai)(R:S Be):Prop:=
 ∀p,0<=p->p<n->(∀f∈F,f.1.1=p->f.1=st L p)/\(∀d∈D,d.1=p->d.2.2=BY L p)/\
  ∀r,R[p.toNat]?=Y r->r.1<=BY L p/\((∀d∈D,d.1≠p)->(∀f∈F,f.1.1=p->f.2.1=X)->r.1=BY L p)
def EOK(n:V)(M:S AE)(e:AE):Prop:=
 (e.2.1=1\/e.2.1=2->e.2.2.2.2.1=BY M e.2.2.2.2.2.2.1.1/\Gy (st M e.2.2.2.2.2.2.1.1).2.2 e.2.2.2.2.2.2.1.2.1=Y e.2.2.2.2.2.2.1.2.2.1)/\(e.2.1=7->e.2.2.2.2.2.1=BY M e.2.2.2.2.2.2.1.1)/\
  (e.2.1=6->∀c,DO e.2.2.2.2.2.2.2=Y (c,0)->c.1=n->yw n M c.2.2.2.1 c.2.2.2.2)
def LI(n:V)(L:S AE):Prop:=∀(i:U)(e:AE),L[i]?=Y e->EOK n (L.take i) e
def LI.nil(n:V):LI n []:=λi e h=>by simp at h
def LI.app{n}{L}{e}(h:LI n L)(c:EOK n L e):LI n (L++[e]):=by intro i f b;rcases Q9 i (W L) with a|a|a;rw[CZ a]at b;rw[WW o!];exact h i f b;grind;grind[u?]
def LI.pre{n}{L T:S AE}(h:LI n (L++T)):LI n L:=by intro i f a;have:=h i f k!;grind
def FD(B:V->Prop)(n:V)(F:S BK)(D:S Ai):Prop:=∀f∈F,0<=f.1.1/\f.1.1<n/\(∀d∈D,d.1≠f.1.1)/\B f.1.1
variable {B:Int->Prop}
def KI(B:V->Prop)(k:AT):Prop:=LI k.1 k.2.2.1.2.1/\KP k.1 k.2.2.1.2.1 k.2.2.2.1.2.1 k.2.2.2.2.2.2.2 k.2.2.2.2.2.2.1/\FD B k.1 k.2.2.2.1.2.1 k.2.2.2.2.2.2.2
def FD.sub{n}{F G:S BK}{D_}(h:FD B n F D_)(a:∀g∈G,∃f∈F,f.1.1=g.1.1/\f.1=g.1):FD B n G D_:=by intro g c;have⟨f,b,e,_⟩:=a g c;rw[<-e];exact h f b
def pL{p b:V}:∀(L:S AE)(a:V),a<b->(∀e∈L,e.1<b)->L.foldl (λa e=>if aT p e then e.1 else a) a<b
 |[],a,ha,_=>ha
 |e::L,a,ha,h=>by refine pL L _ ?_ λf c=>h f (Ca _ c);show(if aT p e=E then e.1 else a)<b;split;exact h e JV;exact ha
def mV{l}(h:Dg l)(p:V):BY l.2.1 p<l.1+W l.2.1:=by have⟨a,_,_,_,_,b⟩:=h;refine pL _ _ o! λe c=>?_;grind[List.getElem?_of_mem]
def KP.app{n}{L}{F}{D}{R}{e:AE}(h:KP n L F D R)(c:e.2.1≠1/\e.2.1≠2):KP n (L++[e]) F D R:=by intro p a b;rw[(by grind[Px,aT]:BY (L++[e]) p=BY L p),(by grind[ABz,aT]:st (L++[e]) p=st L p)];exact h p a b
def KP.frames{n:V}{L:S AE}{F G:S BK}{D_:S Ai}{R:S Be}(h:KP n L F D_ R)
  (m:∀g∈G,∃f∈F,f.1.1=g.1.1/\f.1=g.1) (o:∀f∈F,f.2.1=E->∃g∈G,g.1.1=f.1.1/\g.2.1=E):KP n L G D_ R:=by
 intro p w x;obtain⟨a,b,c⟩:=h p w x;refine⟨λg v e=>?_,b,λr hr=>⟨(c r hr).1,λt u=>(c r hr).2 t λf d e=>?_⟩⟩;obtain⟨f,d,j,k⟩:=m g v;rw[<-k];exact a f d (j.trans e);cases s:f.2.1 with
 |false=>rfl
 |true=>obtain⟨g,q,l,i⟩:=o f d s;rw[u g q (l.trans e)]at i;cases i
def KP.written{n:V}{L:S AE}{F G:S BK}{D_:S Ai}{R:S Be}{q lsn:V}{w:Be}(h:KP n L F D_ R)(q0:0≤q)(z:lsn=BY L q)(A:q<n)
  (o:∀g∈G,∃f∈F,f.1.1=g.1.1/\f.1=g.1) (s:∀f∈F,f.1.1≠q->f∈G) (k:R[ο q]?=Y w):
  KP n L G D_ (R.set (ο q) ((if lsn>w.1 then lsn else w.1),w.2)):=by
 intro p x y;obtain⟨a,b,c⟩:=h p x y;refine⟨λg v e=>?_,b,λr hr=>?_⟩;obtain⟨f,d,l,m⟩:=o g v;rw[<-m];exact a f d (l.trans e);by_cases j:p=q;subst j;have i:p.toNat<W R:=by rcases Az p.toNat (W R) with h|h;exact h;rw[Ct h]at k;cases k
 rw[HB i]at hr;have:=(c w k).1;have e:r.1=BY L p:=by rw[<-BW hr];dsimp only;split<;>omega
 exact⟨o!,λ_ _=>e⟩;rw[Dc o!]at hr;refine⟨(c r hr).1,λt u=>(c r hr).2 t λf d e=>?_⟩;exact u f (s f d o!) e
def ACp{F:S BK}{i:U}{f n:BK}(a:F[i]?=Y f)(hn:n.1=f.1):∀g∈F.set i n,∃f∈F,f.1.1=g.1.1/\f.1=g.1:=k!
def ym{F:S BK}{i:U}{f n:BK}(c:F[i]?=Y f):∀g∈F,g.1.1≠f.1.1->g∈F.set i n:=by intro g a b;have⟨j,d⟩:=Db a;apply BP (i:=j);grind
def KP.change{n:V}{L:S AE}{F:S BK}{D_:S Ai}{R:S Be}{e:AE}{i:U}{f g:BK}(h:KP n L F D_ R)(G:FD B n F D_)
  (t:e.2.1=1\/e.2.1=2) (u:F[i]?=Y f) (I:f.1.1=e.2.2.2.2.2.2.1.1) (v:g.1=upd f.1 e) (y:g.2.1=E)
  (J:∀j k,F[j]?=Y k->k.1.1=f.1.1->j=i) (H:BY L f.1.1<e.1):KP n (L++[e]) (F.set i g) D_ R:=by
 have w:i<W F:=by rcases Az i (W F) with h|h;exact h;rw[Ct h]at u;cases u
 have A:g∈F.set i g:=BP (i:=i) (HB w);have C:g.1.1=f.1.1:=by rw[v];rfl
 intro p K M;obtain⟨a,b,c⟩:=h p K M;have E_:aT p e=(f.1.1==p):=by rw[I];unfold aT;rcases t with h|h<;>simp[h]
 rw[Px,ABz,E_];by_cases l:f.1.1=p;subst l;rw[L!,C! rfl,C! rfl];refine⟨λk t m=>?_,λd o m=>O! m ((G f (BP u)).2.2.1 d o),λr hr=>⟨by have:=(c r hr).1;omega,λ_ q=>?_⟩⟩;obtain⟨j,x⟩:=Db t;by_cases s:j=i;subst s;rw[HB w]at x;rw[<-BW x,v];exact E! (upd · e) (a f (BP u) rfl);rw[Dc (s ·.symm)]at x;exact O! (J j k x m) s;have:=q g A C;rw[y]at this;cases this;rw[D! (by simpa using l),D! (by simpa using l)];refine⟨λk t m=>?_,b,λr hr=>⟨(c r hr).1,λo q=>(c r hr).2 o λk t m=>?_⟩⟩;rcases Q5 t with h|h;exact a k h m;subst h;exact O! (C.symm.trans m) l;exact q k (ym u k t o!) m
def FD.set{n}{F}{D_}{i:U}{f g:BK}(h:FD B n F D_)(b:F[i]?=Y f)(c:g.1.1=f.1.1):FD B n (F.set i g) D_:=by intro k d;rcases Q5 d with a|a;exact h k a;subst a;rw[c];exact h f (BP b)
def KP.supply{n:V}{L:S AE}{F:S BK}{D_ l:S Ai}{R:S Be}{x:AQ}{g:BK}(h:KP n L F D_ R)(y:x=st L x.1)
  (w:∀f∈F,f.1.1≠x.1) (t:g.1=x) (i:(g.2.1=E/\l=D_.filter λd=>d.1 !=x.1)\/(g.2.1=X/\(∀d∈D_,d.1≠x.1)/\l=D_)):KP n L (F++[g]) l R:=by
 intro p z A;obtain⟨a,b,c⟩:=h p z A;have v:∀d∈l,d∈D_:=by rcases i with⟨_,e⟩|⟨_,_,e⟩<;>subst e;exact λd i=>(BR.1 i).1;exact λd i=>i
 refine⟨λf j e=>?_,λd i=>b d (v d i),λr hr=>⟨(c r hr).1,λq s=>(c r hr).2 ?_ λf j=>s f (F8 _ j)⟩⟩;rcases Ak.1 j with j|j;exact a f j e;rw[A9]at j;subst j;rw[t]at e⊢;rw[<-e];exact y;intro d k e;rcases i with⟨u,o⟩|⟨_,_,o⟩<;>subst o;by_cases m:p=x.1;have:=s g q! (by rw[t,m]);rw[u]at this;cases this;exact q d (BR.2 ⟨k,w!⟩) e;exact q d k e
def FD.supply{n}{F}{D_ b:S Ai}{p:V}{g:BK}(h:FD B n F D_)(k:0<=p)(l:p<n)(i:B p)(j:g.1.1=p)(e:∀d∈b,d∈D_)(hn:∀d∈b,d.1≠p):FD B n (F++[g]) b:=by intro f a;rcases Ak.1 a with a|a;exact⟨(h f a).1,(h f a).2.1,λd c=>(h f a).2.2.1 d (e d c),(h f a).2.2.2⟩;grind
end Go.Pm
namespace Go.Pm
open Go Go.Ab
variable {B:Int->Prop}
def SB(k:AT):Prop:=GS k.2.2.2.2.1/\W k.2.2.2.2.2.1<=16777216/\W k.2.2.2.2.2.2.2<=16777216
def SK(B:V->Prop)(k:AT):Prop:=GS k.2.2.2.2.1/\W k.2.2.2.2.2.1<=16777216/\W k.2.2.2.2.2.2.2<=16777216/\KI B k
def SK.sb{k}(h:SK B k):SB k:=⟨h.1,h.2.1,h.2.2.1⟩
def SK.ki{k}(h:SK B k):KI B k:=h.2.2.2
def SB.sk{k}(h:SB k)(g:KI B k):SK B k:=⟨h.1,h.2.1,h.2.2,g⟩
def VK(k:AT):Prop:=1<=k.1/\k.1<=64/\Dg k.2.2.1/\Pz k.2.2.2.1/\an k.2.2.2.2.1/\Zn k.2.2.2.2.2.1/\nX k.2.2.2.2.2.2.1/\W k.2.2.2.2.2.2.1=k.1
def fK{x}(h:SB x):Ao (ML x) λr=>r=E->VK x:=by
 unfold ML VK;unfold SB at h
 exact x!
def ZO{x:AT×V}{s:V×Ai}(h:0<=s.1/\s.1<=x.1.2.2.2.2.2.2.2.length/\x.1.2.2.2.2.2.2.2.length<=16777216/\ ∀(i:U) (d:Ai),i<s.1->x.1.2.2.2.2.2.2.2[i]? =some d->d.1≠x.2):Ao (Ag (Nv x) s) λr=>(∃d∈x.1.2.2.2.2.2.2.2,r= .inl (true,d)/\d.1=x.2)\/ ∃z,r= .inr z/\ ∀d∈x.1.2.2.2.2.2.2.2,d.1≠x.2:=by
 refine AW (λ(s:V×Ai)=>0<=s.1/\s.1<=x.1.2.2.2.2.2.2.2.length/\x.1.2.2.2.2.2.2.2.length<=16777216/\ ∀(i:U) (d:Ai),i<s.1->x.1.2.2.2.2.2.2.2[i]? =some d->d.1≠x.2) (λ(s:V×Ai)=>((x.1.2.2.2.2.2.2.2.length:V)-s.1).toNat) h (λs j=>?_);have⟨c,m,f,g⟩:=j;unfold Nv;refine AC (λa=>?_) (λa=>AB (.inr ⟨_,rfl,λd b=>?_⟩));simp[len]at a;refine AA (AI c a) λv o=>?_;apply AP<;>intro n;grind[AA,AI,AB,Option.some.inj];have e:=AY (x:=s.1+1);refine AB ⟨⟨d!,d!,f,λi d k b=>?_⟩,d!⟩;dsimp only at k;by_cases l:(i:V)<s.1;exact g i d l b;have:i=s.1.toNat:=o!
 grind[Option.some.inj];grind[List.getElem?_of_mem,Nat.lt_or_ge,List.getElem?_eq_none]
def KV{x:AT×V}(h:SB x.1):Ao (E6 x) λr=>(r.2=E->r.1∈x.1.2.2.2.2.2.2.2/\r.1.1=x.2)/\(r.2=X->∀d∈x.1.2.2.2.2.2.2.2,d.1≠x.2):=by unfold E6;refine AA (ZO ⟨o!,d!,h.2.2,λi d a=>O! a d!⟩) λv b=>?_;grind[BF,AB,A0]
def ZP{x:AT}{s:V}(h:0<=s/\s<=θ x.2.2.2.2.2.1/\(θ x.2.2.2.2.2.1:V)<=16777216):Ao (Ag (Nw x) s) λr=>r≠.inl ζ:=by
 refine AW (λ(s:V)=>0<=s/\s<=θ x.2.2.2.2.2.1/\(θ x.2.2.2.2.2.1:V)<=16777216) (λ(s:V)=>((θ x.2.2.2.2.2.1:V)-s).toNat) h (λs b=>?_);unfold Nw;exact x!
def ZQ{x:AT}{s:V}(h:0<=s/\s<=θ x.2.2.2.1.2.1/\(θ x.2.2.2.1.2.1:V)<=16777216/\SB x):Ao (Ag (Nx x) s) λr=>r≠.inl ζ:=by
 refine AW (λ(s:V)=>0<=s/\s<=θ x.2.2.2.1.2.1/\(θ x.2.2.2.1.2.1:V)<=16777216/\SB x) (λ(s:V)=>((θ x.2.2.2.1.2.1:V)-s).toNat) h (λs b=>?_);unfold Nx;exact x!
def ZS{x:AT}{s:V}(h:0<=s/\s<=θ x.2.2.2.2.1.1/\(θ x.2.2.2.2.1.1:V)<=16777216):Ao (Ag (Ny x) s) λr=>r≠.inl ζ:=by
 refine AW (λ(s:V)=>0<=s/\s<=θ x.2.2.2.2.1.1/\(θ x.2.2.2.2.1.1:V)<=16777216) (λ(s:V)=>((θ x.2.2.2.2.1.1:V)-s).toNat) h (λs b=>?_);unfold Ny;exact x!
def ZT{x:AT}{s:V}(h:0<=s/\s<=θ x.2.2.2.2.1.2/\(θ x.2.2.2.2.1.2:V)<=16777216):Ao (Ag (Nz x) s) λr=>r≠.inl ζ:=by
 refine AW (λ(s:V)=>0<=s/\s<=θ x.2.2.2.2.1.2/\(θ x.2.2.2.2.1.2:V)<=16777216) (λ(s:V)=>((θ x.2.2.2.2.1.2:V)-s).toNat) h (λs b=>?_);unfold Nz;exact x!
def CK{x}(h:SB x):Ao (Br x) λr=>r=E->VK x:=by
 unfold Br;exact x!
def aA{x:List Ap×V}{s:V}(h:0<=s/\s<=θ x.1/\(θ x.1:V)<=16777216):Ao (Ag (KT x) s) λr=>∀u,r=.inl u->0<=u/\u<θ x.1/\∃t,x.1[u.toNat]?=δ t/\t.1=x.2:=by
 refine AW (λ(s:V)=>0<=s/\s<=θ x.1/\(θ x.1:V)<=16777216) (λ(s:V)=>((θ x.1:V)-s).toNat) h (λs b=>?_);unfold KT;exact x!
def IZ{x:S Ap×V}(h:W x.1<=16777216):Ao (Ep x) λr=> -1<=r/\r<W x.1/\(0<=r->∃t,x.1[r.toNat]?=Y t/\t.1=x.2):=by
 unfold Ep;exact x!
def Fl{x:S Ap×V}(h:W x.1<=16777216):Ao (Cf x) λr=> -1<=r/\r<W x.1/\(0<=r->∃t,x.1[r.toNat]?=Y t/\t.1=x.2):=by
 unfold Cf;exact x!
def oV(p:Bx)(id:V):Prop:=∃(i:U)(f:BK),p.2.1[i]?=Y f/\f.1.1=id
def Z9{x:Bx×V}{s:V}(h:0<=s/\s<=θ x.1.2.1/\(θ x.1.2.1:V)<=16777216/\∀(i:U)(f:BK),i<s->x.1.2.1[i]?=δ f->f.1.1≠x.2):Ao (Ag (Oi x) s) λr=>(∃u,r=.inl u/\0<=u/\u<θ x.1.2.1/\∃f,x.1.2.1[u.toNat]?=δ f/\f.1.1=x.2)\/(r=.inr ()/\¬oV x.1 x.2):=by
 refine AW (λ(s:V)=>0<=s/\s<=θ x.1.2.1/\(θ x.1.2.1:V)<=16777216/\∀(i:U)(f:BK),i<s->x.1.2.1[i]?=δ f->f.1.1≠x.2) (λ(s:V)=>((θ x.1.2.1:V)-s).toNat) h (λs b=>?_);unfold Oi;repeat' with_reducible first|intro a|apply AC|apply AP|apply AK|apply AB|(refine AM ?_ (AI ?_ ?_);rintro r ⟨hr,c⟩)
 all_goals try (have e:=AY (x:=s+1))
 all_goals first|omega|grind[oV]
def Gl{x:Bx×V}(h:W x.1.2.1<=16777216):Ao (Fa x) λr=> -1<=r/\r<W x.1.2.1/\(0<=r->∃f,x.1.2.1[r.toNat]?=Y f/\f.1.1=x.2)/\(r<0->¬oV x.1 x.2):=by refine AA (Z9 (by refine⟨o!,o!,o!,λi f a=>O! a o!⟩)) λs b=>?_;grind[BF,AB,A0]
def Fk{x}:Ao (ED x) λr=> -1<=r/\r<W x.1.2.1/\(0<=r->Pz x.1/\∃f,x.1.2.1[r.toNat]?=Y f/\f.1.1=x.2)/\(Pz x.1->oV x.1 x.2->0<=r):=by
 unfold ED;exact x!
def JD{x}:Ao (F6 x) λr=>(r.2=E->Pz x.1/\Hg r.1/\oV x.1 x.2/\r.1.1=x.2/\∃f∈x.1.2.1,f.1=r.1)/\(r.2=X->Pz x.1->¬oV x.1 x.2):=by
 unfold F6;exact x!
theorem Dg.last{x}(h:Dg x):wi (wi (x.1+len x.2.1)-1)=x.1+W x.2.1-1:=by have⟨a,b,c,d,e,f⟩:=h;grind[AY]
def Dg.at{x}{n:V}{e:AE}(h:Dg x)(a:x.1<=n)(b:n<=x.1+W x.2.1-1)(c:x.2.1[(wi (n-x.1)).toNat]?=Y e):Mc e/\e.1=n:=by have⟨a1,a2,a3,a4,a5,a6⟩:=h;grind[AY]
theorem Dg.append{x}{e}{l:S AE}(h:Dg x)(b:W x.2.1≠4096)(d:Mc e)(c:e.1=x.1+W x.2.1)(a:l=x.2.1++[e]):Dg (x.1,l,x.2.2):=by have⟨a1,a2,a3,a4,a5,a6⟩:=h;subst a;refine⟨a1,a2,w!,a4,w!,λi f g=>?_⟩;grind[Nat.lt_or_ge,List.getElem?_append_right,u?]
def Dg.force{x}{n:V}(h:Dg x)(a:n<=x.1+W x.2.1-1):Dg (x.1,x.2.1,if n>x.2.2 then n else x.2.2):=by have⟨a1,a2,a3,a4,a5,a6⟩:=h;refine⟨a1,a2,a3,?_,?_,a6⟩<;>(dsimp only;split<;>omega)
def Fi{x}:Ao (Em x) λr=>Dg x->r=x.1+W x.2.1-1:=by
 unfold Em;exact x!
def KQ{x:Aa×V}:Ao (EO x) λr=>(r.2=0->Dg r.1/\r.1.2.1=x.1.2.1/\r.1.1=x.1.1/\x.1.2.2<=r.1.2.2/\x.2<=r.1.2.2):=by
 unfold EO;repeat' with_reducible first|apply AC<;>intro a|apply AO<;>intro a|apply AK<;>intro a|apply AB|(apply AA (Bb);intro r hr)|(apply AA (En);intro r hr)
 all_goals try (intro _;have b:Dg x.1:=by grind
                have c:=b.last;exact⟨b.force (by omega),rfl,rfl,by dsimp only;split<;>omega,by dsimp only;split<;>omega⟩)
 all_goals ((try dsimp[len]at*);(try first|omega|assumption|grind[AY]))
theorem HG{x}:Ao (FG x) λr=>(r.2=0->Mc r.1/\r.1.1=x.2/\x.1.2.1[(x.2-x.1.1).toNat]?=Y r.1/\x.1.1<=x.2)/\(Dg x.1->x.1.1<=x.2->x.2<=x.1.1+W x.1.2.1-1->r.2=0):=by
 unfold FG;repeat' with_reducible first|intro c|apply AC|apply AO|apply AK|apply AB|(apply AA (Bb);intro r hr)|(apply AA (En);intro r hr)|(refine AM ?_ (AI ?_ ?_);rintro r ⟨hr,f⟩)
 all_goals try (have a:Dg x.1:=k!)
 all_goals try (have e:=a.last;have:=a.1;have:=a.2.1;have:=a.2.2.1)
 all_goals try (have d:wi (x.2-x.1.1)=x.2-x.1.1:=AY)
 all_goals try (have b:=a.at (n:=x.2) o! o! hr;rw[d]at hr;exact⟨λ_=>⟨b.1,b.2,hr,o!⟩,λ_ _ _=>rfl⟩)
 all_goals exact l!
def bv{x}:Ao (K0 x) λr=>(r.2.2=0->Dg r.1/\Dg x.1/\r.1.2.1=x.1.2.1++[(r.2.1,x.2.2)]/\r.1.1=x.1.1/\r.2.1=x.1.1+W x.1.2.1/\r.1.2.2=x.1.2.2):=by
 unfold K0;repeat' with_reducible first|intro b|apply AO|apply AP|apply AK|apply AB|(apply AA (Bb);intro r hr)|(apply AA (En);intro r hr)|(apply AA (Cc);intro r hr)|(refine AM ?_ (Ac ?_);rintro r ⟨hr,c,d⟩)
 all_goals try (have a:Dg x.1:=k!)
 all_goals try (have c:=a.last;have:=a.1;have:=a.2.1;have:=a.2.2.1)
 all_goals ((try dsimp[len]at*);(try first|omega|assumption|grind[AY,Dg.append]))
def CR{x}:Ao (BE x) λr=>r=E↔x.2.1=1\/x.2.1=2:=by
 unfold BE;exact x!
end Go.Pm
namespace Go.Pm
open Go Go.Ab
def tV(n:V):0<=ι .u64 n:=by rw[Xa];omega
theorem My(l:S V):(E5 l).length=W l:=by simp[E5]
def bj{x:Bd×V×V}{s:Bd×V}(h:0<=s.2/\s.2<=x.2.2/\x.2.2<=8/\(W s.1:V)=W x.1+s.2/\W x.1<=1099511627776):Ao (Ag (Gi x) s) λr=>(W r:V)=W x.1+x.2.2:=by
 refine AW (λs=>0<=s.2/\s.2<=x.2.2/\x.2.2<=8/\(W s.1:V)=W x.1+s.2/\W x.1<=1099511627776) (λs=>(x.2.2-s.2).toNat) h (λs b=>?_);unfold Gi;repeat' with_reducible first|intro a|apply AC|apply AK|apply AB|apply bh|(refine AM ?_ (CM ?_);rintro r ⟨hr,c⟩)
 all_goals try (have d:=tV (wi (8*s.2));omega)
 all_goals ((try dsimp[len]at*);(try first|omega|assumption|grind[AY,My]))
def Dj{x:Bd×V×V}(h:W x.1<=1099511627776):Ao (An x) λr=>(1<=x.2.2->x.2.2<=8->(W r:V)=W x.1+x.2.2)/\W r<=W x.1+8:=by
 unfold An;exact x!
def ACh{n:V}(h:n<=4):(2:V)^(8*ο n)<=4294967296:=by
 have:ο n=0\/ο n=1\/ο n=2\/ο n=3\/ο n=4:=o!
 rcases this with h|h|h|h|h<;>rw[h]<;>decide
def AHZ{n:V}(h:n<=2):(2:V)^(8*ο n)<=65536:=by
 have:ο n=0\/ο n=1\/ο n=2:=o!
 rcases this with h|h|h<;>rw[h]<;>decide
def AFS{a b:V}{k:U}(e:0<=a)(c:a<2^k)(f:0<=b)(d:b<2^k)(g:k<=64):(0:V)<=((π (κ 64 a|||κ 64 b):U):V)/\((π (κ 64 a|||κ 64 b):U):V)<2^k:=by
 refine⟨o!,?_⟩;obtain⟨n,rfl⟩:=Ef e;obtain⟨m,rfl⟩:=Ef f;have hn:n<2^k:=by exact_mod_cast c
 have h:m<2^k:=by exact_mod_cast d
 have i:2^k<=2^64:=fu g! g;rw[BitVec.toNat_or];simp[cy,cz];rw[Tq o!,Tq o!];exact_mod_cast Nat.or_lt_two_pow hn h
def zk{a v i:V}(d:0≤i)(e:i<8)(c:0≤a)(b:a<2^(8*ο i))(g:0≤v)(h:v<256):
  0<=ι .u64 (((π ((κ 64 a)|||(κ 64 (ι .u64 ((ι .u64 v)*(2^(min (ο (ι .u64 (wi (8*i)))) 64))))))):U):V)/\
  ι .u64 (((π ((κ 64 a)|||(κ 64 (ι .u64 ((ι .u64 v)*(2^(min (ο (ι .u64 (wi (8*i)))) 64))))))):U):V)<2^(8*(wi (i+1)).toNat):=by
 rw[(AY),AY,(by rw[Xa];omega:ι .u64 (8*i)=8*i),(by rw[Xa];omega:ι .u64 v=v)];obtain⟨n,rfl⟩:=Ef d;obtain⟨m,rfl⟩:=Ef g;rw[(by omega:min (8*(n:V)).toNat 64=8*n)];rw[(by omega:((n:V)+1).toNat=n+1)];rw[(by omega:((n:V)).toNat=n)]at b;have f:(m:V)*2^(8*n)<2^(8*(n+1)):=by
  have:(m*2^(8*n):U)<2^(8*(n+1)):=by rw[(by grind[Nat.mul_add,Nat.pow_add]:2^(8*(n+1))=256*2^(8*n))];exact Nat.mul_lt_mul_of_pos_right o! (Nat.pow_pos g!)
  exact_mod_cast this
 have l:(2:V)^(8*(n+1))<=2^64:=by have:(2^(8*(n+1)):U)<=2^64:=fu g! o!;exact_mod_cast this
 have j:(0:V)<=(m:V)*2^(8*n):=by
  have:(0:V)<=((m*2^(8*n):U):V):=o!
  exact_mod_cast this
 rw[(by rw[Xa];omega:ι .u64 ((m:V)*2^(8*n))=(m:V)*2^(8*n))];have⟨q1,q2⟩:=AFS (k:=8*(n+1)) c (by grind[Nat.pow_le_pow_right]) j f o!;grind[π,Xa]
def bi{x:Bd×V×V}{s:V×V}(h:0<=s.2/\s.2<=x.2.2/\x.2.2<=8/\0<=x.2.1/\x.2.1+x.2.2<=W x.1/\W x.1<=1099511627776/\0<=s.1/\s.1<2^(8*s.2.toNat)):Ao (Ag (Gg x) s) λr=>0<=r/\r<2^(8*x.2.2.toNat):=by
 refine AW (λs=>0<=s.2/\s.2<=x.2.2/\x.2.2<=8/\0<=x.2.1/\x.2.1+x.2.2<=W x.1/\W x.1<=1099511627776/\0<=s.1/\s.1<2^(8*s.2.toNat)) (λs=>(x.2.2-s.2).toNat) h (λs n=>?_);unfold Gg;have⟨d,q,f,g,j,k,l,m⟩:=n;repeat' with_reducible first|intro o|apply AC|apply AK|apply AB|apply bh|(refine AM ?_ (Rs ?_ ?_);rintro r ⟨hr,p⟩)
 all_goals try (have t:=tV (wi (8*s.2));omega)
 all_goals (first|(have⟨b,c⟩:=zk (a:=s.1) (v:=r) (i:=s.2) d o! l m hr p;have e:=AY (x:=s.2+1);exact⟨⟨o!,o!,f,g,j,k,b,c⟩,d!⟩)|skip)
 all_goals exact l!
def Cp{x:Bd×V×V}(h:x.1.length<=1099511627776):Ao (A1 x) λr=>r.2=0->0<=x.2.1/\x.2.1+x.2.2<=x.1.length/\(x.2.2<=4->0<=r.1/\r.1<4294967296)/\(x.2.2<=2->r.1<65536):=by
 unfold A1;repeat' with_reducible first|apply AC<;>intro c|apply AK<;>intro c|apply AB|(refine AM ?_ (bi ?_);intro r hr)
 all_goals dsimp[len]at*
 all_goals first
  |omega
  |(intro d;exact absurd d (by decide))
  |(have e:=AY (x:=(x.1.length:V)-x.2.1);exact⟨by omega,by omega,by omega,by omega,by omega,h,by omega,by simp⟩)
  |(intro _;have e:=AY (x:=(x.1.length:V)-x.2.1);refine⟨by omega,by omega,λb=>?_,λa=>?_⟩;(have:=ACh b;rw[AY];omega);(have:=AHZ a;rw[AY];omega))
def bn  {s:V×V}(h:0<=s.2/\s.2<=8):Ao (Ag (IU) s) λr=>True:=by
 refine AW (λs=>0<=s.2/\s.2<=8) (λs=>(8-s.2).toNat) h (λs b=>?_);unfold IU;exact x!
def bk{x:Bd}{s:V×V}(h:0<=s.2/\s.2<=θ x/\θ x<=1099511627776):Ao (Ag (IT x) s) λr=>True:=by
 refine AW (λ(s:V×V)=>0<=s.2/\s.2<=θ x/\θ x<=1099511627776) (λ(s:V×V)=>((θ x:V)-s.2).toNat) h (λs b=>?_);unfold IT;exact x!
def QT{x:Bd}(h:W x<=1099511627776):Ao (FF x) λr=>True:=by
 unfold FF;exact x!
theorem UW{x}:Ao (Di x) λr=>W r<=8408:=by
 unfold Di;repeat' with_reducible first|intro a|apply AC|apply AK|apply AB|(refine AM ?_ (Dj ?_);intro r hr)|(refine AM ?_ (QT ?_);intro r hr)|(refine AM ?_ (CM ?_);rintro r ⟨hr,b⟩)
 all_goals dsimp[len]at*
 all_goals exact l!
theorem SD{x:Bd×V}(h:W x.1<=1099511627776):Ao (Bl x) λr=>r.2.2=0->W r.1<=8392/\x.2+8+W r.1=r.2.1/\0<=x.2/\r.2.1<=W x.1:=by
 unfold Bl;repeat' with_reducible first|intro a|apply AC|apply AL|apply AK|apply AB|(refine AM ?_ (Cp ?_);intro r hr)|(refine AM ?_ (QT ?_);intro r hr)|(refine AM ?_ (CW ?_ ?_ ?_);rintro r ⟨hr,b⟩)
 all_goals dsimp[len]at*
 all_goals exact l!
def iM{x:Bd×Ck}(h:W x.1<=1099511627776)(b:W x.2.2<=16777216):Ao (GU x) λr=>W r<=W x.1+8+W x.2.2:=by
 unfold GU;exact x!
def Vw.lens{x}(h:Vw x):W x.2.2.2.2.2.2.1.2.2.1.2<=12/\W x.2.2.2.2.2.2.1.2.2.2.2<=12/\W x.2.2.2.2.2.2.2<=8192:=by grind[Vw,PG,G6,Qe]
theorem br{x}:Ao (Fh x) λr=>W r.1<=8400:=by
 unfold Fh;repeat' with_reducible first|intro a|apply AO|apply AK|apply AB|(apply AA (Cc);intro r hr)|(refine AM ?_ (Dj ?_);intro r hr)|(refine AM ?_ (iM ?_ ?_);intro r hr)|(refine AM ?_ (CM ?_);rintro r ⟨hr,b⟩)
 all_goals try (have c:=(Vw.lens (x:=x) (by unfold Mc at*;grind)))
 all_goals exact l!
def AHR(k:U):(0:V)<256^k:=by have:0<256^k:=Nat.pow_pos g!;grind
def AKb(b k:U):(b:V)*256^k=((b*256^k:U):V):=k!
def C6(n:V):U->Bd
 |0=>[]
 |k+1=>UInt8.ofNat (n%256).toNat::C6 (n/256) k
def pd:Bd->U
 |[]=>0
 |b::r=>b.toNat+256*pd r
theorem Ay:∀k n,(C6 n k).length=k
 |0,n=>rfl
 |k+1,n=>by rw[C6,Bh,Ay k]
theorem u5:∀l:Bd,pd l<256^W l
 |[]=>by simp[pd]
 |b::r=>by have a:=u5 r;have c:=b.toNat_lt;grind[pd,List.length_cons,Nat.pow_succ]
def ACd:∀l:Bd,C6 (pd l:V) (W l)=l
 |[]=>rfl
 |b::r=>by have a:=b.toNat_lt;rw[Bh,C6,(by rw[pd];omega:((pd (b::r):U):V)/256=(pd r:V)),(by rw[pd];omega:(((pd (b::r):U):V)%256).toNat=b.toNat),ACd r];simp
def wy:∀(k:U)(n m:V),n%256^k=m%256^k->C6 n k=C6 m k
 |0,_,_,_=>rfl
 |k+1,n,m,h=>by
  have e:(256:V)^(k+1)=256^k*256:=Int.pow_succ ..;have b:n%256=m%256:=by have a:n%256^(k+1)%256=n%256:=Int.emod_emod_of_dvd n ⟨256^k,by rw[e,Int.mul_comm]⟩;simp_all
  have c:n/256%256^k=m/256%256^k:=by
   have g:∀x:V,x/256%256^k=x%256^(k+1)/256:=λx=>by have d:=qE (x/256) (256^k);have f:=qE x (256*256^k);grind[Int.ediv_ediv_of_nonneg]
   grind
  rw[C6,C6,b,wy k _ _ c]
def uz:∀(k:U)n,C6 n (k+1)=C6 n k++[UInt8.ofNat (n/256^k%256).toNat]
 |0,n=>by simp[C6]
 |k+1,n=>by rw[C6,uz k (n/256),C6];grind[Int.pow_succ,Int.mul_comm,Int.ediv_ediv_of_nonneg]
theorem tO:∀k n,((pd (C6 n k):U):V)=n%256^k
 |0,n=>by simp[C6,pd]
 |k+1,n=>by
  rw[C6,pd];have b:(UInt8.ofNat (n%256).toNat).toNat=(n%256).toNat:=by grind[UInt8.toNat_ofNat']
  have c:=tO k (n/256);have a:=qE (n/256) (256^k);grind[Int.mul_ediv_add_emod,Int.ediv_ediv_of_nonneg]
theorem u6:∀(l:Bd)(b:UInt8),pd (l++[b])=pd l+b.toNat*256^W l
 |[],b=>by simp[pd]
 |a::r,b=>by rw[ET,pd,u6 r b,pd,Bh,Nat.pow_succ,Nat.mul_add];grind
def cr(k:U)(n:V):Prop:=(k<=7->0<=n/\n<256^k)/\ -9223372036854775808<=n/\n<=9223372036854775807
theorem YU{k:U}(f:k<=8){n m}(hn:cr k n)(d:cr k m)(h:C6 n k=C6 m k):n=m:=by
 have e:=tO k n;rw[h,tO k m]at e;by_cases c:k<=7;have a:=hn.1 c;have b:=d.1 c;grind[Int.emod_eq_of_lt];have:k=8:=o!
 have a:=hn.2;have b:=d.2;grind
def rd(l:Bd):V:=wi (pd l:V)
def AKc{k:U}(h:k<=7):(256:V)^k<=72057594037927936:=by
 have:k=0\/k=1\/k=2\/k=3\/k=4\/k=5\/k=6\/k=7:=o!
 grind
theorem ABj{l:Bd}(h:W l<=8):cr (W l) (rd l):=by have b:=u5 l;have d:rd l=((pd l:V)+9223372036854775808)%18446744073709551616-9223372036854775808:=AGD _;refine⟨λa=>?_,o!⟩;have c:=AKc a;grind
theorem yK{l:Bd}(h:W l<=8):C6 (rd l) (W l)=l:=by
 rw[show C6 (rd l) (W l)=C6 (pd l:V) (W l) from ?_,ACd];apply wy;by_cases a:W l<=7;have c:=AKc a;have b:(pd l:V)<256^W l:=by grind[u5]
 have:rd l=(pd l:V):=by unfold rd;exact AY
 rw[this];have:W l=8:=o!
 rw[this,show(256:V)^8=18446744073709551616 by decide];unfold rd;rw[AGD];omega
theorem rP{k:U}{n}(a:k<=8)(h:cr k n):rd (C6 n k)=n:=by grind[Ay,YU,ABj,C6,yK]
def ABf(k:U):(2:V)^(8*k)=256^k:=by grind[Int.pow_mul]
def AFf{n:V}{i:V}(c:0<=i)(d:i<8):E5 ([ι .u8 (Int.fdiv (ι .u64 n) (2^(min (ο (ι .u64 (wi (8*i)))) 64)))]:S V)=[UInt8.ofNat (n/256^ο i%256).toNat]:=by
 have a:wi (8*i)=8*i:=AY;have b:ι .u64 (8*i)=8*i:=by rw[Xa];omega
 rw[a,b,show min (8*i).toNat 64=8*ο i by omega,ABf];have e:=AHR (ο i)
 rw[mA _ o!,Xa,AH4];have:n%18446744073709551616/256^ο i%256=n/256^ο i%256:=by
  have:ο i=0\/ο i=1\/ο i=2\/ο i=3\/ο i=4\/ο i=5\/ο i=6\/ο i=7:=o!
  rcases this with h|h|h|h|h|h|h|h<;>rw[h];rw[show(256:V)^0=1 by decide];omega;rw[show(256:V)^1=256 by decide];omega;rw[show(256:V)^2=65536 by decide];omega;rw[show(256:V)^3=16777216 by decide];omega;rw[show(256:V)^4=4294967296 by decide];omega;rw[show(256:V)^5=1099511627776 by decide];omega;rw[show(256:V)^6=281474976710656 by decide];omega;rw[show(256:V)^7=72057594037927936 by decide];omega
 rw[this];rfl
theorem IF{s:Bd}{n:V}{k:V}(h:W s<=1099511627776)(i:1<=k)(j:k<=8):An (s,n,k)=Y (s++C6 n (ο k)):=by
 have key:Ao (Ag (Gi (s,n,k)) (s,0)) λr=>r=s++C6 n (ο k):=by refine AW (λt=>0<=t.2/\t.2<=k/\t.1=s++C6 n t.2.toNat) (λt=>(k-t.2).toNat) ⟨Ae _,d!,by simp[C6]⟩ ?_;rintro⟨l,a⟩ ⟨b,g,c⟩;dsimp only at b g c;subst c;unfold Gi;dsimp only;refine AC (λd=>?_) (λd=>AB (by rw[show a=k by omega]));refine AC (λe=>O! e (by have:=tV (wi (8*a));omega)) (λ_=>?_);rw[AFf b o!];refine AA (CM (by rw[AZ,Ay];simp;omega)) λv f=>AB ?_;rw[(AY)];refine⟨⟨o!,o!,?_⟩,o!⟩;rw[f.1,show(a+1).toNat=a.toNat+1 by omega,uz,A2]
 obtain⟨r,hr,rfl⟩:=key;unfold An;grind
def AAg{a t:Bd}{i:V}(c:0<=i)(d:i<W t)(e:(W a:V)<=2199023255552)(f:(W t:V)<=2199023255552):∃b:UInt8,six (a++t) (wi ((W a:V)+i))=Y (b.toNat:V)/\t.take (i+1).toNat=t.take (ο i)++[b]:=by obtain⟨k,rfl⟩:=Ef c;refine⟨t[k],?_,?_⟩;grind[AY,six];simp_all
theorem AJO{a b k:U}(h:a<256^k)(f:b<256)(g:k<8):π (κ 64 (a:V)|||κ 64 ((b:V)*256^k))=a+b*256^k:=by
 have e:(256:U)^k=2^(8*k):=by rw[Nat.pow_mul]
 have d:a+b*256^k<256^(k+1):=by
  have:b*256^k+256^k<=256*256^k:=by rw[<-Nat.succ_mul];exact NU _ o!
  omega
 have c:(256:U)^(k+1)<=2^64:=by rw[show(2:U)^64=256^8 by decide];exact fu g! o!
 rw[AKb];rw[BitVec.toNat_or,cy,cy,cz,cz,Tq o!,Tq o!];grind[Nat.mul_comm,Nat.two_pow_add_eq_or_of_lt]
theorem ACV{a:U}{b:UInt8}{i:V}(g:0<=i)(h:i<8)(k:a<256^ο i)(j:V)(d:j=8*i):ι .u64 (((π ((κ 64 (a:V))|||(κ 64 (ι .u64 ((ι .u64 (b.toNat:V))*(2^(min (ο j) 64))))))):U):V)=((a+b.toNat*256^ο i:U):V):=by
 have l:=b.toNat_lt;have c:(256:U)^(ο i+1)<=2^64:=by rw[show(2:U)^64=256^8 by decide];exact fu g! o!
 have e:a+b.toNat*256^ο i<256^(ο i+1):=by
  have:b.toNat*256^ο i+256^ο i<=256*256^ο i:=by rw[<-Nat.succ_mul];exact NU _ o!
  omega
 rw[d,(by rw[Xa];omega:ι .u64 (b.toNat:V)=b.toNat),show min (8*i).toNat 64=8*ο i by omega,ABf];have f:ι .u64 ((b.toNat:V)*256^ο i)=(b.toNat:V)*256^ο i:=by rw[Xa,AKb];omega
 grind[AJO,Xa]
theorem kG{a t:Bd}{k:V}(h:(W a:V)+W t<=2199023255552)(v:1<=k)(w:k<=8):A1 (a++t,(W a:V),k)=if k<=W t then Y (rd (t.take (ο k)),0)else Y (0,5):=by
 unfold A1;dsimp only;have d:len (a++t)=(W a:V)+W t:=by unfold len;rw[n?];omega
 rw[F! o!,A!,F! o!,A!,F! o!,A!,F! o!,A!];have q:wi (len (a++t)-(W a:V))=W t:=by rw[d,AY];omega
 by_cases g:k<=W t;rw[F! o!,A!,C! g];have key:Ao (Ag (Gg (a++t,(W a:V),k)) (0,0)) λr=>r=(pd (t.take (ο k)):V):=by
  refine AW (λs=>0<=s.2/\s.2<=k/\s.1=(pd (t.take s.2.toNat):V)) (λs=>(k-s.2).toNat) ⟨Ae _,d!,by simp[pd]⟩ ?_;rintro⟨x,c⟩ ⟨f,u,l⟩;dsimp only at f u l;subst l;unfold Gg;dsimp only;refine AC (λo=>?_) (λo=>AB (by rw[show c=k by omega]));obtain⟨b,q1,q2⟩:=AAg (a:=a) (t:=t) (i:=c) f o! o! o!;rw[q1,AD];refine AC (λp=>O! p (by have:=tV (wi (8*c));omega)) (y? ?_);have e:wi (c+1)=c+1:=AY;have m:wi (8*c)=8*c:=AY;have n:ι .u64 (8*c)=8*c:=by rw[Xa];omega
  have j:(t.take c.toNat).length=c.toNat:=by rw[BQ];omega
  dsimp only;rw[e,ACV f o! (by have:=u5 (t.take c.toNat);rwa [j]at this) _ (by rw[m,n])];refine⟨⟨o!,o!,?_⟩,o!⟩;rw[q2,u6,j]
 obtain⟨r,hr,rfl⟩:=key;rw[hr];rfl;rw[G! o!,B!,D! g]
theorem YV{a t:Bd}{k:V}(h:(W a:V)+W t<=2199023255552)(p:1<=k)(q:k<=8):B0 (a++t,(W a:V),k)=if k<=W t then Y (rd (t.take (ο k)),0)else Y (0,5):=by
 unfold B0;dsimp only;have f:len (a++t)=(W a:V)+W t:=k!
 rw[F! o!,A!,F! o!,A!,F! o!,A!,F! o!,A!];have m:wi (len (a++t)-(W a:V))=W t:=by grind[AY]
 by_cases l:k<=W t;rw[F! o!,A!,C! l];have key:Ao (Ag (VP (a++t,(W a:V),k)) (0,0)) λr=>r=(pd (t.take (ο k)):V):=by refine AW (λs=>0<=s.2/\s.2<=k/\s.1=(pd (t.take s.2.toNat):V)) (λs=>(k-s.2).toNat) ⟨Ae _,d!,by simp[pd]⟩ ?_;rintro⟨u,c⟩ ⟨d,n,e⟩;dsimp only at d n e;subst e;unfold VP;dsimp only;refine AC (λg=>?_) (λg=>AB (by rw[show c=k by omega]));have⟨b,q1,q2⟩:=AAg (a:=a) (t:=t) (i:=c) d o! o! o!;have o:wi (8*c)=8*c:=AY;rw[q1,AD];refine AC (O! · o!) (y? ?_);grind[AY,ACV,u5,u6]
 obtain⟨r,hr,rfl⟩:=key;rw[hr];rfl;grind
def O4(x:Bd×V×V):Z Bd:=
 bif τ (W x.1<=1099511627776)&&(τ (1<=x.2.2)&&τ (x.2.2<=8))then Y (x.1++C6 x.2.1 x.2.2.toNat)else D
def LO(x:Bd×V):Z Bd:=
 bif (x.1==[0])&&(τ (0<=x.2)&&τ (x.2<=8000))then Y (ς x.2.toNat 0)else D
def AJW(a b:AQ):Bool:=(a.1==b.1)&&((a.2.1==b.2.1)&&(List.finRange 16).foldr (λi r=>((a.2.2 i).1==(b.2.2 i).1)&&(((a.2.2 i).2==(b.2.2 i).2)&&r)) E)
end Go.Pm
