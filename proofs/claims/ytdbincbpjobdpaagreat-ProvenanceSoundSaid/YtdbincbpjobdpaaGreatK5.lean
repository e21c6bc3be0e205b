/- Parts of the proof; nothing is assumed. -/
import Derived.Test.YtdbincbpjobdpaaGreatK4
noncomputable section
set_option linter.all false
set_option maxHeartbeats 400000
open Option renaming some->Z
open List renaming length->W
open Go renaming Ψ->S
open Bool renaming false->X
open Bool renaming true->E
open Option renaming none->D
open Go renaming Ω->V
open Option renaming some->δ,none->ε
open Bool renaming true->ζ,false->η
open List renaming length->θ,replicate->ς
open Go.IntKind renaming wrap->ι
open BitVec renaming ofInt->κ,toNat->π
open Int renaming toNat->ο
open Decidable renaming decide->τ
open _root_ renaming Int->Y,Nat->U
namespace Go.Pm
open Go Go.Ab
def HA(x:Cj):Prop:=W x.2<=12/\(x.1=E\/x.2=[])
def PJ(x:Dw):Prop:=0<=x.1/\x.1<64/\0<=x.2.1/\x.2.1<16/\HA x.2.2.1/\HA x.2.2.2
def Ky{x}:An (Dg x) λr=>r=E↔HA x:=by
 unfold Dg HA
 exact x!
def Uc{x}:An (JA x) λr=>r=E↔PJ x:=by
 unfold JA PJ
 exact x!
def Qj:Dw:=(0,0,(X,[]),X,[])
def Vy(x:AE):Prop:=
 (x.2.1=1/\x.2.2.2.2.2.1=0/\x.2.2.2.2.2.2.2=[]/\1<=x.2.2.1/\x.2.2.1<=1073741824/\PJ x.2.2.2.2.2.2.1)\/
 (x.2.1=2/\0<x.2.2.2.1/\1<=x.2.2.2.2.2.1/\x.2.2.2.2.2.1<=x.2.2.2.1/\x.2.2.2.2.2.2.2=[]/\1<=x.2.2.1/\x.2.2.1<=1073741824/\PJ x.2.2.2.2.2.2.1)\/
 ((x.2.1=3\/x.2.1=4\/x.2.1=5)/\0<x.2.2.2.1/\x.2.2.2.2.1=0/\x.2.2.2.2.2.1=0/\x.2.2.2.2.2.2.1=Qj/\x.2.2.2.2.2.2.2=[]/\1<=x.2.2.1/\x.2.2.1<=1073741824)\/
 ((x.2.1=6\/x.2.1=8)/\x.2.2.1=0/\x.2.2.2.1=0/\x.2.2.2.2.1=0/\x.2.2.2.2.2.1=0/\x.2.2.2.2.2.2.1=Qj/\W x.2.2.2.2.2.2.2<=8192)\/
 (x.2.1=7/\x.2.2.1=0/\x.2.2.2.1=0/\x.2.2.2.2.1=0/\0<=x.2.2.2.2.2.2.1.1/\x.2.2.2.2.2.2.1.1<64/\x.2.2.2.2.2.2.1.2=Qj.2/\x.2.2.2.2.2.2.2=[])
def MZ(x:AE):Prop:=1<=x.1/\x.1<=1099511627776/\0<=x.2.2.2.1/\x.2.2.2.1<x.1/\0<=x.2.2.2.2.1/\x.2.2.2.2.1<x.1/\0<=x.2.2.2.2.2.1/\x.2.2.2.2.2.1<x.1/\Vy x
def bo{x}:An (Gp x) λr=>r=E↔0<=x.1/\x.1<x.2:=by
 unfold Gp;exact x!
def eX{x:AE}:An (L6 x) λr=>(r.2=true/\r.1=x)↔Vy x:=by
 obtain⟨a,b,c,d,e,f,⟨g,h,⟨i,j⟩,k,l⟩,m⟩:=x;unfold L6 Vy Qj;dsimp only
 repeat' first
   |with_reducible apply AC<;>intro n
   |with_reducible apply AO<;>intro n
   |with_reducible apply AK<;>intro n
   |(with_reducible apply BJ;try dsimp only)
   |with_reducible apply Bo
   |with_reducible apply B6
   |with_reducible apply AB
   |(with_reducible apply AA (Uc);intro r hr)
 all_goals grind
def Cc{x:AE}:An (Cu x) λr=>r=true↔MZ x:=by
 unfold Cu;refine AA eX λn A=>?_;have e:((n.1.1==x.1)&&((n.1.2.1==x.2.1)&&((n.1.2.2.1==x.2.2.1)&&((n.1.2.2.2.1==x.2.2.2.1)&&((n.1.2.2.2.2.1==x.2.2.2.2.1)&&((n.1.2.2.2.2.2.1==x.2.2.2.2.2.1)&&((n.1.2.2.2.2.2.2.1.1==x.2.2.2.2.2.2.1.1)&&((n.1.2.2.2.2.2.2.1.2.1==x.2.2.2.2.2.2.1.2.1)&&((n.1.2.2.2.2.2.2.1.2.2.1.1==x.2.2.2.2.2.2.1.2.2.1.1)&&((n.1.2.2.2.2.2.2.1.2.2.1.2==x.2.2.2.2.2.2.1.2.2.1.2)&&((n.1.2.2.2.2.2.2.1.2.2.2.1==x.2.2.2.2.2.2.1.2.2.2.1)&&((n.1.2.2.2.2.2.2.1.2.2.2.2==x.2.2.2.2.2.2.1.2.2.2.2)&&((n.1.2.2.2.2.2.2.2==x.2.2.2.2.2.2.2)&&true)))))))))))))=true↔n.1=x:=by obtain⟨⟨a,b,c,d,e,f,⟨g,h,⟨i,j⟩,k,l⟩,m⟩,z⟩:=n;obtain⟨p,q,s,t,u,v,⟨w,y,⟨B,C⟩,D_,E_⟩,F⟩:=x;simp[and_assoc]
 generalize ((n.1.1==x.1)&&_)=bb at e⊢;unfold MZ
 repeat' first
   |with_reducible apply AC<;>intro o
   |with_reducible apply AO<;>intro o
   |with_reducible apply AK<;>intro o
   |(with_reducible apply BJ;try dsimp only)
   |with_reducible apply Bo
   |with_reducible apply B6
   |with_reducible apply AB
   |(with_reducible apply AA (bo);intro r hr)
 all_goals grind
def Eo{x}:An (Cm x) λr=>r=wi (wi (x.1+len x.2.1)-1):=by
 unfold Cm;exact x!
def Dh(x:Ac):Prop:=1<=x.1/\x.1<=1099511627776/\W x.2.1<=4096/\x.1-1<=x.2.2/\x.2.2<=x.1+W x.2.1-1/\∀(i:U)(e:AE),x.2.1[i]?=Z e->e.1=x.1+i/\MZ e
def ZF{x:Ac}{s:Y}(h:0<=s/\s<=θ x.2.1/\θ x.2.1<=4096/\1<=x.1/\x.1<=1099511627776/\∀(i:U)(e:AE),i<s->x.2.1[i]?=δ e->e.1=x.1+i/\MZ e):An (Ai (No x) s) λr=>(r=.inl η/\¬Dh x)\/(r=.inr ()/\∀(i:U)(e:AE),x.2.1[i]?=δ e->e.1=x.1+i/\MZ e):=by
 refine AW (λ(s:Y)=>0<=s/\s<=θ x.2.1/\θ x.2.1<=4096/\1<=x.1/\x.1<=1099511627776/\∀(i:U)(e:AE),i<s->x.2.1[i]?=δ e->e.1=x.1+i/\MZ e) (λ(s:Y)=>((θ x.2.1:Y)-s).toNat) h (λs b=>?_);unfold No;obtain⟨c,d,f,g,j,k⟩:=b;exact x!
theorem Bb{x}:An (B7 x) λr=>r=E↔Dh x:=by
 unfold B7;exact x!
def Hh(x:AS):Prop:=0<=x.1/\x.1<64/\0<=x.2.1/\x.2.1<=1099511627776/\∀i,HA (x.2.2 i)/\(x.2.1=0->(x.2.2 i).1=X)
def Md{x}:An (Hs x) λr=>r=E↔0<=x.1/\x.1<64/\0<=x.2.1/\x.2.1<=1099511627776:=by
 unfold Hs;exact x!
def ZB{x:AS}{s:Y}(h:0<=s/\s<=16/\∀i:Fin 16,(i.val:Y)<s->HA (x.2.2 i)/\(x.2.1=0->(x.2.2 i).1=X)):An (Ai (Nf x) s) λr=>(r=.inl X/\¬ ∀i,HA (x.2.2 i)/\(x.2.1=0->(x.2.2 i).1=X))\/(r=.inr ()/\∀i,HA (x.2.2 i)/\(x.2.1=0->(x.2.2 i).1=X)):=by
 refine AW (λs=>0<=s/\s<=16/\∀i:Fin 16,(i.val:Y)<s->HA (x.2.2 i)/\(x.2.1=0->(x.2.2 i).1=X)) (λs=>(16-s).toNat) h (λs b=>?_);unfold Nf;exact x!
def Oc{x}:An (I8 x) λr=>r=E↔∀i,HA (x.2.2 i)/\(x.2.1=0->(x.2.2 i).1=X):=by
 unfold I8;exact x!
def eT{x}:An (L3 x) λr=>r=E↔Hh x:=by
 unfold L3 Hh
 exact x!
def Ob{x}:An (D1 x) λr=>r=0->Hh x:=by
 unfold D1 Hh
 exact x!
def qC(f:BK):Prop:=Hh f.1/\(f.2.1=E->1<=f.2.2.1/\f.2.2.1<=f.1.2.1)/\(f.2.1=X->f.2.2.1=0)
def Ku(l:S BK)(n:Y):Prop:=(∀(i:U)(f:BK),i<n->l[i]?=Z f->qC f)/\∀(i j:U)(f g:BK),i<j->j<n->l[i]?=Z f->l[j]?=Z g->f.1.1≠g.1.1
def P2(x:Bz):Prop:=1<=x.1/\x.1<=64/\W x.2.1<=x.1/\0<=x.2.2/\(W x.2.1=0/\x.2.2=0\/x.2.2<W x.2.1)/\Ku x.2.1 (W x.2.1)
theorem Ku.step{l}{n:Y}{f:BK}(e:0<=n)(h:Ku l n)(o:l[ο n]?=Z f)(r:qC f)(m:∀(j:U)(g:BK),j<n->l[j]?=Z g->g.1.1≠f.1.1):Ku l (n+1):=by
 refine⟨λi g p b=>?_,λi j g k c q b d=>?_⟩;rcases mG i n with a|a;exact h.1 i g a b;grind;rcases mG j n with a|a;exact h.2 i j g k c a b d;have:j=ο n:=o!
 grind
theorem qp{l:S BK}{n:Y}{f:BK}(c:0<=n)(d:n<W l)(a:l[ο n]?=Z f)(b:¬qC f):¬Ku l (W l):=λh=>b (h.1 (ο n) f o! a)
theorem qq{l:S BK}{n:Y}{f:BK}(e:0<=n)(i:n<W l)(d:l[ο n]?=Z f)(c:∃(j:U)(g:BK),j<n/\l[j]?=Z g/\g.1.1=f.1.1):¬Ku l (W l):=λh=>by have⟨j,g,k,a,b⟩:=c;exact h.2 j (ο n) g f o! o! a d b
def IW{x:Bz}{a:Y}{b:BK}{s:Y}(h:0<=s/\s<=a/\a<=W x.2.1/\(W x.2.1:Y)<=16777216/\∀(j:U)(g:BK),j<s->x.2.1[j]?=Z g->g.1.1≠b.1.1):An (Ai (F4 x a b) s) λr=>(r=.inl X/\∃(j:U)(g:BK),j<a/\x.2.1[j]?=Z g/\g.1.1=b.1.1)\/(r=.inr ()/\∀(j:U)(g:BK),j<a->x.2.1[j]?=Z g->g.1.1≠b.1.1):=by
 refine AW (λs=>0<=s/\s<=a/\a<=W x.2.1/\(W x.2.1:Y)<=16777216/\∀(j:U)(g:BK),j<s->x.2.1[j]?=Z g->g.1.1≠b.1.1) (λs=>(a-s).toNat) h (λs d=>?_);unfold F4;exact x!
def ZK{x:Bz}{s:Y}(h:0<=s/\s<=θ x.2.1/\(θ x.2.1:Y)<=16777216/\Ku x.2.1 s):An (Ai (Nt x) s) λr=>(r=.inl η/\¬Ku x.2.1 (θ x.2.1))\/(r=.inr ()/\Ku x.2.1 (θ x.2.1)):=by
 refine AW (λ(s:Y)=>0<=s/\s<=θ x.2.1/\(θ x.2.1:Y)<=16777216/\Ku x.2.1 s) (λ(s:Y)=>((θ x.2.1:Y)-s).toNat) h (λs d=>?_);unfold Nt;repeat' with_reducible first|intro a|apply AC|apply AP|apply AL|apply AK|(apply BF;try dsimp only)|(apply Ay;try dsimp only)|(apply BH<;>(intro u c;try subst c))|apply AB|(apply AA (eT);intro r hr)|(refine AM ?_ (IW ?_);intro r hr)|(refine AM ?_ (IW ?_);intro r hr)|(refine AM ?_ (IW ?_);intro r hr)|(refine AM ?_ (IW ?_);intro r hr)|(refine AM ?_ (AI ?_ ?_);rintro r ⟨hr,f⟩)
 all_goals try (have e:=AY (x:=s+1))
 all_goals first|omega|(exact⟨o!,o!,o!,o!,λj g b=>O! b o!⟩)|grind[Ku.step,qp,qq,qC]
def Ku.zero(l:S BK):Ku l 0:=⟨λi f h=>O! h o!,λi j f g h a=>O! a o!⟩
def AKG(n h:Y)(a:0<=n)(b:n<=64):(h>if wi (n-1)>0 then wi (n-1)else 0)↔¬(n=0/\h<=0\/h<n):=by grind[AY]
def Ea{x}:An (Dl x) λr=>r=E↔P2 x:=by
 unfold Dl P2
 repeat' first
   |with_reducible apply AC<;>intro b
   |(with_reducible apply BH<;>(intro u a;try subst a))
   |with_reducible apply AB
   |(with_reducible refine AM ?_ (ZK ?_);intro r hr)
 all_goals try dsimp[len]at*
 all_goals first
  |(exact⟨o!,o!,o!,Ku.zero _⟩)
  |(have c:=AKG (W x.2.1) x.2.2 o! o!;grind)
  |grind
def Oi{x}:An (HK x) λr=>True:=by
 unfold HK;exact x!
def VZ{x}:An (Fc x) λr=>True:=by
 unfold Fc;exact x!
def GW{x}:An (ED x) λr=>True:=by
 unfold ED;exact x!
def Z5{x:BC×Y×Cz}{s:Y}(h:0<=s/\s<=θ x.1.1/\(θ x.1.1:Y)<=16777216):An (Ai (Om x) s) λr=>True:=by
 refine AW (λ(s:Y)=>0<=s/\s<=θ x.1.1/\(θ x.1.1:Y)<=16777216) (λ(s:Y)=>((θ x.1.1:Y)-s).toNat) h (λs b=>?_);unfold Om;exact x!
def IV{x:BC×Y×Cz}(h:W x.1.1<=16777216):An (EE x) λr=>True:=by
 unfold EE;exact x!
def GS(x:BC):Prop:=W x.1<=16777216/\W x.2<=16777216
def RR{x:BC}{a:Y}{s:Y}(h:s<a/\ -1<=s/\0<=a/\a<W x.1/\W x.1<=16777216):An (Ai (Jm x a) s) λr=>r≠.inl E:=by
 refine AW (λs=>s<a/\ -1<=s/\0<=a/\a<W x.1/\W x.1<=16777216) (λs=>(s+1).toNat) h (λs c=>?_);unfold Jm;exact x!
def ZG{x:BC}{s:Y}(h:0<=s/\s<=θ x.1/\(θ x.1:Y)<=16777216):An (Ai (Np x) s) λr=>r≠.inl ζ:=by
 refine AW (λ(s:Y)=>0<=s/\s<=θ x.1/\(θ x.1:Y)<=16777216) (λ(s:Y)=>((θ x.1:Y)-s).toNat) h (λs c=>?_);unfold Np;exact x!
def ZI{x:BC}{a:Y}{b}{s:Y}(h:0<=s/\s<=a/\(a:Y)<=16777216/\a<=W x.2):An (Ai (Nr x a b) s) λr=>r≠.inl E:=by
 refine AW (λs=>0<=s/\s<=a/\(a:Y)<=16777216/\a<=W x.2) (λs=>((a:Y)-s).toNat) h (λs d=>?_);unfold Nr;exact x!
def ZH{x:BC}{s:Y}(h:0<=s/\s<=θ x.2/\(θ x.2:Y)<=16777216/\θ x.1<=16777216):An (Ai (Nq x) s) λr=>r≠.inl ζ:=by
 refine AW (λ(s:Y)=>0<=s/\s<=θ x.2/\(θ x.2:Y)<=16777216/\θ x.1<=16777216) (λ(s:Y)=>((θ x.2:Y)-s).toNat) h (λs c=>?_);unfold Nq;exact x!
def aj(x:BC):Prop:=W x.1+W x.2<=1024
def FV{x}(h:GS x):An (D2 x) λr=>r=E->aj x:=by
 unfold D2 aj;unfold GS at h
 exact x!
def VTx(x:Ap):Prop:=W x.2.2.2.2.1<=4096/\W x.2.2.2.2.2<=8/\1<=x.1
def Zm(x:S Ap):Prop:=W x<=64/\∀(i:U)(t:Ap),x[i]?=Z t->VTx t
def RS{x:Ap}{s:Y}(h:0<=s/\s<=θ x.2.2.2.2.1/\(θ x.2.2.2.2.1:Y)<=16777216):An (Ai (Jq x) s) λr=>r≠.inl ζ:=by
 refine AW (λ(s:Y)=>0<=s/\s<=θ x.2.2.2.2.1/\(θ x.2.2.2.2.1:Y)<=16777216) (λ(s:Y)=>((θ x.2.2.2.2.1:Y)-s).toNat) h (λs b=>?_);unfold Jq;exact x!
def RT{x:Ap}{s:Y}(h:0<=s/\s<=θ x.2.2.2.2.2/\(θ x.2.2.2.2.2:Y)<=16777216):An (Ai (Jr x) s) λr=>r≠.inl ζ:=by
 refine AW (λ(s:Y)=>0<=s/\s<=θ x.2.2.2.2.2/\(θ x.2.2.2.2.2:Y)<=16777216) (λ(s:Y)=>((θ x.2.2.2.2.2:Y)-s).toNat) h (λs b=>?_);unfold Jr;exact x!
def fC{x}:An (ME x) λr=>r=E->VTx x:=by
 unfold ME VTx
 exact x!
def ZN{x:List Ap}{s:Y}(h:0<=s/\s<=θ x/\(θ x:Y)<=16777216/\∀(i:U)(t:Ap),i<s->x[i]?=δ t->VTx t):An (Ai (Nv x) s) λr=>r=.inl η\/(r=.inr ()/\∀(i:U)(t:Ap),x[i]?=δ t->VTx t):=by
 refine AW (λ(s:Y)=>0<=s/\s<=θ x/\(θ x:Y)<=16777216/\∀(i:U)(t:Ap),i<s->x[i]?=δ t->VTx t) (λ(s:Y)=>((θ x:Y)-s).toNat) h (λs b=>?_);unfold Nv;exact x!
def D0{x}:An (D4 x) λr=>r=E->Zm x:=by
 unfold D4 Zm
 exact x!
def na(x:By):Prop:=1<=W x/\W x<=64
def jz{x}:An (G7 x) λr=>True:=by
 unfold G7;exact x!
def ZL{x:By}{s:Y}(h:0<=s/\s<=θ x/\(θ x:Y)<=16777216):An (Ai (Jo x) s) λr=>r≠.inl ζ:=by
 refine AW (λ(s:Y)=>0<=s/\s<=θ x/\(θ x:Y)<=16777216) (λ(s:Y)=>((θ x:Y)-s).toNat) h (λs b=>?_);unfold Jo;exact x!
def GO{x}:An (D3 x) λr=>r=E->na x:=by
 unfold D3 na
 exact x!
def Vv{x:List Aj×Y}{s:Y}(h:0<=s/\s<=θ x.1/\(θ x.1:Y)<=16777216):An (Ai (HD x) s) λr=>r≠.inl ζ:=by
 refine AW (λ(s:Y)=>0<=s/\s<=θ x.1/\(θ x.1:Y)<=16777216) (λ(s:Y)=>((θ x.1:Y)-s).toNat) h (λs b=>?_);unfold HD;exact x!
def QH{x:S Aj×Y}(h:W x.1<=16777216):An (FX x) λr=>True:=by
 unfold FX;exact x!
theorem Cs{b:Type}{l:List b}{i:U}{a:b}(h:l[i]? =some a):i<l.length:=k!
def aR(p:Y)(e:AE):Bool:=((e.2.1==1)||(e.2.1==2))&&(e.2.2.2.2.2.2.1.1==p)
def BZ(L:List AE)(p:Y):Y:=L.foldl (λa e=>if aR p e then e.1 else a) 0
theorem P0(L:S AE)(e:AE)(p:Y):BZ (L++[e]) p=if aR p e then e.1 else BZ L p:=by simp[BZ,Yc,Yd,List.foldl_nil]
def upd(x:AS)(e:AE):AS:=(x.1,e.1,Xi x.2.2 e.2.2.2.2.2.2.1.2.1 e.2.2.2.2.2.2.1.2.2.2)
def st(L:List AE)(p:Y):AS:=(L.filter (aR p)).foldl upd (p,(0,GK.all (false,[])))
def ACn(L M:S AE)(p:Y):st (L++M) p=(M.filter (aR p)).foldl upd (st L p):=by unfold st;rw[GM,Yc]
theorem ABu(L:S AE)(e:AE)(p:Y):st (L++[e]) p=if aR p e then upd (st L p) e else st L p:=by rw[ACn,Mr,mM];split<;>rfl
def ADM(L:S AE)(x:AS):(L.foldl upd x).1=x.1:=by
 induction L generalizing x with
 |nil=>rfl
 |cons e L a=>exact a (upd x e)
theorem Sf(L:S AE)(p:Y):(st L p).1=p:=ADM _ _
theorem Jg(L:List AE)(p:Y):(st L p).2.1=BZ L p:=by
 suffices h: ∀(L:List AE) (x:AS),((L.filter (aR p)).foldl upd x).2.1=L.foldl (λa e=>if aR p e then e.1 else a) x.2.1 from h L _
 intro L;induction L with
 |nil=>exact λx=>rfl
 |cons e L b=>
  intro x;rw[Mr,Yd];split
  ·exact b (upd x e)
  ·exact b x
def yq(n:Y)(L:S AE)(D:S Aj)(R:S Be):Prop:=
 ∀p,0<=p->p<n->(∀d∈D,d.1=p->d.2.2=BZ L p)/\∀r,R[p.toNat]?=Z r->r.1<=BZ L p/\((∀d∈D,d.1≠p)->r.1=BZ L p)
def KP(n:Y)(L:S AE)(F:S BK)(D:S Aj)(R:S Be):Prop:=
 ∀p,0<=p->p<n->(∀f∈F,f.1.1=p->f.1=st L p)/\(∀d∈D,d.1=p->d.2.2=BZ L p)/\
  ∀r,R[p.toNat]?=Z r->r.1<=BZ L p/\((∀d∈D,d.1≠p)->(∀f∈F,f.1.1=p->f.2.1=X)->r.1=BZ L p)
def EOK(n:Y)(M:S AE)(e:AE):Prop:=
 (e.2.1=1\/e.2.1=2->e.2.2.2.2.1=BZ M e.2.2.2.2.2.2.1.1/\G2 (st M e.2.2.2.2.2.2.1.1).2.2 e.2.2.2.2.2.2.1.2.1=Z e.2.2.2.2.2.2.1.2.2.1)/\(e.2.1=7->e.2.2.2.2.2.1=BZ M e.2.2.2.2.2.2.1.1)/\
  (e.2.1=6->∀c,DR e.2.2.2.2.2.2.2=Z (c,0)->c.1=n->yq n M c.2.2.2.1 c.2.2.2.2)
def LI(n:Y)(L:List AE):Prop:= ∀(i:U) (e:AE),L[i]? =some e->EOK n (L.take i) e
def LI.nil(n:Y):LI n []:=λi e h=>by simp at h
def LI.app{n}{L}{e}(h:LI n L)(c:EOK n L e):LI n (L++[e]):=by intro i f b;rcases RG i (W L) with a|a|a;rw[CY a]at b;rw[Yq o!];exact h i f b;grind;grind[u?]
def LI.pre{n}{L T:S AE}(h:LI n (L++T)):LI n L:=by intro i f a;have:=h i f k!;grind
def FD(B:Y->Prop)(n:Y)(F:S BK)(D:S Aj):Prop:=∀f∈F,0<=f.1.1/\f.1.1<n/\(∀d∈D,d.1≠f.1.1)/\B f.1.1
variable {B:Int->Prop}
def KI(B:Y->Prop)(k:AU):Prop:=LI k.1 k.2.2.1.2.1/\KP k.1 k.2.2.1.2.1 k.2.2.2.1.2.1 k.2.2.2.2.2.2.2 k.2.2.2.2.2.2.1/\FD B k.1 k.2.2.2.1.2.1 k.2.2.2.2.2.2.2
def FD.sub{n}{F G:S BK}{D_}(h:FD B n F D_)(a:∀g∈G,∃f∈F,f.1.1=g.1.1/\f.1=g.1):FD B n G D_:=by intro g c;have⟨f,b,e,_⟩:=a g c;rw[<-e];exact h f b
def pL{p b:Y}:∀(L:S AE)(a:Y),a<b->(∀e∈L,e.1<b)->L.foldl (λa e=>if aR p e then e.1 else a) a<b
 |[],a,ha,_=>ha
 |e::L,a,ha,h=>by refine pL L _ ?_ λf c=>h f (CZ _ c);show(if aR p e=E then e.1 else a)<b;split;exact h e JV;exact ha
def mZ{l}(h:Dh l)(p:Y):BZ l.2.1 p<l.1+W l.2.1:=by have⟨a,_,_,_,_,b⟩:=h;refine pL _ _ o! λe c=>?_;grind[List.getElem?_of_mem]
def KP.app{n}{L}{F}{D}{R}{e:AE}(h:KP n L F D R)(c:e.2.1≠1/\e.2.1≠2):KP n (L++[e]) F D R:=by intro p a b;rw[(by grind[P0,aR]:BZ (L++[e]) p=BZ L p),(by grind[ABu,aR]:st (L++[e]) p=st L p)];exact h p a b
def KP.frames{n:Y}{L:S AE}{F G:S BK}{D_:S Aj}{R:S Be}(h:KP n L F D_ R)
  (m:∀g∈G,∃f∈F,f.1.1=g.1.1/\f.1=g.1) (o:∀f∈F,f.2.1=E->∃g∈G,g.1.1=f.1.1/\g.2.1=E):KP n L G D_ R:=by
 intro p w x;obtain⟨a,b,c⟩:=h p w x;refine⟨λg v e=>?_,b,λr hr=>⟨(c r hr).1,λt u=>(c r hr).2 t λf d e=>?_⟩⟩;obtain⟨f,d,j,k⟩:=m g v;rw[<-k];exact a f d (j.trans e);cases s:f.2.1 with
 |false=>rfl
 |true=>obtain⟨g,q,l,i⟩:=o f d s;rw[u g q (l.trans e)]at i;cases i
def KP.written{n:Y}{L:S AE}{F G:S BK}{D_:S Aj}{R:S Be}{q lsn:Y}{w:Be}(h:KP n L F D_ R)(q0:0≤q)(z:lsn=BZ L q)(A:q<n)
  (o:∀g∈G,∃f∈F,f.1.1=g.1.1/\f.1=g.1) (s:∀f∈F,f.1.1≠q->f∈G) (k:R[ο q]?=Z w):
  KP n L G D_ (R.set (ο q) ((if lsn>w.1 then lsn else w.1),w.2)):=by
 intro p x y;obtain⟨a,b,c⟩:=h p x y;refine⟨λg v e=>?_,b,λr hr=>?_⟩;obtain⟨f,d,l,m⟩:=o g v;rw[<-m];exact a f d (l.trans e);by_cases j:p=q;subst j;have i:p.toNat<W R:=by rcases A0 p.toNat (W R) with h|h;exact h;rw[Ct h]at k;cases k
 rw[HE i]at hr;have:=(c w k).1;have e:r.1=BZ L p:=by rw[<-BY hr];dsimp only;split<;>omega
 exact⟨o!,λ_ _=>e⟩;rw[Dd o!]at hr;refine⟨(c r hr).1,λt u=>(c r hr).2 t λf d e=>?_⟩;exact u f (s f d o!) e
def ACl{F:S BK}{i:U}{f n:BK}(a:F[i]?=Z f)(hn:n.1=f.1):∀g∈F.set i n,∃f∈F,f.1.1=g.1.1/\f.1=g.1:=k!
def yi{F:S BK}{i:U}{f n:BK}(c:F[i]?=Z f):∀g∈F,g.1.1≠f.1.1->g∈F.set i n:=by intro g a b;have⟨j,d⟩:=DW a;apply BO (i:=j);grind
def KP.change{n:Y}{L:S AE}{F:S BK}{D_:S Aj}{R:S Be}{e:AE}{i:U}{f g:BK}(h:KP n L F D_ R)(G:FD B n F D_)
  (t:e.2.1=1\/e.2.1=2) (u:F[i]?=Z f) (I:f.1.1=e.2.2.2.2.2.2.1.1) (v:g.1=upd f.1 e) (y:g.2.1=E)
  (J:∀j k,F[j]?=Z k->k.1.1=f.1.1->j=i) (H:BZ L f.1.1<e.1):KP n (L++[e]) (F.set i g) D_ R:=by
 have w:i<W F:=by rcases A0 i (W F) with h|h;exact h;rw[Ct h]at u;cases u
 have A:g∈F.set i g:=BO (i:=i) (HE w);have C:g.1.1=f.1.1:=by rw[v];rfl
 intro p K M;obtain⟨a,b,c⟩:=h p K M;have E_:aR p e=(f.1.1==p):=by rw[I];unfold aR;rcases t with h|h<;>simp[h]
 rw[P0,ABu,E_];by_cases l:f.1.1=p;subst l;rw[L!,C! rfl,C! rfl];refine⟨λk t m=>?_,λd o m=>O! m ((G f (BO u)).2.2.1 d o),λr hr=>⟨by have:=(c r hr).1;omega,λ_ q=>?_⟩⟩;obtain⟨j,x⟩:=DW t;by_cases s:j=i;subst s;rw[HE w]at x;rw[<-BY x,v];exact E! (upd · e) (a f (BO u) rfl);rw[Dd (s ·.symm)]at x;exact O! (J j k x m) s;have:=q g A C;rw[y]at this;cases this;rw[D! (by simpa using l),D! (by simpa using l)];refine⟨λk t m=>?_,b,λr hr=>⟨(c r hr).1,λo q=>(c r hr).2 o λk t m=>?_⟩⟩;rcases Q9 t with h|h;exact a k h m;subst h;exact O! (C.symm.trans m) l;exact q k (yi u k t o!) m
def FD.set{n}{F}{D_}{i:U}{f g:BK}(h:FD B n F D_)(b:F[i]?=Z f)(c:g.1.1=f.1.1):FD B n (F.set i g) D_:=by intro k d;rcases Q9 d with a|a;exact h k a;subst a;rw[c];exact h f (BO b)
def KP.supply{n:Y}{L:S AE}{F:S BK}{D_ l:S Aj}{R:S Be}{x:AS}{g:BK}(h:KP n L F D_ R)(y:x=st L x.1)
  (w:∀f∈F,f.1.1≠x.1) (t:g.1=x) (i:(g.2.1=E/\l=D_.filter λd=>d.1 !=x.1)\/(g.2.1=X/\(∀d∈D_,d.1≠x.1)/\l=D_)):KP n L (F++[g]) l R:=by
 intro p z A;obtain⟨a,b,c⟩:=h p z A;have v:∀d∈l,d∈D_:=by rcases i with⟨_,e⟩|⟨_,_,e⟩<;>subst e;exact λd i=>(BQ.1 i).1;exact λd i=>i
 refine⟨λf j e=>?_,λd i=>b d (v d i),λr hr=>⟨(c r hr).1,λq s=>(c r hr).2 ?_ λf j=>s f (GU _ j)⟩⟩;rcases Ak.1 j with j|j;exact a f j e;rw[A5]at j;subst j;rw[t]at e⊢;rw[<-e];exact y;intro d k e;rcases i with⟨u,o⟩|⟨_,_,o⟩<;>subst o;by_cases m:p=x.1;have:=s g q! (by rw[t,m]);rw[u]at this;cases this;exact q d (BQ.2 ⟨k,w!⟩) e;exact q d k e
def FD.supply{n}{F}{D_ b:S Aj}{p:Y}{g:BK}(h:FD B n F D_)(k:0<=p)(l:p<n)(i:B p)(j:g.1.1=p)(e:∀d∈b,d∈D_)(hn:∀d∈b,d.1≠p):FD B n (F++[g]) b:=by intro f a;rcases Ak.1 a with a|a;exact⟨(h f a).1,(h f a).2.1,λd c=>(h f a).2.2.1 d (e d c),(h f a).2.2.2⟩;grind
end Go.Pm
namespace Go.Pm
open Go Go.Ab
variable {B:Int->Prop}
def SB(k:AU):Prop:=GS k.2.2.2.2.1/\W k.2.2.2.2.2.1<=16777216/\W k.2.2.2.2.2.2.2<=16777216
def SK(B:Y->Prop)(k:AU):Prop:=GS k.2.2.2.2.1/\W k.2.2.2.2.2.1<=16777216/\W k.2.2.2.2.2.2.2<=16777216/\KI B k
def SK.sb{k}(h:SK B k):SB k:=⟨h.1,h.2.1,h.2.2.1⟩
def SK.ki{k}(h:SK B k):KI B k:=h.2.2.2
def SB.sk{k}(h:SB k)(g:KI B k):SK B k:=⟨h.1,h.2.1,h.2.2,g⟩
def VK(k:AU):Prop:=1<=k.1/\k.1<=64/\Dh k.2.2.1/\P2 k.2.2.2.1/\aj k.2.2.2.2.1/\Zm k.2.2.2.2.2.1/\na k.2.2.2.2.2.2.1/\W k.2.2.2.2.2.2.1=k.1
def fG{x}(h:SB x):An (MI x) λr=>r=E->VK x:=by
 unfold MI VK;unfold SB at h
 exact x!
def ZO{x:AU×Y}{s:Y×Aj}(h:0<=s.1/\s.1<=x.1.2.2.2.2.2.2.2.length/\x.1.2.2.2.2.2.2.2.length<=16777216/\ ∀(i:U) (d:Aj),i<s.1->x.1.2.2.2.2.2.2.2[i]? =some d->d.1≠x.2):An (Ai (Nx x) s) λr=>(∃d∈x.1.2.2.2.2.2.2.2,r= .inl (true,d)/\d.1=x.2)\/ ∃z,r= .inr z/\ ∀d∈x.1.2.2.2.2.2.2.2,d.1≠x.2:=by
 refine AW (λ(s:Y×Aj)=>0<=s.1/\s.1<=x.1.2.2.2.2.2.2.2.length/\x.1.2.2.2.2.2.2.2.length<=16777216/\ ∀(i:U) (d:Aj),i<s.1->x.1.2.2.2.2.2.2.2[i]? =some d->d.1≠x.2) (λ(s:Y×Aj)=>((x.1.2.2.2.2.2.2.2.length:Y)-s.1).toNat) h (λs j=>?_);have⟨c,m,f,g⟩:=j;unfold Nx;refine AC (λa=>?_) (λa=>AB (.inr ⟨_,rfl,λd b=>?_⟩));simp[len]at a;refine AA (AI c a) λv o=>?_;apply AO<;>intro n;grind[AA,AI,AB,Option.some.inj];have e:=AY (x:=s.1+1);refine AB ⟨⟨d!,d!,f,λi d k b=>?_⟩,d!⟩;dsimp only at k;by_cases l:(i:Y)<s.1;exact g i d l b;have:i=s.1.toNat:=o!
 grind[Option.some.inj];grind[List.getElem?_of_mem,Nat.lt_or_ge,List.getElem?_eq_none]
def KT{x:AU×Y}(h:SB x.1):An (E8 x) λr=>(r.2=E->r.1∈x.1.2.2.2.2.2.2.2/\r.1.1=x.2)/\(r.2=X->∀d∈x.1.2.2.2.2.2.2.2,d.1≠x.2):=by unfold E8;refine AA (ZO ⟨o!,d!,h.2.2,λi d a=>O! a d!⟩) λv b=>?_;grind[BF,AB,Ay]
def ZP{x:AU}{s:Y}(h:0<=s/\s<=θ x.2.2.2.2.2.1/\(θ x.2.2.2.2.2.1:Y)<=16777216):An (Ai (Ny x) s) λr=>r≠.inl ζ:=by
 refine AW (λ(s:Y)=>0<=s/\s<=θ x.2.2.2.2.2.1/\(θ x.2.2.2.2.2.1:Y)<=16777216) (λ(s:Y)=>((θ x.2.2.2.2.2.1:Y)-s).toNat) h (λs b=>?_);unfold Ny;exact x!
def ZQ{x:AU}{s:Y}(h:0<=s/\s<=θ x.2.2.2.1.2.1/\(θ x.2.2.2.1.2.1:Y)<=16777216/\SB x):An (Ai (Nz x) s) λr=>r≠.inl ζ:=by
 refine AW (λ(s:Y)=>0<=s/\s<=θ x.2.2.2.1.2.1/\(θ x.2.2.2.1.2.1:Y)<=16777216/\SB x) (λ(s:Y)=>((θ x.2.2.2.1.2.1:Y)-s).toNat) h (λs b=>?_);unfold Nz;exact x!
def ZS{x:AU}{s:Y}(h:0<=s/\s<=θ x.2.2.2.2.1.1/\(θ x.2.2.2.2.1.1:Y)<=16777216):An (Ai (N0 x) s) λr=>r≠.inl ζ:=by
 refine AW (λ(s:Y)=>0<=s/\s<=θ x.2.2.2.2.1.1/\(θ x.2.2.2.2.1.1:Y)<=16777216) (λ(s:Y)=>((θ x.2.2.2.2.1.1:Y)-s).toNat) h (λs b=>?_);unfold N0;exact x!
def ZT{x:AU}{s:Y}(h:0<=s/\s<=θ x.2.2.2.2.1.2/\(θ x.2.2.2.2.1.2:Y)<=16777216):An (Ai (N1 x) s) λr=>r≠.inl ζ:=by
 refine AW (λ(s:Y)=>0<=s/\s<=θ x.2.2.2.2.1.2/\(θ x.2.2.2.2.1.2:Y)<=16777216) (λ(s:Y)=>((θ x.2.2.2.2.1.2:Y)-s).toNat) h (λs b=>?_);unfold N1;exact x!
def CM{x}(h:SB x):An (Br x) λr=>r=E->VK x:=by
 unfold Br;exact x!
def Z9{x:List Ap×Y}{s:Y}(h:0<=s/\s<=θ x.1/\(θ x.1:Y)<=16777216):An (Ai (KQ x) s) λr=>∀u,r=.inl u->0<=u/\u<θ x.1/\∃t,x.1[u.toNat]?=δ t/\t.1=x.2:=by
 refine AW (λ(s:Y)=>0<=s/\s<=θ x.1/\(θ x.1:Y)<=16777216) (λ(s:Y)=>((θ x.1:Y)-s).toNat) h (λs b=>?_);unfold KQ;exact x!
def IZ{x:S Ap×Y}(h:W x.1<=16777216):An (Er x) λr=> -1<=r/\r<W x.1/\(0<=r->∃t,x.1[r.toNat]?=Z t/\t.1=x.2):=by
 unfold Er;exact x!
def Fp{x:S Ap×Y}(h:W x.1<=16777216):An (Ce x) λr=> -1<=r/\r<W x.1/\(0<=r->∃t,x.1[r.toNat]?=Z t/\t.1=x.2):=by
 unfold Ce;exact x!
def oV(p:Bz)(id:Y):Prop:=∃(i:U)(f:BK),p.2.1[i]?=Z f/\f.1.1=id
def Z8{x:Bz×Y}{s:Y}(h:0<=s/\s<=θ x.1.2.1/\(θ x.1.2.1:Y)<=16777216/\∀(i:U)(f:BK),i<s->x.1.2.1[i]?=δ f->f.1.1≠x.2):An (Ai (On x) s) λr=>(∃u,r=.inl u/\0<=u/\u<θ x.1.2.1/\∃f,x.1.2.1[u.toNat]?=δ f/\f.1.1=x.2)\/(r=.inr ()/\¬oV x.1 x.2):=by
 refine AW (λ(s:Y)=>0<=s/\s<=θ x.1.2.1/\(θ x.1.2.1:Y)<=16777216/\∀(i:U)(f:BK),i<s->x.1.2.1[i]?=δ f->f.1.1≠x.2) (λ(s:Y)=>((θ x.1.2.1:Y)-s).toNat) h (λs b=>?_);unfold On;repeat' with_reducible first|intro a|apply AC|apply AO|apply AK|apply AB|(refine AM ?_ (AI ?_ ?_);rintro r ⟨hr,c⟩)
 all_goals try (have e:=AY (x:=s+1))
 all_goals first|omega|grind[oV]
def Gq{x:Bz×Y}(h:W x.1.2.1<=16777216):An (Fe x) λr=> -1<=r/\r<W x.1.2.1/\(0<=r->∃f,x.1.2.1[r.toNat]?=Z f/\f.1.1=x.2)/\(r<0->¬oV x.1 x.2):=by refine AA (Z8 (by refine⟨o!,o!,o!,λi f a=>O! a o!⟩)) λs b=>?_;grind[BF,AB,Ay]
def Fo{x}:An (EF x) λr=> -1<=r/\r<W x.1.2.1/\(0<=r->P2 x.1/\∃f,x.1.2.1[r.toNat]?=Z f/\f.1.1=x.2)/\(P2 x.1->oV x.1 x.2->0<=r):=by
 unfold EF;exact x!
def JD{x}:An (F7 x) λr=>(r.2=E->P2 x.1/\Hh r.1/\oV x.1 x.2/\r.1.1=x.2/\∃f∈x.1.2.1,f.1=r.1)/\(r.2=X->P2 x.1->¬oV x.1 x.2):=by
 unfold F7;exact x!
theorem Dh.last{x}(h:Dh x):wi (wi (x.1+len x.2.1)-1)=x.1+W x.2.1-1:=by have⟨a,b,c,d,e,f⟩:=h;grind[AY]
def Dh.at{x}{n:Y}{e:AE}(h:Dh x)(a:x.1<=n)(b:n<=x.1+W x.2.1-1)(c:x.2.1[(wi (n-x.1)).toNat]?=Z e):MZ e/\e.1=n:=by have⟨a1,a2,a3,a4,a5,a6⟩:=h;grind[AY]
theorem Dh.append{x}{e}{l:S AE}(h:Dh x)(b:W x.2.1≠4096)(d:MZ e)(c:e.1=x.1+W x.2.1)(a:l=x.2.1++[e]):Dh (x.1,l,x.2.2):=by have⟨a1,a2,a3,a4,a5,a6⟩:=h;subst a;refine⟨a1,a2,w!,a4,w!,λi f g=>?_⟩;grind[Nat.lt_or_ge,List.getElem?_append_right,u?]
def Dh.force{x}{n:Y}(h:Dh x)(a:n<=x.1+W x.2.1-1):Dh (x.1,x.2.1,if n>x.2.2 then n else x.2.2):=by have⟨a1,a2,a3,a4,a5,a6⟩:=h;refine⟨a1,a2,a3,?_,?_,a6⟩<;>(dsimp only;split<;>omega)
def Fl{x}:An (En x) λr=>Dh x->r=x.1+W x.2.1-1:=by
 unfold En;exact x!
def KM{x:Ac×Y}:An (ER x) λr=>(r.2=0->Dh r.1/\r.1.2.1=x.1.2.1/\r.1.1=x.1.1/\x.1.2.2<=r.1.2.2/\x.2<=r.1.2.2):=by
 unfold ER;repeat' with_reducible first|apply AC<;>intro a|apply AP<;>intro a|apply AK<;>intro a|apply AB|(apply AA (Bb);intro r hr)|(apply AA (Eo);intro r hr)
 all_goals try (intro _;have b:Dh x.1:=by grind
                have c:=b.last;exact⟨b.force (by omega),rfl,rfl,by dsimp only;split<;>omega,by dsimp only;split<;>omega⟩)
 all_goals ((try dsimp[len]at*);(try first|omega|assumption|grind[AY]))
theorem HJ{x}:An (FK x) λr=>(r.2=0->MZ r.1/\r.1.1=x.2/\x.1.2.1[(x.2-x.1.1).toNat]?=Z r.1/\x.1.1<=x.2)/\(Dh x.1->x.1.1<=x.2->x.2<=x.1.1+W x.1.2.1-1->r.2=0):=by
 unfold FK;repeat' with_reducible first|intro c|apply AC|apply AP|apply AK|apply AB|(apply AA (Bb);intro r hr)|(apply AA (Eo);intro r hr)|(refine AM ?_ (AI ?_ ?_);rintro r ⟨hr,f⟩)
 all_goals try (have a:Dh x.1:=k!)
 all_goals try (have e:=a.last;have:=a.1;have:=a.2.1;have:=a.2.2.1)
 all_goals try (have d:wi (x.2-x.1.1)=x.2-x.1.1:=AY)
 all_goals try (have b:=a.at (n:=x.2) o! o! hr;rw[d]at hr;exact⟨λ_=>⟨b.1,b.2,hr,o!⟩,λ_ _ _=>rfl⟩)
 all_goals exact l!
def bp{x}:An (Kz x) λr=>(r.2.2=0->Dh r.1/\Dh x.1/\r.1.2.1=x.1.2.1++[(r.2.1,x.2.2)]/\r.1.1=x.1.1/\r.2.1=x.1.1+W x.1.2.1/\r.1.2.2=x.1.2.2):=by
 unfold Kz;repeat' with_reducible first|intro b|apply AP|apply AO|apply AK|apply AB|(apply AA (Bb);intro r hr)|(apply AA (Eo);intro r hr)|(apply AA (Cc);intro r hr)|(refine AM ?_ (AZ ?_);rintro r ⟨hr,c,d⟩)
 all_goals try (have a:Dh x.1:=k!)
 all_goals try (have c:=a.last;have:=a.1;have:=a.2.1;have:=a.2.2.1)
 all_goals ((try dsimp[len]at*);(try first|omega|assumption|grind[AY,Dh.append]))
def CT{x}:An (BE x) λr=>r=E↔x.2.1=1\/x.2.1=2:=by
 unfold BE;exact x!
end Go.Pm
namespace Go.Pm
open Go Go.Ab
def tW(n:Y):0<=ι .u64 n:=by rw[Xe];omega
theorem Mv(l:S Y):(E7 l).length=W l:=by simp[E7]
def bf{x:Bd×Y×Y}{s:Bd×Y}(h:0<=s.2/\s.2<=x.2.2/\x.2.2<=8/\(W s.1:Y)=W x.1+s.2/\W x.1<=1099511627776):An (Ai (Gm x) s) λr=>(W r:Y)=W x.1+x.2.2:=by
 refine AW (λs=>0<=s.2/\s.2<=x.2.2/\x.2.2<=8/\(W s.1:Y)=W x.1+s.2/\W x.1<=1099511627776) (λs=>(x.2.2-s.2).toNat) h (λs b=>?_);unfold Gm;repeat' with_reducible first|intro a|apply AC|apply AK|apply AB|apply bd|(refine AM ?_ (CN ?_);rintro r ⟨hr,c⟩)
 all_goals try (have d:=tW (wi (8*s.2));omega)
 all_goals ((try dsimp[len]at*);(try first|omega|assumption|grind[AY,Mv]))
def Dk{x:Bd×Y×Y}(h:W x.1<=1099511627776):An (Ao x) λr=>(1<=x.2.2->x.2.2<=8->(W r:Y)=W x.1+x.2.2)/\W r<=W x.1+8:=by
 unfold Ao;exact x!
def ACe{n:Y}(h:n<=4):(2:Y)^(8*ο n)<=4294967296:=by
 have:ο n=0\/ο n=1\/ο n=2\/ο n=3\/ο n=4:=o!
 rcases this with h|h|h|h|h<;>rw[h]<;>decide
def AHa{n:Y}(h:n<=2):(2:Y)^(8*ο n)<=65536:=by
 have:ο n=0\/ο n=1\/ο n=2:=o!
 rcases this with h|h|h<;>rw[h]<;>decide
def AFT{a b:Y}{k:U}(e:0<=a)(c:a<2^k)(f:0<=b)(d:b<2^k)(g:k<=64):(0:Y)<=((π (κ 64 a|||κ 64 b):U):Y)/\((π (κ 64 a|||κ 64 b):U):Y)<2^k:=by
 refine⟨o!,?_⟩;obtain⟨n,rfl⟩:=EG e;obtain⟨m,rfl⟩:=EG f;have hn:n<2^k:=by exact_mod_cast c
 have h:m<2^k:=by exact_mod_cast d
 have i:2^k<=2^64:=fo g! g;rw[BitVec.toNat_or];simp[cr,cu];rw[Tt o!,Tt o!];exact_mod_cast Nat.or_lt_two_pow hn h
def zf{a v i:Y}(d:0≤i)(e:i<8)(c:0≤a)(b:a<2^(8*ο i))(g:0≤v)(h:v<256):
  0<=ι .u64 (((π ((κ 64 a)|||(κ 64 (ι .u64 ((ι .u64 v)*(2^(min (ο (ι .u64 (wi (8*i)))) 64))))))):U):Y)/\
  ι .u64 (((π ((κ 64 a)|||(κ 64 (ι .u64 ((ι .u64 v)*(2^(min (ο (ι .u64 (wi (8*i)))) 64))))))):U):Y)<2^(8*(wi (i+1)).toNat):=by
 rw[(AY),AY,(by rw[Xe];omega:ι .u64 (8*i)=8*i),(by rw[Xe];omega:ι .u64 v=v)];obtain⟨n,rfl⟩:=EG d;obtain⟨m,rfl⟩:=EG g;rw[(by omega:min (8*(n:Y)).toNat 64=8*n)];rw[(by omega:((n:Y)+1).toNat=n+1)];rw[(by omega:((n:Y)).toNat=n)]at b;have f:(m:Y)*2^(8*n)<2^(8*(n+1)):=by
  have:(m*2^(8*n):U)<2^(8*(n+1)):=by rw[(by grind[Nat.mul_add,Nat.pow_add]:2^(8*(n+1))=256*2^(8*n))];exact Nat.mul_lt_mul_of_pos_right o! (Nat.pow_pos g!)
  exact_mod_cast this
 have l:(2:Y)^(8*(n+1))<=2^64:=by have:(2^(8*(n+1)):U)<=2^64:=fo g! o!;exact_mod_cast this
 have j:(0:Y)<=(m:Y)*2^(8*n):=by
  have:(0:Y)<=((m*2^(8*n):U):Y):=o!
  exact_mod_cast this
 rw[(by rw[Xe];omega:ι .u64 ((m:Y)*2^(8*n))=(m:Y)*2^(8*n))];have⟨q1,q2⟩:=AFT (k:=8*(n+1)) c (by grind[Nat.pow_le_pow_right]) j f o!;grind[π,Xe]
def be{x:Bd×Y×Y}{s:Y×Y}(h:0<=s.2/\s.2<=x.2.2/\x.2.2<=8/\0<=x.2.1/\x.2.1+x.2.2<=W x.1/\W x.1<=1099511627776/\0<=s.1/\s.1<2^(8*s.2.toNat)):An (Ai (Gl x) s) λr=>0<=r/\r<2^(8*x.2.2.toNat):=by
 refine AW (λs=>0<=s.2/\s.2<=x.2.2/\x.2.2<=8/\0<=x.2.1/\x.2.1+x.2.2<=W x.1/\W x.1<=1099511627776/\0<=s.1/\s.1<2^(8*s.2.toNat)) (λs=>(x.2.2-s.2).toNat) h (λs n=>?_);unfold Gl;have⟨d,q,f,g,j,k,l,m⟩:=n;repeat' with_reducible first|intro o|apply AC|apply AK|apply AB|apply bd|(refine AM ?_ (Ru ?_ ?_);rintro r ⟨hr,p⟩)
 all_goals try (have t:=tW (wi (8*s.2));omega)
 all_goals (first|(have⟨b,c⟩:=zf (a:=s.1) (v:=r) (i:=s.2) d o! l m hr p;have e:=AY (x:=s.2+1);exact⟨⟨o!,o!,f,g,j,k,b,c⟩,d!⟩)|skip)
 all_goals exact l!
def Cp{x:Bd×Y×Y}(h:x.1.length<=1099511627776):An (A2 x) λr=>r.2=0->0<=x.2.1/\x.2.1+x.2.2<=x.1.length/\(x.2.2<=4->0<=r.1/\r.1<4294967296)/\(x.2.2<=2->r.1<65536):=by
 unfold A2;repeat' with_reducible first|apply AC<;>intro c|apply AK<;>intro c|apply AB|(refine AM ?_ (be ?_);intro r hr)
 all_goals dsimp[len]at*
 all_goals first
  |omega
  |(intro d;exact absurd d (by decide))
  |(have e:=AY (x:=(x.1.length:Y)-x.2.1);exact⟨by omega,by omega,by omega,by omega,by omega,h,by omega,by simp⟩)
  |(intro _;have e:=AY (x:=(x.1.length:Y)-x.2.1);refine⟨by omega,by omega,λb=>?_,λa=>?_⟩;(have:=ACe b;rw[AY];omega);(have:=AHa a;rw[AY];omega))
def bh  {s:Y×Y}(h:0<=s.2/\s.2<=8):An (Ai (IU) s) λr=>True:=by
 refine AW (λs=>0<=s.2/\s.2<=8) (λs=>(8-s.2).toNat) h (λs b=>?_);unfold IU;exact x!
def bg{x:Bd}{s:Y×Y}(h:0<=s.2/\s.2<=θ x/\θ x<=1099511627776):An (Ai (IT x) s) λr=>True:=by
 refine AW (λ(s:Y×Y)=>0<=s.2/\s.2<=θ x/\θ x<=1099511627776) (λ(s:Y×Y)=>((θ x:Y)-s.2).toNat) h (λs b=>?_);unfold IT;exact x!
def QY{x:Bd}(h:W x<=1099511627776):An (FJ x) λr=>True:=by
 unfold FJ;exact x!
theorem Ua{x}:An (Dj x) λr=>W r<=8408:=by
 unfold Dj;repeat' with_reducible first|intro a|apply AC|apply AK|apply AB|(refine AM ?_ (Dk ?_);intro r hr)|(refine AM ?_ (QY ?_);intro r hr)|(refine AM ?_ (CN ?_);rintro r ⟨hr,b⟩)
 all_goals dsimp[len]at*
 all_goals exact l!
theorem SE{x:Bd×Y}(h:W x.1<=1099511627776):An (Bk x) λr=>r.2.2=0->W r.1<=8392/\x.2+8+W r.1=r.2.1/\0<=x.2/\r.2.1<=W x.1:=by
 unfold Bk;repeat' with_reducible first|intro a|apply AC|apply AL|apply AK|apply AB|(refine AM ?_ (Cp ?_);intro r hr)|(refine AM ?_ (QY ?_);intro r hr)|(refine AM ?_ (CW ?_ ?_ ?_);rintro r ⟨hr,b⟩)
 all_goals dsimp[len]at*
 all_goals exact l!
def iN{x:Bd×Cj}(h:W x.1<=1099511627776)(b:W x.2.2<=16777216):An (GV x) λr=>W r<=W x.1+8+W x.2.2:=by
 unfold GV;exact x!
def Vy.lens{x}(h:Vy x):W x.2.2.2.2.2.2.1.2.2.1.2<=12/\W x.2.2.2.2.2.2.1.2.2.2.2<=12/\W x.2.2.2.2.2.2.2<=8192:=by grind[Vy,PJ,HA,Qj]
theorem bn{x}:An (Fk x) λr=>W r.1<=8400:=by
 unfold Fk;repeat' with_reducible first|intro a|apply AP|apply AK|apply AB|(apply AA (Cc);intro r hr)|(refine AM ?_ (Dk ?_);intro r hr)|(refine AM ?_ (iN ?_ ?_);intro r hr)|(refine AM ?_ (CN ?_);rintro r ⟨hr,b⟩)
 all_goals try (have c:=(Vy.lens (x:=x) (by unfold MZ at*;grind)))
 all_goals exact l!
def AHR(k:U):(0:Y)<256^k:=by have:0<256^k:=Nat.pow_pos g!;grind
def AKc(b k:U):(b:Y)*256^k=((b*256^k:U):Y):=k!
def C4(n:Y):U->Bd
 |0=>[]
 |k+1=>UInt8.ofNat (n%256).toNat::C4 (n/256) k
def pd:Bd->U
 |[]=>0
 |b::r=>b.toNat+256*pd r
theorem Az:∀k n,(C4 n k).length=k
 |0,n=>rfl
 |k+1,n=>by rw[C4,Bh,Az k]
theorem u6:∀l:Bd,pd l<256^W l
 |[]=>by simp[pd]
 |b::r=>by have a:=u6 r;have c:=b.toNat_lt;grind[pd,List.length_cons,Nat.pow_succ]
def ACa:∀l:Bd,C4 (pd l:Y) (W l)=l
 |[]=>rfl
 |b::r=>by have a:=b.toNat_lt;rw[Bh,C4,(by rw[pd];omega:((pd (b::r):U):Y)/256=(pd r:Y)),(by rw[pd];omega:(((pd (b::r):U):Y)%256).toNat=b.toNat),ACa r];simp
def wu:∀(k:U)(n m:Y),n%256^k=m%256^k->C4 n k=C4 m k
 |0,_,_,_=>rfl
 |k+1,n,m,h=>by
  have e:(256:Y)^(k+1)=256^k*256:=Int.pow_succ ..;have b:n%256=m%256:=by have a:n%256^(k+1)%256=n%256:=Int.emod_emod_of_dvd n ⟨256^k,by rw[e,Int.mul_comm]⟩;simp_all
  have c:n/256%256^k=m/256%256^k:=by
   have g:∀x:Y,x/256%256^k=x%256^(k+1)/256:=λx=>by have d:=qI (x/256) (256^k);have f:=qI x (256*256^k);grind[Int.ediv_ediv_of_nonneg]
   grind
  rw[C4,C4,b,wu k _ _ c]
def u5:∀(k:U)n,C4 n (k+1)=C4 n k++[UInt8.ofNat (n/256^k%256).toNat]
 |0,n=>by simp[C4]
 |k+1,n=>by rw[C4,u5 k (n/256),C4];grind[Int.pow_succ,Int.mul_comm,Int.ediv_ediv_of_nonneg]
theorem tQ:∀k n,((pd (C4 n k):U):Y)=n%256^k
 |0,n=>by simp[C4,pd]
 |k+1,n=>by
  rw[C4,pd];have b:(UInt8.ofNat (n%256).toNat).toNat=(n%256).toNat:=by grind[UInt8.toNat_ofNat']
  have c:=tQ k (n/256);have a:=qI (n/256) (256^k);grind[Int.mul_ediv_add_emod,Int.ediv_ediv_of_nonneg]
theorem u7:∀(l:Bd)(b:UInt8),pd (l++[b])=pd l+b.toNat*256^W l
 |[],b=>by simp[pd]
 |a::r,b=>by rw[EW,pd,u7 r b,pd,Bh,Nat.pow_succ,Nat.mul_add];grind
def ck(k:U)(n:Y):Prop:=(k<=7->0<=n/\n<256^k)/\ -9223372036854775808<=n/\n<=9223372036854775807
theorem YU{k:U}(f:k<=8){n m}(hn:ck k n)(d:ck k m)(h:C4 n k=C4 m k):n=m:=by
 have e:=tQ k n;rw[h,tQ k m]at e;by_cases c:k<=7;have a:=hn.1 c;have b:=d.1 c;grind[Int.emod_eq_of_lt];have:k=8:=o!
 have a:=hn.2;have b:=d.2;grind
def rd(l:Bd):Y:=wi (pd l:Y)
def AKd{k:U}(h:k<=7):(256:Y)^k<=72057594037927936:=by
 have:k=0\/k=1\/k=2\/k=3\/k=4\/k=5\/k=6\/k=7:=o!
 grind
theorem ABe{l:Bd}(h:W l<=8):ck (W l) (rd l):=by have b:=u6 l;have d:rd l=((pd l:Y)+9223372036854775808)%18446744073709551616-9223372036854775808:=AGE _;refine⟨λa=>?_,o!⟩;have c:=AKd a;grind
theorem yG{l:Bd}(h:W l<=8):C4 (rd l) (W l)=l:=by
 rw[show C4 (rd l) (W l)=C4 (pd l:Y) (W l) from ?_,ACa];apply wu;by_cases a:W l<=7;have c:=AKd a;have b:(pd l:Y)<256^W l:=by grind[u6]
 have:rd l=(pd l:Y):=by unfold rd;exact AY
 rw[this];have:W l=8:=o!
 rw[this,show(256:Y)^8=18446744073709551616 by decide];unfold rd;rw[AGE];omega
theorem rV{k:U}{n}(a:k<=8)(h:ck k n):rd (C4 n k)=n:=by grind[Az,YU,ABe,C4,yG]
def ABa(k:U):(2:Y)^(8*k)=256^k:=by grind[Int.pow_mul]
def AFg{n:Y}{i:Y}(c:0<=i)(d:i<8):E7 ([ι .u8 (Int.fdiv (ι .u64 n) (2^(min (ο (ι .u64 (wi (8*i)))) 64)))]:S Y)=[UInt8.ofNat (n/256^ο i%256).toNat]:=by
 have a:wi (8*i)=8*i:=AY;have b:ι .u64 (8*i)=8*i:=by rw[Xe];omega
 rw[a,b,show min (8*i).toNat 64=8*ο i by omega,ABa];have e:=AHR (ο i)
 rw[mF _ o!,Xe,AH6];have:n%18446744073709551616/256^ο i%256=n/256^ο i%256:=by
  have:ο i=0\/ο i=1\/ο i=2\/ο i=3\/ο i=4\/ο i=5\/ο i=6\/ο i=7:=o!
  rcases this with h|h|h|h|h|h|h|h<;>rw[h];rw[show(256:Y)^0=1 by decide];omega;rw[show(256:Y)^1=256 by decide];omega;rw[show(256:Y)^2=65536 by decide];omega;rw[show(256:Y)^3=16777216 by decide];omega;rw[show(256:Y)^4=4294967296 by decide];omega;rw[show(256:Y)^5=1099511627776 by decide];omega;rw[show(256:Y)^6=281474976710656 by decide];omega;rw[show(256:Y)^7=72057594037927936 by decide];omega
 rw[this];rfl
theorem IE{s:Bd}{n:Y}{k:Y}(h:W s<=1099511627776)(i:1<=k)(j:k<=8):Ao (s,n,k)=Z (s++C4 n (ο k)):=by
 have key:An (Ai (Gm (s,n,k)) (s,0)) λr=>r=s++C4 n (ο k):=by refine AW (λt=>0<=t.2/\t.2<=k/\t.1=s++C4 n t.2.toNat) (λt=>(k-t.2).toNat) ⟨Ae _,d!,by simp[C4]⟩ ?_;rintro⟨l,a⟩ ⟨b,g,c⟩;dsimp only at b g c;subst c;unfold Gm;dsimp only;refine AC (λd=>?_) (λd=>AB (by rw[show a=k by omega]));refine AC (λe=>O! e (by have:=tW (wi (8*a));omega)) (λ_=>?_);rw[AFg b o!];refine AA (CN (by rw[Aa,Az];simp;omega)) λv f=>AB ?_;rw[(AY)];refine⟨⟨o!,o!,?_⟩,o!⟩;rw[f.1,show(a+1).toNat=a.toNat+1 by omega,u5,A3]
 obtain⟨r,hr,rfl⟩:=key;unfold Ao;grind
def AAY{a t:Bd}{i:Y}(c:0<=i)(d:i<W t)(e:(W a:Y)<=2199023255552)(f:(W t:Y)<=2199023255552):∃b:UInt8,six (a++t) (wi ((W a:Y)+i))=Z (b.toNat:Y)/\t.take (i+1).toNat=t.take (ο i)++[b]:=by obtain⟨k,rfl⟩:=EG c;refine⟨t[k],?_,?_⟩;grind[AY,six];simp_all
theorem AJP{a b k:U}(h:a<256^k)(f:b<256)(g:k<8):π (κ 64 (a:Y)|||κ 64 ((b:Y)*256^k))=a+b*256^k:=by
 have e:(256:U)^k=2^(8*k):=by rw[Nat.pow_mul]
 have d:a+b*256^k<256^(k+1):=by
  have:b*256^k+256^k<=256*256^k:=by rw[<-Nat.succ_mul];exact NW _ o!
  omega
 have c:(256:U)^(k+1)<=2^64:=by rw[show(2:U)^64=256^8 by decide];exact fo g! o!
 rw[AKc];rw[BitVec.toNat_or,cr,cr,cu,cu,Tt o!,Tt o!];grind[Nat.mul_comm,Nat.two_pow_add_eq_or_of_lt]
theorem ACS{a:U}{b:UInt8}{i:Y}(g:0<=i)(h:i<8)(k:a<256^ο i)(j:Y)(d:j=8*i):ι .u64 (((π ((κ 64 (a:Y))|||(κ 64 (ι .u64 ((ι .u64 (b.toNat:Y))*(2^(min (ο j) 64))))))):U):Y)=((a+b.toNat*256^ο i:U):Y):=by
 have l:=b.toNat_lt;have c:(256:U)^(ο i+1)<=2^64:=by rw[show(2:U)^64=256^8 by decide];exact fo g! o!
 have e:a+b.toNat*256^ο i<256^(ο i+1):=by
  have:b.toNat*256^ο i+256^ο i<=256*256^ο i:=by rw[<-Nat.succ_mul];exact NW _ o!
  omega
 rw[d,(by rw[Xe];omega:ι .u64 (b.toNat:Y)=b.toNat),show min (8*i).toNat 64=8*ο i by omega,ABa];have f:ι .u64 ((b.toNat:Y)*256^ο i)=(b.toNat:Y)*256^ο i:=by rw[Xe,AKc];omega
 grind[AJP,Xe]
theorem kH{a t:Bd}{k:Y}(h:(W a:Y)+W t<=2199023255552)(v:1<=k)(w:k<=8):A2 (a++t,(W a:Y),k)=if k<=W t then Z (rd (t.take (ο k)),0)else Z (0,5):=by
 unfold A2;dsimp only;have d:len (a++t)=(W a:Y)+W t:=by unfold len;rw[n?];omega
 rw[F! o!,A!,F! o!,A!,F! o!,A!,F! o!,A!];have q:wi (len (a++t)-(W a:Y))=W t:=by rw[d,AY];omega
 by_cases g:k<=W t;rw[F! o!,A!,C! g];have key:An (Ai (Gl (a++t,(W a:Y),k)) (0,0)) λr=>r=(pd (t.take (ο k)):Y):=by
  refine AW (λs=>0<=s.2/\s.2<=k/\s.1=(pd (t.take s.2.toNat):Y)) (λs=>(k-s.2).toNat) ⟨Ae _,d!,by simp[pd]⟩ ?_;rintro⟨x,c⟩ ⟨f,u,l⟩;dsimp only at f u l;subst l;unfold Gl;dsimp only;refine AC (λo=>?_) (λo=>AB (by rw[show c=k by omega]));obtain⟨b,q1,q2⟩:=AAY (a:=a) (t:=t) (i:=c) f o! o! o!;rw[q1,AD];refine AC (λp=>O! p (by have:=tW (wi (8*c));omega)) (y? ?_);have e:wi (c+1)=c+1:=AY;have m:wi (8*c)=8*c:=AY;have n:ι .u64 (8*c)=8*c:=by rw[Xe];omega
  have j:(t.take c.toNat).length=c.toNat:=by rw[BP];omega
  dsimp only;rw[e,ACS f o! (by have:=u6 (t.take c.toNat);rwa [j]at this) _ (by rw[m,n])];refine⟨⟨o!,o!,?_⟩,o!⟩;rw[q2,u7,j]
 obtain⟨r,hr,rfl⟩:=key;rw[hr];rfl;rw[G! o!,B!,D! g]
theorem YV{a t:Bd}{k:Y}(h:(W a:Y)+W t<=2199023255552)(p:1<=k)(q:k<=8):B0 (a++t,(W a:Y),k)=if k<=W t then Z (rd (t.take (ο k)),0)else Z (0,5):=by
 unfold B0;dsimp only;have f:len (a++t)=(W a:Y)+W t:=k!
 rw[F! o!,A!,F! o!,A!,F! o!,A!,F! o!,A!];have m:wi (len (a++t)-(W a:Y))=W t:=by grind[AY]
 by_cases l:k<=W t;rw[F! o!,A!,C! l];have key:An (Ai (VS (a++t,(W a:Y),k)) (0,0)) λr=>r=(pd (t.take (ο k)):Y):=by refine AW (λs=>0<=s.2/\s.2<=k/\s.1=(pd (t.take s.2.toNat):Y)) (λs=>(k-s.2).toNat) ⟨Ae _,d!,by simp[pd]⟩ ?_;rintro⟨u,c⟩ ⟨d,n,e⟩;dsimp only at d n e;subst e;unfold VS;dsimp only;refine AC (λg=>?_) (λg=>AB (by rw[show c=k by omega]));have⟨b,q1,q2⟩:=AAY (a:=a) (t:=t) (i:=c) d o! o! o!;have o:wi (8*c)=8*c:=AY;rw[q1,AD];refine AC (O! · o!) (y? ?_);grind[AY,ACS,u6,u7]
 obtain⟨r,hr,rfl⟩:=key;rw[hr];rfl;grind
def O8(x:Bd×Y×Y):V Bd:=
 bif τ (W x.1<=1099511627776)&&(τ (1<=x.2.2)&&τ (x.2.2<=8))then Z (x.1++C4 x.2.1 x.2.2.toNat)else D
def LN(x:Bd×Y):V Bd:=
 bif (x.1==[0])&&(τ (0<=x.2)&&τ (x.2<=8000))then Z (ς x.2.toNat 0)else D
def AHV(a b:AS):Bool:=(a.1==b.1)&&((a.2.1==b.2.1)&&(List.finRange 16).foldr (λi r=>((a.2.2 i).1==(b.2.2 i).1)&&(((a.2.2 i).2==(b.2.2 i).2)&&r)) E)
end Go.Pm
