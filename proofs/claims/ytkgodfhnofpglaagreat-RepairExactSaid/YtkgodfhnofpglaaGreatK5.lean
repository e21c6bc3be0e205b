/- Texts of wip, joined and shortened by wip/tools/pack.py; nothing is assumed. -/
import Derived.Test.YtkgodfhnofpglaaGreatK4
noncomputable section
set_option linter.all false
set_option maxHeartbeats 400000
open Option renaming some->D
open List renaming length->Z
open Go renaming Ψ->E
open Bool renaming false->X
open Bool renaming true->A
open Option renaming none->U
open Go renaming Ω->W
open Option renaming some->δ,none->ε
open Bool renaming true->ζ,false->η
open List renaming length->θ,replicate->ς
open Go.IntKind renaming wrap->ι
open BitVec renaming ofInt->κ,toNat->π
open Int renaming toNat->ο
open Decidable renaming decide->τ
open _root_ renaming Int->Y,Nat->V
namespace Go.Pm
open Go Go.Ab
def Fs(x:Cr):Prop:=Z x.2<=12/\(x.1=A\/x.2=[])
def Pe(x:CZ):Prop:=0<=x.1/\x.1<64/\0<=x.2.1/\x.2.1<16/\Fs x.2.2.1/\Fs x.2.2.2
def K8{x}:An (Dn x) λr=>r=A↔Fs x:=by
 unfold Dn Fs
 exact x!
def Ow{x}:An (JN x) λr=>r=A↔Pe x:=by
 unfold JN Pe
 exact x!
def Qu:CZ:=(0,0,(X,[]),X,[])
def SI(x:AE):Prop:=
 (x.2.1=1/\x.2.2.2.2.2.1=0/\x.2.2.2.2.2.2.2=[]/\1<=x.2.2.1/\x.2.2.1<=1073741824/\Pe x.2.2.2.2.2.2.1)\/
 (x.2.1=2/\0<x.2.2.2.1/\1<=x.2.2.2.2.2.1/\x.2.2.2.2.2.1<=x.2.2.2.1/\x.2.2.2.2.2.2.2=[]/\1<=x.2.2.1/\x.2.2.1<=1073741824/\Pe x.2.2.2.2.2.2.1)\/
 ((x.2.1=3\/x.2.1=4\/x.2.1=5)/\0<x.2.2.2.1/\x.2.2.2.2.1=0/\x.2.2.2.2.2.1=0/\x.2.2.2.2.2.2.1=Qu/\x.2.2.2.2.2.2.2=[]/\1<=x.2.2.1/\x.2.2.1<=1073741824)\/
 ((x.2.1=6\/x.2.1=8)/\x.2.2.1=0/\x.2.2.2.1=0/\x.2.2.2.2.1=0/\x.2.2.2.2.2.1=0/\x.2.2.2.2.2.2.1=Qu/\Z x.2.2.2.2.2.2.2<=8192)\/
 (x.2.1=7/\x.2.2.1=0/\x.2.2.2.1=0/\x.2.2.2.2.1=0/\0<=x.2.2.2.2.2.2.1.1/\x.2.2.2.2.2.2.1.1<64/\x.2.2.2.2.2.2.1.2=Qu.2/\x.2.2.2.2.2.2.2=[])
def KD(x:AE):Prop:=1<=x.1/\x.1<=1099511627776/\0<=x.2.2.2.1/\x.2.2.2.1<x.1/\0<=x.2.2.2.2.1/\x.2.2.2.2.1<x.1/\0<=x.2.2.2.2.2.1/\x.2.2.2.2.2.1<x.1/\SI x
def ba{x}:An (G5 x) λr=>r=A↔0<=x.1/\x.1<x.2:=by
 unfold G5;exact x!
def eP{x:AE}:An (MP x) λr=>(r.2=true/\r.1=x)↔SI x:=by
 obtain⟨a,b,c,d,e,f,⟨g,h,⟨i,j⟩,k,l⟩,m⟩:=x;unfold MP SI Qu;dsimp only
 repeat' first
   |with_reducible apply AC<;>intro n
   |with_reducible apply AQ<;>intro n
   |with_reducible apply AM<;>intro n
   |(with_reducible apply BJ;try dsimp only)
   |with_reducible apply Bk
   |with_reducible apply B7
   |with_reducible apply AB
   |(with_reducible apply AA (Ow);intro r hr)
 all_goals grind
def CY{x:AE}:An (C1 x) λr=>r=true↔KD x:=by
 unfold C1;refine AA eP λn A_=>?_;have e:((n.1.1==x.1)&&((n.1.2.1==x.2.1)&&((n.1.2.2.1==x.2.2.1)&&((n.1.2.2.2.1==x.2.2.2.1)&&((n.1.2.2.2.2.1==x.2.2.2.2.1)&&((n.1.2.2.2.2.2.1==x.2.2.2.2.2.1)&&((n.1.2.2.2.2.2.2.1.1==x.2.2.2.2.2.2.1.1)&&((n.1.2.2.2.2.2.2.1.2.1==x.2.2.2.2.2.2.1.2.1)&&((n.1.2.2.2.2.2.2.1.2.2.1.1==x.2.2.2.2.2.2.1.2.2.1.1)&&((n.1.2.2.2.2.2.2.1.2.2.1.2==x.2.2.2.2.2.2.1.2.2.1.2)&&((n.1.2.2.2.2.2.2.1.2.2.2.1==x.2.2.2.2.2.2.1.2.2.2.1)&&((n.1.2.2.2.2.2.2.1.2.2.2.2==x.2.2.2.2.2.2.1.2.2.2.2)&&((n.1.2.2.2.2.2.2.2==x.2.2.2.2.2.2.2)&&true)))))))))))))=true↔n.1=x:=by obtain⟨⟨a,b,c,d,e,f,⟨g,h,⟨i,j⟩,k,l⟩,m⟩,z⟩:=n;obtain⟨p,q,s,t,u,v,⟨w,y,⟨B,C⟩,D_,E⟩,F⟩:=x;simp[and_assoc]
 generalize ((n.1.1==x.1)&&_)=bb at e⊢;unfold KD
 repeat' first
   |with_reducible apply AC<;>intro o
   |with_reducible apply AQ<;>intro o
   |with_reducible apply AM<;>intro o
   |(with_reducible apply BJ;try dsimp only)
   |with_reducible apply Bk
   |with_reducible apply B7
   |with_reducible apply AB
   |(with_reducible apply AA (ba);intro r hr)
 all_goals grind
def E2{x}:An (Ct x) λr=>r=wi (wi (x.1+len x.2.1)-1):=by
 unfold Ct;exact x!
def Dc(x:Ad):Prop:=1<=x.1/\x.1<=1099511627776/\Z x.2.1<=4096/\x.1-1<=x.2.2/\x.2.2<=x.1+Z x.2.1-1/\∀(i:V)(e:AE),x.2.1[i]?=D e->e.1=x.1+i/\KD e
def Y5{x:Ad}{s:Int}(h:0<=s/\s<=θ x.2.1/\θ x.2.1<=4096/\1<=x.1/\x.1<=1099511627776/\∀(i:Nat)(e:AE),i<s->x.2.1[i]?=δ e->e.1=x.1+i/\KD e):An (Ak (N3 x) s) λr=>(r=.inl η/\¬Dc x)\/(r=.inr ()/\∀(i:Nat)(e:AE),x.2.1[i]?=δ e->e.1=x.1+i/\KD e):=by
 refine AY (λ(s:Int)=>0<=s/\s<=θ x.2.1/\θ x.2.1<=4096/\1<=x.1/\x.1<=1099511627776/\∀(i:Nat)(e:AE),i<s->x.2.1[i]?=δ e->e.1=x.1+i/\KD e) (λ(s:Int)=>((θ x.2.1:Int)-s).toNat) h (λs b=>?_);unfold N3;obtain⟨c,d,f,g,j,k⟩:=b;exact x!
theorem BZ{x}:An (By x) λr=>r=A↔Dc x:=by
 unfold By;exact x!
def Eb(x:AT):Prop:=0<=x.1/\x.1<64/\0<=x.2.1/\x.2.1<=1099511627776/\∀i,Fs (x.2.2 i)/\(x.2.1=0->(x.2.2 i).1=X)
def JB{x}:An (ID x) λr=>r=A↔0<=x.1/\x.1<64/\0<=x.2.1/\x.2.1<=1099511627776:=by
 unfold ID;exact x!
def Y1{x:AT}{s:Y}(h:0<=s/\s<=16/\∀i:Fin 16,(i.val:Y)<s->Fs (x.2.2 i)/\(x.2.1=0->(x.2.2 i).1=X)):An (Ak (Nv x) s) λr=>(r=.inl X/\¬ ∀i,Fs (x.2.2 i)/\(x.2.1=0->(x.2.2 i).1=X))\/(r=.inr ()/\∀i,Fs (x.2.2 i)/\(x.2.1=0->(x.2.2 i).1=X)):=by
 refine AY (λs=>0<=s/\s<=16/\∀i:Fin 16,(i.val:Y)<s->Fs (x.2.2 i)/\(x.2.1=0->(x.2.2 i).1=X)) (λs=>(16-s).toNat) h (λs b=>?_);unfold Nv;exact x!
def KX{x}:An (JM x) λr=>r=A↔∀i,Fs (x.2.2 i)/\(x.2.1=0->(x.2.2 i).1=X):=by
 unfold JM;exact x!
def eK{x}:An (MM x) λr=>r=A↔Eb x:=by
 unfold MM Eb
 exact x!
def Ov{x}:An (Cm x) λr=>r=0->Eb x:=by
 unfold Cm Eb
 exact x!
def pk(f:BK):Prop:=Eb f.1/\(f.2.1=A->1<=f.2.2.1/\f.2.2.1<=f.1.2.1)/\(f.2.1=X->f.2.2.1=0)
def K2(l:E BK)(n:Y):Prop:=(∀(i:V)(f:BK),i<n->l[i]?=D f->pk f)/\∀(i j:V)(f g:BK),i<j->j<n->l[i]?=D f->l[j]?=D g->f.1.1≠g.1.1
def QJ(x:B4):Prop:=1<=x.1/\x.1<=64/\Z x.2.1<=x.1/\0<=x.2.2/\(Z x.2.1=0/\x.2.2=0\/x.2.2<Z x.2.1)/\K2 x.2.1 (Z x.2.1)
theorem K2.step{l}{n:Y}{f:BK}(e:0<=n)(h:K2 l n)(o:l[ο n]?=D f)(r:pk f)(m:∀(j:V)(g:BK),j<n->l[j]?=D g->g.1.1≠f.1.1):K2 l (n+1):=by
 refine⟨λi g p b=>?_,λi j g k c q b d=>?_⟩;rcases cU i n with a|a;exact h.1 i g a b;grind;rcases cU j n with a|a;exact h.2 i j g k c a b d;have:j=ο n:=o!
 grind
theorem qX{l:E BK}{n:Y}{f:BK}(c:0<=n)(d:n<Z l)(a:l[ο n]?=D f)(b:¬pk f):¬K2 l (Z l):=λh=>b (h.1 (ο n) f o! a)
theorem qY{l:E BK}{n:Y}{f:BK}(e:0<=n)(i:n<Z l)(d:l[ο n]?=D f)(c:∃(j:V)(g:BK),j<n/\l[j]?=D g/\g.1.1=f.1.1):¬K2 l (Z l):=λh=>by have⟨j,g,k,a,b⟩:=c;exact h.2 j (ο n) g f o! o! a d b
def Iq{x:B4}{a:Y}{b:BK}{s:Y}(h:0<=s/\s<=a/\a<=Z x.2.1/\(Z x.2.1:Y)<=16777216/\∀(j:V)(g:BK),j<s->x.2.1[j]?=D g->g.1.1≠b.1.1):An (Ak (GM x a b) s) λr=>(r=.inl X/\∃(j:V)(g:BK),j<a/\x.2.1[j]?=D g/\g.1.1=b.1.1)\/(r=.inr ()/\∀(j:V)(g:BK),j<a->x.2.1[j]?=D g->g.1.1≠b.1.1):=by
 refine AY (λs=>0<=s/\s<=a/\a<=Z x.2.1/\(Z x.2.1:Y)<=16777216/\∀(j:V)(g:BK),j<s->x.2.1[j]?=D g->g.1.1≠b.1.1) (λs=>(a-s).toNat) h (λs d=>?_);unfold GM;exact x!
def ZA{x:B4}{s:Int}(h:0<=s/\s<=θ x.2.1/\(θ x.2.1:Int)<=16777216/\K2 x.2.1 s):An (Ak (N8 x) s) λr=>(r=.inl η/\¬K2 x.2.1 (θ x.2.1))\/(r=.inr ()/\K2 x.2.1 (θ x.2.1)):=by
 refine AY (λ(s:Int)=>0<=s/\s<=θ x.2.1/\(θ x.2.1:Int)<=16777216/\K2 x.2.1 s) (λ(s:Int)=>((θ x.2.1:Int)-s).toNat) h (λs d=>?_);unfold N8;repeat' with_reducible first|intro a|apply AC|apply AP|apply AK|apply AM|(apply BC;try dsimp only)|(apply A3;try dsimp only)|(apply BA<;>(intro u c;try subst c))|apply AB|(apply AA (eK);intro r hr)|(refine AO ?_ (Iq ?_);intro r hr)|(refine AO ?_ (Iq ?_);intro r hr)|(refine AO ?_ (Iq ?_);intro r hr)|(refine AO ?_ (Iq ?_);intro r hr)|(refine AO ?_ (AI ?_ ?_);rintro r ⟨hr,f⟩)
 all_goals try (have e:=Aa (x:=s+1))
 all_goals first|omega|(exact⟨o!,o!,o!,o!,λj g b=>O! b o!⟩)|grind[K2.step,qX,qY,pk]
def K2.zero(l:E BK):K2 l 0:=⟨λi f h=>O! h o!,λi j f g h a=>O! a o!⟩
def AKC(n h:Y)(a:0<=n)(b:n<=64):(h>if wi (n-1)>0 then wi (n-1)else 0)↔¬(n=0/\h<=0\/h<n):=by grind[Aa]
def Ei{x}:An (Dr x) λr=>r=A↔QJ x:=by
 unfold Dr QJ
 repeat' first
   |with_reducible apply AC<;>intro b
   |(with_reducible apply BA<;>(intro u a;try subst a))
   |with_reducible apply AB
   |(with_reducible refine AO ?_ (ZA ?_);intro r hr)
 all_goals try dsimp[len]at*
 all_goals first
  |(exact⟨o!,o!,o!,K2.zero _⟩)
  |(have c:=AKC (Z x.2.1) x.2.2 o! o!;grind)
  |grind
def O2{x}:An (Ha x) λr=>True:=by
 unfold Ha;exact x!
def Vb{x}:An (Fx x) λr=>True:=by
 unfold Fx;exact x!
def Gn{x}:An (EW x) λr=>True:=by
 unfold EW;exact x!
def Zv{x:BB×Int×C3}{s:Int}(h:0<=s/\s<=θ x.1.1/\(θ x.1.1:Int)<=16777216):An (Ak (O5 x) s) λr=>True:=by
 refine AY (λ(s:Int)=>0<=s/\s<=θ x.1.1/\(θ x.1.1:Int)<=16777216) (λ(s:Int)=>((θ x.1.1:Int)-s).toNat) h (λs b=>?_);unfold O5;exact x!
def Ip{x:BB×Y×C3}(h:Z x.1.1<=16777216):An (EX x) λr=>True:=by
 unfold EX;exact x!
def Gi(x:BB):Prop:=Z x.1<=16777216/\Z x.2<=16777216
def Rc{x:BB}{a:Y}{s:Y}(h:s<a/\ -1<=s/\0<=a/\a<Z x.1/\Z x.1<=16777216):An (Ak (Jn x a) s) λr=>r≠.inl A:=by
 refine AY (λs=>s<a/\ -1<=s/\0<=a/\a<Z x.1/\Z x.1<=16777216) (λs=>(s+1).toNat) h (λs c=>?_);unfold Jn;exact x!
def Y6{x:BB}{s:Int}(h:0<=s/\s<=θ x.1/\(θ x.1:Int)<=16777216):An (Ak (N4 x) s) λr=>r≠.inl ζ:=by
 refine AY (λ(s:Int)=>0<=s/\s<=θ x.1/\(θ x.1:Int)<=16777216) (λ(s:Int)=>((θ x.1:Int)-s).toNat) h (λs c=>?_);unfold N4;exact x!
def Y8{x:BB}{a:Y}{b}{s:Y}(h:0<=s/\s<=a/\(a:Y)<=16777216/\a<=Z x.2):An (Ak (N6 x a b) s) λr=>r≠.inl A:=by
 refine AY (λs=>0<=s/\s<=a/\(a:Y)<=16777216/\a<=Z x.2) (λs=>((a:Y)-s).toNat) h (λs d=>?_);unfold N6;exact x!
def Y7{x:BB}{s:Int}(h:0<=s/\s<=θ x.2/\(θ x.2:Int)<=16777216/\θ x.1<=16777216):An (Ak (N5 x) s) λr=>r≠.inl ζ:=by
 refine AY (λ(s:Int)=>0<=s/\s<=θ x.2/\(θ x.2:Int)<=16777216/\θ x.1<=16777216) (λ(s:Int)=>((θ x.2:Int)-s).toNat) h (λs c=>?_);unfold N5;exact x!
def aa(x:BB):Prop:=Z x.1+Z x.2<=1024
def Fi{x}(h:Gi x):An (EG x) λr=>r=A->aa x:=by
 unfold EG aa;unfold Gi at h
 exact x!
def VTx(x:Ar):Prop:=Z x.2.2.2.2.1<=4096/\Z x.2.2.2.2.2<=8/\1<=x.1
def Zd(x:E Ar):Prop:=Z x<=64/\∀(i:V)(t:Ar),x[i]?=D t->VTx t
def Re{x:Ar}{s:Int}(h:0<=s/\s<=θ x.2.2.2.2.1/\(θ x.2.2.2.2.1:Int)<=16777216):An (Ak (Jr x) s) λr=>r≠.inl ζ:=by
 refine AY (λ(s:Int)=>0<=s/\s<=θ x.2.2.2.2.1/\(θ x.2.2.2.2.1:Int)<=16777216) (λ(s:Int)=>((θ x.2.2.2.2.1:Int)-s).toNat) h (λs b=>?_);unfold Jr;exact x!
def Rf{x:Ar}{s:Int}(h:0<=s/\s<=θ x.2.2.2.2.2/\(θ x.2.2.2.2.2:Int)<=16777216):An (Ak (Js x) s) λr=>r≠.inl ζ:=by
 refine AY (λ(s:Int)=>0<=s/\s<=θ x.2.2.2.2.2/\(θ x.2.2.2.2.2:Int)<=16777216) (λ(s:Int)=>((θ x.2.2.2.2.2:Int)-s).toNat) h (λs b=>?_);unfold Js;exact x!
def eX{x}:An (MY x) λr=>r=A->VTx x:=by
 unfold MY VTx
 exact x!
def ZD{x:List Ar}{s:Int}(h:0<=s/\s<=θ x/\(θ x:Int)<=16777216/\∀(i:Nat)(t:Ar),i<s->x[i]?=δ t->VTx t):An (Ak (OA x) s) λr=>r=.inl η\/(r=.inr ()/\∀(i:Nat)(t:Ar),x[i]?=δ t->VTx t):=by
 refine AY (λ(s:Int)=>0<=s/\s<=θ x/\(θ x:Int)<=16777216/\∀(i:Nat)(t:Ar),i<s->x[i]?=δ t->VTx t) (λ(s:Int)=>((θ x:Int)-s).toNat) h (λs b=>?_);unfold OA;exact x!
def ED{x}:An (EI x) λr=>r=A->Zd x:=by
 unfold EI Zd
 exact x!
def nO(x:Bz):Prop:=1<=Z x/\Z x<=64
def jm{x}:An (HH x) λr=>True:=by
 unfold HH;exact x!
def ZB{x:Bz}{s:Int}(h:0<=s/\s<=θ x/\(θ x:Int)<=16777216):An (Ak (Jp x) s) λr=>r≠.inl ζ:=by
 refine AY (λ(s:Int)=>0<=s/\s<=θ x/\(θ x:Int)<=16777216) (λ(s:Int)=>((θ x:Int)-s).toNat) h (λs b=>?_);unfold Jp;exact x!
def Gd{x}:An (EH x) λr=>r=A->nO x:=by
 unfold EH nO
 exact x!
def Vw{x:List Al×Int}{s:Int}(h:0<=s/\s<=θ x.1/\(θ x.1:Int)<=16777216):An (Ak (HQ x) s) λr=>r≠.inl ζ:=by
 refine AY (λ(s:Int)=>0<=s/\s<=θ x.1/\(θ x.1:Int)<=16777216) (λ(s:Int)=>((θ x.1:Int)-s).toNat) h (λs b=>?_);unfold HQ;exact x!
def QY{x:E Al×Y}(h:Z x.1<=16777216):An (Fk x) λr=>True:=by
 unfold Fk;exact x!
theorem Ce{b:Type}{l:E b}{i:V}{a:b}(h:l[i]?=D a):i<Z l:=q!
def dr(p:Y)(e:AE):Bool:=((e.2.1==1)||(e.2.1==2))&&(e.2.2.2.2.2.2.1.1==p)
def Bn(L:E AE)(p:Y):Y:=L.foldl (λa e=>if dr p e then e.1 else a) 0
theorem QG(L:E AE)(e:AE)(p:Y):Bn (L++[e]) p=if dr p e then e.1 else Bn L p:=by simp[Bn,YU,YV,List.foldl_nil]
def upd(x:AT)(e:AE):AT:=(x.1,e.1,W6 x.2.2 e.2.2.2.2.2.2.1.2.1 e.2.2.2.2.2.2.1.2.2.2)
def st(L:E AE)(p:Y):AT:=(L.filter (dr p)).foldl upd (p,0,Ge.all (X,[]))
def ACW(L M:E AE)(p:Y):st (L++M) p=(M.filter (dr p)).foldl upd (st L p):=by unfold st;rw[Gx,YU]
theorem ABd(L:E AE)(e:AE)(p:Y):st (L++[e]) p=if dr p e then upd (st L p) e else st L p:=by rw[ACW,UI,lq];split<;>rfl
def ADB(L:E AE)(x:AT):(L.foldl upd x).1=x.1:=by
 induction L generalizing x with
 |nil=>rfl
 |cons e L a=>exact a (upd x e)
theorem Rw(L:E AE)(p:Y):(st L p).1=p:=ADB _ _
theorem KB(L:E AE)(p:Y):(st L p).2.1=Bn L p:=by
 suffices h:∀(L:E AE)x,((L.filter (dr p)).foldl upd x).2.1=L.foldl (λa e=>if dr p e then e.1 else a) x.2.1 from h L _
 intro L;induction L with
 |nil=>exact λx=>rfl
 |cons e L b=>intro x;rw[UI,YV];split;exact b (upd x e);exact b x
def yX(n:Y)(L:E AE)(D:E Al)(R:E Bb):Prop:=
 ∀p,0<=p->p<n->(∀d∈D,d.1=p->d.2.2=Bn L p)/\∀r,R[p.toNat]?=δ r->r.1<=Bn L p/\((∀d∈D,d.1≠p)->r.1=Bn L p)
def KP(n:Y)(L:E AE)(F:E BK)(D:E Al)(R:E Bb):Prop:=
 ∀p,0<=p->p<n->(∀f∈F,f.1.1=p->f.1=st L p)/\(∀d∈D,d.1=p->d.2.2=Bn L p)/\
  ∀r,R[p.toNat]?=δ r->r.1<=Bn L p/\((∀d∈D,d.1≠p)->(∀f∈F,f.1.1=p->f.2.1=X)->r.1=Bn L p)
def EOK(n:Y)(M:E AE)(e:AE):Prop:=
 (e.2.1=1\/e.2.1=2->e.2.2.2.2.1=Bn M e.2.2.2.2.2.2.1.1/\HF (st M e.2.2.2.2.2.2.1.1).2.2 e.2.2.2.2.2.2.1.2.1=D e.2.2.2.2.2.2.1.2.2.1/\e.2.2.2.2.2.2.1.1<n)/\(e.2.1=7->e.2.2.2.2.2.1=Bn M e.2.2.2.2.2.2.1.1)/\
  (e.2.1=6->∀c,DZ e.2.2.2.2.2.2.2=D (c,0)->c.1=n->yX n M c.2.2.2.1 c.2.2.2.2)/\e.2.1≠8
def LI(n:Y)(L:E AE):Prop:=∀(i:V)(e:AE),L[i]?=D e->EOK n (L.take i) e
def LI.nil(n:Y):LI n []:=λi e h=>by simp at h
def LI.app{n}{L}{e}(h:LI n L)(c:EOK n L e):LI n (L++[e]):=by intro i f b;rcases RP i (Z L)with a|a|a;rw[Cb a]at b;rw[fe o!];exact h i f b;grind;grind[u?]
def LI.pre{n}{L T:E AE}(h:LI n (L++T)):LI n L:=by intro i f a;have:=h i f q!;grind
def FD(B:Y->Prop)(n:Y)(F:E BK)(D:E Al):Prop:=∀f∈F,0<=f.1.1/\f.1.1<n/\(∀d∈D,d.1≠f.1.1)/\B f.1.1
variable {B:Int->Prop}
def KI(B:Y->Prop)(k:AU):Prop:=LI k.1 k.2.2.1.2.1/\KP k.1 k.2.2.1.2.1 k.2.2.2.1.2.1 k.2.2.2.2.2.2.2 k.2.2.2.2.2.2.1/\FD B k.1 k.2.2.2.1.2.1 k.2.2.2.2.2.2.2
def FD.sub{n}{F G:E BK}{D_}(h:FD B n F D_)(a:∀g∈G,∃f∈F,f.1.1=g.1.1/\f.1=g.1):FD B n G D_:=by intro g c;have⟨f,b,e,_⟩:=a g c;rw[<-e];exact h f b
def pE{p b:Y}:∀(L:E AE)(a:Y),a<b->(∀e∈L,e.1<b)->L.foldl (λa e=>if dr p e then e.1 else a) a<b
 |[],a,ha,_=>ha
 |e::L,a,ha,h=>by refine pE L _ ?_ λf c=>h f (CU _ c);show(if dr p e=A then e.1 else a)<b;split;exact h e Gj;exact ha
def mI{l}(h:Dc l)(p:Y):Bn l.2.1 p<l.1+Z l.2.1:=by have⟨a,_,_,_,_,b⟩:=h;refine pE _ _ o! λe c=>?_;grind[List.getElem?_of_mem]
def KP.app{n}{L}{F}{D}{R}{e:AE}(h:KP n L F D R)(c:e.2.1≠1/\e.2.1≠2):KP n (L++[e]) F D R:=by intro p a b;rw[(by grind[QG,dr]:Bn (L++[e]) p=Bn L p),(by grind[ABd,dr]:st (L++[e]) p=st L p)];exact h p a b
def KP.frames{n:Y}{L:E AE}{F G:E BK}{D_:E Al}{R:E Bb}(h:KP n L F D_ R)
  (m:∀g∈G,∃f∈F,f.1.1=g.1.1/\f.1=g.1) (o:∀f∈F,f.2.1=A->∃g∈G,g.1.1=f.1.1/\g.2.1=A):KP n L G D_ R:=by
 intro p w x;obtain⟨a,b,c⟩:=h p w x;refine⟨λg v e=>?_,b,λr hr=>⟨(c r hr).1,λt u=>(c r hr).2 t λf d e=>?_⟩⟩;obtain⟨f,d,j,k⟩:=m g v;rw[<-k];exact a f d (j.trans e);cases s:f.2.1 with
 |false=>rfl
 |true=>obtain⟨g,q,l,i⟩:=o f d s;rw[u g q (l.trans e)]at i;cases i
def KP.written{n:Y}{L:E AE}{F G:E BK}{D_:E Al}{R:E Bb}{q d:Y}{w:Bb}(h:KP n L F D_ R)(B:0≤q)(A_:d=Bn L q)(C:q<n)
  (s:∀g∈G,∃f∈F,f.1.1=g.1.1/\f.1=g.1) (t:∀f∈F,f.1.1≠q->f∈G) (l:R[ο q]?=D w):
  KP n L G D_ (R.set (ο q) ((if d>w.1 then d else w.1),w.2)):=by
 intro p y z;obtain⟨a,b,c⟩:=h p y z;refine⟨λg x e=>?_,b,λr hr=>?_⟩;obtain⟨f,i,m,o⟩:=s g x;rw[<-o];exact a f i (m.trans e);by_cases k:p=q;subst k;have j:p.toNat<Z R:=by rcases A1 p.toNat (Z R)with h|h;exact h;rw[Cz h]at l;cases l
 rw[HU j]at hr;have:=(c w l).1;have e:r.1=Bn L p:=by rw[<-BL hr];dsimp only;split<;>omega
 exact⟨o!,λ_ _=>e⟩;rw[Dl o!]at hr;refine⟨(c r hr).1,λu v=>(c r hr).2 u λf i e=>?_⟩;exact v f (t f i o!) e
def ACU{F:E BK}{i:V}{f n:BK}(a:F[i]?=D f)(hn:n.1=f.1):∀g∈F.set i n,∃f∈F,f.1.1=g.1.1/\f.1=g.1:=q!
def yQ{F:E BK}{i:V}{f n:BK}(c:F[i]?=D f):∀g∈F,g.1.1≠f.1.1->g∈F.set i n:=by intro g a b;have⟨j,d⟩:=Dk a;apply BP (i:=j);grind
def KP.change{n:Y}{L:Ψ AE}{F:Ψ BK}{D_:Ψ Al}{R:Ψ Bb}{e:AE}{i:V}{f g:BK}(h:KP n L F D_ R)(G:FD B n F D_)
  (t:e.2.1=1\/e.2.1=2) (u:F[i]?=D f) (I:f.1.1=e.2.2.2.2.2.2.1.1) (v:g.1=upd f.1 e) (y:g.2.1=A)
  (J:∀j k,F[j]?=D k->k.1.1=f.1.1->j=i) (H:Bn L f.1.1<e.1):KP n (L++[e]) (F.set i g) D_ R:=by
 have w:i<Z F:=by rcases A1 i (Z F)with h|h;exact h;rw[Cz h]at u;cases u
 have A_:g∈F.set i g:=BP (i:=i) (HU w);have C:g.1.1=f.1.1:=by rw[v];rfl
 intro p K M;obtain⟨a,b,c⟩:=h p K M;have E:dr p e=(f.1.1==p):=by rw[I];unfold dr;rcases t with h|h<;>simp[h]
 rw[QG,ABd,E];by_cases l:f.1.1=p;subst l;rw[L!,C! rfl,C! rfl];refine⟨λk t m=>?_,λd o m=>O! m ((G f (BP u)).2.2.1 d o),λr hr=>⟨by have:=(c r hr).1;omega,λ_ q=>?_⟩⟩;obtain⟨j,x⟩:=Dk t;by_cases s:j=i;subst s;rw[HU w]at x;rw[<-BL x,v];exact E! (upd · e) (a f (BP u) rfl);rw[Dl (s ·.symm)]at x;exact O! (J j k x m) s;have:=q g A_ C;rw[y]at this;cases this;rw[D! (by simpa using l),D! (by simpa using l)];refine⟨λk t m=>?_,b,λr hr=>⟨(c r hr).1,λo q=>(c r hr).2 o λk t m=>?_⟩⟩;rcases Ph t with h|h;exact a k h m;subst h;exact O! (C.symm.trans m) l;exact q k (yQ u k t o!) m
def FD.set{n}{F}{D_}{i:V}{f g:BK}(h:FD B n F D_)(b:F[i]?=D f)(c:g.1.1=f.1.1):FD B n (F.set i g) D_:=by intro k d;rcases Ph d with a|a;exact h k a;subst a;rw[c];exact h f (BP b)
def KP.supply{n:Y}{L:E AE}{F:E BK}{D_ l:E Al}{R:E Bb}{x:AT}{g:BK}(h:KP n L F D_ R)(y:x=st L x.1)
  (w:∀f∈F,f.1.1≠x.1) (t:g.1=x) (i:(g.2.1=A/\l=D_.filter λd=>d.1 !=x.1)\/(g.2.1=X/\(∀d∈D_,d.1≠x.1)/\l=D_)):KP n L (F++[g]) l R:=by
 intro p z A_;obtain⟨a,b,c⟩:=h p z A_;have v:∀d∈l,d∈D_:=by rcases i with⟨_,e⟩|⟨_,_,e⟩<;>subst e;exact λd i=>(BG.1 i).1;exact λd i=>i
 refine⟨λf j e=>?_,λd i=>b d (v d i),λr hr=>⟨(c r hr).1,λq s=>(c r hr).2 ?_ λf j=>s f (F4 _ j)⟩⟩;rcases Ah.1 j with j|j;exact a f j e;rw[Ax]at j;subst j;rw[t]at e⊢;rw[<-e];exact y;intro d k e;rcases i with⟨u,o⟩|⟨_,_,o⟩<;>subst o;by_cases m:p=x.1;have:=s g k! (by rw[t,m]);rw[u]at this;cases this;exact q d (BG.2 ⟨k,w!⟩) e;exact q d k e
def FD.supply{n}{F}{D_ b:E Al}{p:Y}{g:BK}(h:FD B n F D_)(k:0<=p)(l:p<n)(i:B p)(j:g.1.1=p)(e:∀d∈b,d∈D_)(hn:∀d∈b,d.1≠p):FD B n (F++[g]) b:=by intro f a;rcases Ah.1 a with a|a;exact⟨(h f a).1,(h f a).2.1,λd c=>(h f a).2.2.1 d (e d c),(h f a).2.2.2⟩;grind
def SB(k:AU):Prop:=Gi k.2.2.2.2.1/\Z k.2.2.2.2.2.1<=16777216/\Z k.2.2.2.2.2.2.2<=16777216
def SK(B:Y->Prop)(k:AU):Prop:=Gi k.2.2.2.2.1/\Z k.2.2.2.2.2.1<=16777216/\Z k.2.2.2.2.2.2.2<=16777216/\KI B k
def SK.sb{k}(h:SK B k):SB k:=⟨h.1,h.2.1,h.2.2.1⟩
def SK.ki{k}(h:SK B k):KI B k:=h.2.2.2
def SB.sk{k}(h:SB k)(g:KI B k):SK B k:=⟨h.1,h.2.1,h.2.2,g⟩
def VK(k:AU):Prop:=1<=k.1/\k.1<=64/\Dc k.2.2.1/\QJ k.2.2.2.1/\aa k.2.2.2.2.1/\Zd k.2.2.2.2.2.1/\nO k.2.2.2.2.2.2.1/\Z k.2.2.2.2.2.2.1=k.1
def eu{x}(h:SB x):An (Mc x) λr=>r=A->VK x:=by
 unfold Mc VK;unfold SB at h
 exact x!
def ZE{x:AU×Int}{s:Int×Al}(h:0<=s.1/\s.1<=θ x.1.2.2.2.2.2.2.2/\θ x.1.2.2.2.2.2.2.2<=16777216/\∀(i:Nat)(d:Al),i<s.1->x.1.2.2.2.2.2.2.2[i]?=δ d->d.1≠x.2):An (Ak (OC x) s) λr=>(∃d∈x.1.2.2.2.2.2.2.2,r=.inl (ζ,d)/\d.1=x.2)\/∃z,r=.inr z/\∀d∈x.1.2.2.2.2.2.2.2,d.1≠x.2:=by
 refine AY (λ(s:Int×Al)=>0<=s.1/\s.1<=θ x.1.2.2.2.2.2.2.2/\θ x.1.2.2.2.2.2.2.2<=16777216/\∀(i:Nat)(d:Al),i<s.1->x.1.2.2.2.2.2.2.2[i]?=δ d->d.1≠x.2) (λ(s:Int×Al)=>((θ x.1.2.2.2.2.2.2.2:Int)-s.1).toNat) h (λs j=>?_);have⟨c,m,f,g⟩:=j;unfold OC;refine AC (λa=>?_) (λa=>AB (.inr ⟨_,rfl,λd b=>?_⟩));simp[len]at a;refine AA (AI c a) λv o=>?_;apply AQ<;>intro n;grind[AA,AI,AB,Option.some.inj];have e:=Aa (x:=s.1+1);refine AB ⟨⟨d!,d!,f,λi d k b=>?_⟩,d!⟩;dsimp only at k;by_cases l:(i:Int)<s.1;exact g i d l b;have:i=s.1.toNat:=o!
 grind[Option.some.inj];grind[List.getElem?_of_mem,Nat.lt_or_ge,List.getElem?_eq_none]
def Ke{x:AU×Y}(h:SB x.1):An (FN x) λr=>(r.2=A->r.1∈x.1.2.2.2.2.2.2.2/\r.1.1=x.2)/\(r.2=X->∀d∈x.1.2.2.2.2.2.2.2,d.1≠x.2):=by unfold FN;refine AA (ZE ⟨o!,d!,h.2.2,λi d a=>O! a d!⟩) λv b=>?_;grind[BC,AB,A3]
def ZF{x:AU}{s:Int}(h:0<=s/\s<=θ x.2.2.2.2.2.1/\(θ x.2.2.2.2.2.1:Int)<=16777216):An (Ak (OD x) s) λr=>r≠.inl ζ:=by
 refine AY (λ(s:Int)=>0<=s/\s<=θ x.2.2.2.2.2.1/\(θ x.2.2.2.2.2.1:Int)<=16777216) (λ(s:Int)=>((θ x.2.2.2.2.2.1:Int)-s).toNat) h (λs b=>?_);unfold OD;exact x!
def ZG{x:AU}{s:Int}(h:0<=s/\s<=θ x.2.2.2.1.2.1/\(θ x.2.2.2.1.2.1:Int)<=16777216/\SB x):An (Ak (OE x) s) λr=>r≠.inl ζ:=by
 refine AY (λ(s:Int)=>0<=s/\s<=θ x.2.2.2.1.2.1/\(θ x.2.2.2.1.2.1:Int)<=16777216/\SB x) (λ(s:Int)=>((θ x.2.2.2.1.2.1:Int)-s).toNat) h (λs b=>?_);unfold OE;exact x!
def ZH{x:AU}{s:Int}(h:0<=s/\s<=θ x.2.2.2.2.1.1/\(θ x.2.2.2.2.1.1:Int)<=16777216):An (Ak (OF x) s) λr=>r≠.inl ζ:=by
 refine AY (λ(s:Int)=>0<=s/\s<=θ x.2.2.2.2.1.1/\(θ x.2.2.2.2.1.1:Int)<=16777216) (λ(s:Int)=>((θ x.2.2.2.2.1.1:Int)-s).toNat) h (λs b=>?_);unfold OF;exact x!
def ZI{x:AU}{s:Int}(h:0<=s/\s<=θ x.2.2.2.2.1.2/\(θ x.2.2.2.2.1.2:Int)<=16777216):An (Ak (OG x) s) λr=>r≠.inl ζ:=by
 refine AY (λ(s:Int)=>0<=s/\s<=θ x.2.2.2.2.1.2/\(θ x.2.2.2.2.1.2:Int)<=16777216) (λ(s:Int)=>((θ x.2.2.2.2.1.2:Int)-s).toNat) h (λs b=>?_);unfold OG;exact x!
def CQ{x}(h:SB x):An (Br x) λr=>r=A->VK x:=by
 unfold Br;exact x!
def Zz{x:List Ar×Int}{s:Int}(h:0<=s/\s<=θ x.1/\(θ x.1:Int)<=16777216):An (Ak (Kb x) s) λr=>∀u,r=.inl u->0<=u/\u<θ x.1/\∃t,x.1[u.toNat]?=δ t/\t.1=x.2:=by
 refine AY (λ(s:Int)=>0<=s/\s<=θ x.1/\(θ x.1:Int)<=16777216) (λ(s:Int)=>((θ x.1:Int)-s).toNat) h (λs b=>?_);unfold Kb;exact x!
def It{x:E Ar×Y}(h:Z x.1<=16777216):An (E5 x) λr=> -1<=r/\r<Z x.1/\(0<=r->∃t,x.1[r.toNat]?=D t/\t.1=x.2):=by
 unfold E5;exact x!
def GC{x:E Ar×Y}(h:Z x.1<=16777216):An (Cj x) λr=> -1<=r/\r<Z x.1/\(0<=r->∃t,x.1[r.toNat]?=D t/\t.1=x.2):=by
 unfold Cj;exact x!
def oJ(p:B4)(id:Y):Prop:=∃(i:V)(f:BK),p.2.1[i]?=D f/\f.1.1=id
def Zy{x:B4×Int}{s:Int}(h:0<=s/\s<=θ x.1.2.1/\(θ x.1.2.1:Int)<=16777216/\∀(i:Nat)(f:BK),i<s->x.1.2.1[i]?=δ f->f.1.1≠x.2):An (Ak (O6 x) s) λr=>(∃u,r=.inl u/\0<=u/\u<θ x.1.2.1/\∃f,x.1.2.1[u.toNat]?=δ f/\f.1.1=x.2)\/(r=.inr ()/\¬oJ x.1 x.2):=by
 refine AY (λ(s:Int)=>0<=s/\s<=θ x.1.2.1/\(θ x.1.2.1:Int)<=16777216/\∀(i:Nat)(f:BK),i<s->x.1.2.1[i]?=δ f->f.1.1≠x.2) (λ(s:Int)=>((θ x.1.2.1:Int)-s).toNat) h (λs b=>?_);unfold O6;repeat' with_reducible first|intro a|apply AC|apply AQ|apply AM|apply AB|(refine AO ?_ (AI ?_ ?_);rintro r ⟨hr,c⟩)
 all_goals try (have e:=Aa (x:=s+1))
 all_goals first|omega|grind[oJ]
def G6{x:B4×Y}(h:Z x.1.2.1<=16777216):An (Fy x) λr=> -1<=r/\r<Z x.1.2.1/\(0<=r->∃f,x.1.2.1[r.toNat]?=D f/\f.1.1=x.2)/\(r<0->¬oJ x.1 x.2):=by refine AA (Zy (by refine⟨o!,o!,o!,λi f a=>O! a o!⟩)) λs b=>?_;grind[BC,AB,A3]
def GB{x}:An (EY x) λr=> -1<=r/\r<Z x.1.2.1/\(0<=r->QJ x.1/\∃f,x.1.2.1[r.toNat]?=D f/\f.1.1=x.2)/\(QJ x.1->oJ x.1 x.2->0<=r):=by
 unfold EY;exact x!
def JQ{x}:An (GP x) λr=>(r.2=A->QJ x.1/\Eb r.1/\oJ x.1 x.2/\r.1.1=x.2/\∃f∈x.1.2.1,f.1=r.1)/\(r.2=X->QJ x.1->¬oJ x.1 x.2):=by
 unfold GP;exact x!
theorem Dc.last{x}(h:Dc x):wi (wi (x.1+len x.2.1)-1)=x.1+Z x.2.1-1:=by have⟨a,b,c,d,e,f⟩:=h;grind[Aa]
def Dc.at{x}{n:Y}{e:AE}(h:Dc x)(a:x.1<=n)(b:n<=x.1+Z x.2.1-1)(c:x.2.1[(wi (n-x.1)).toNat]?=D e):KD e/\e.1=n:=by have⟨a1,a2,a3,a4,a5,a6⟩:=h;grind[Aa]
theorem Dc.append{x}{e}{l:E AE}(h:Dc x)(b:Z x.2.1≠4096)(d:KD e)(c:e.1=x.1+Z x.2.1)(a:l=x.2.1++[e]):Dc (x.1,l,x.2.2):=by have⟨a1,a2,a3,a4,a5,a6⟩:=h;subst a;refine⟨a1,a2,w!,a4,w!,λi f g=>?_⟩;grind[Nat.lt_or_ge,List.getElem?_append_right,u?]
def Dc.force{x}{n:Y}(h:Dc x)(a:n<=x.1+Z x.2.1-1):Dc (x.1,x.2.1,if n>x.2.2 then n else x.2.2):=by have⟨a1,a2,a3,a4,a5,a6⟩:=h;refine⟨a1,a2,a3,?_,?_,a6⟩<;>(dsimp only;split<;>omega)
def F9{x}:An (E0 x) λr=>Dc x->r=x.1+Z x.2.1-1:=by
 unfold E0;exact x!
def KZ{x:Ad×Int}:An (Ee x) λr=>(r.2=0->Dc r.1/\r.1.2.1=x.1.2.1/\r.1.1=x.1.1/\x.1.2.2<=r.1.2.2/\x.2<=r.1.2.2):=by
 unfold Ee;repeat' with_reducible first|apply AC<;>intro a|apply AP<;>intro a|apply AM<;>intro a|apply AB|(apply AA (BZ);intro r hr)|(apply AA (E2);intro r hr)
 all_goals try (intro _;have b:Dc x.1:=by grind
                have c:=b.last;exact⟨b.force (by omega),rfl,rfl,by dsimp only;split<;>omega,by dsimp only;split<;>omega⟩)
 all_goals ((try dsimp[len]at*);(try first|omega|assumption|grind[Aa]))
theorem HZ{x}:An (FY x) λr=>(r.2=0->KD r.1/\r.1.1=x.2/\x.1.2.1[(x.2-x.1.1).toNat]?=D r.1/\x.1.1<=x.2)/\(Dc x.1->x.1.1<=x.2->x.2<=x.1.1+Z x.1.2.1-1->r.2=0):=by
 unfold FY;repeat' with_reducible first|intro c|apply AC|apply AP|apply AM|apply AB|(apply AA (BZ);intro r hr)|(apply AA (E2);intro r hr)|(refine AO ?_ (AI ?_ ?_);rintro r ⟨hr,f⟩)
 all_goals try (have a:Dc x.1:=by grind)
 all_goals try (have e:=a.last;have:=a.1;have:=a.2.1;have:=a.2.2.1)
 all_goals try (have d:wi (x.2-x.1.1)=x.2-x.1.1:=Aa)
 all_goals try (have b:=a.at (n:=x.2) o! o! hr;rw[d]at hr;exact⟨λ_=>⟨b.1,b.2,hr,o!⟩,λ_ _ _=>rfl⟩)
 all_goals exact l!
def bc{x}:An (K9 x) λr=>(r.2.2=0->Dc r.1/\Dc x.1/\r.1.2.1=x.1.2.1++[(r.2.1,x.2.2)]/\r.1.1=x.1.1/\r.2.1=x.1.1+Z x.1.2.1/\r.1.2.2=x.1.2.2):=by
 unfold K9;repeat' with_reducible first|intro b|apply AP|apply AQ|apply AM|apply AB|(apply AA (BZ);intro r hr)|(apply AA (E2);intro r hr)|(apply AA (CY);intro r hr)|(refine AO ?_ (Ac ?_);rintro r ⟨hr,c,d⟩)
 all_goals try (have a:Dc x.1:=by grind)
 all_goals try (have c:=a.last;have:=a.1;have:=a.2.1;have:=a.2.2.1)
 all_goals ((try dsimp[len]at*);(try first|omega|assumption|grind[Aa,Dc.append]))
def CA{x}:An (BO x) λr=>r=A↔x.2.1=1\/x.2.1=2:=by
 unfold BO;exact x!
end Go.Pm
namespace Go.Pm
open Go Go.Ab
def tL(n:Y):0<=ι .u64 n:=by rw[XW];omega
theorem ND(l:E Y):(Ew l).length=Z l:=by simp[Ew]
def bT{x:Bc×Y×Y}{s:Bc×Y}(h:0<=s.2/\s.2<=x.2.2/\x.2.2<=8/\(Z s.1:Y)=Z x.1+s.2/\Z x.1<=1099511627776):An (Ak (G3 x) s) λr=>(Z r:Y)=Z x.1+x.2.2:=by
 refine AY (λs=>0<=s.2/\s.2<=x.2.2/\x.2.2<=8/\(Z s.1:Y)=Z x.1+s.2/\Z x.1<=1099511627776) (λs=>(x.2.2-s.2).toNat) h (λs b=>?_);unfold G3;repeat' with_reducible first|intro a|apply AC|apply AM|apply AB|apply Wx|(refine AO ?_ (CR ?_);rintro r ⟨hr,c⟩)
 all_goals try (have d:=tL (wi (8*s.2));omega)
 all_goals ((try dsimp[len]at*);(try first|omega|assumption|grind[Aa,ND]))
def Dq{x:Bc×Y×Y}(h:Z x.1<=1099511627776):An (Aq x) λr=>(1<=x.2.2->x.2.2<=8->(Z r:Y)=Z x.1+x.2.2)/\Z r<=Z x.1+8:=by
 unfold Aq;exact x!
def ACN{n:Y}(h:n<=4):(2:Y)^(8*ο n)<=4294967296:=by
 have:ο n=0\/ο n=1\/ο n=2\/ο n=3\/ο n=4:=o!
 rcases this with h|h|h|h|h<;>rw[h]<;>decide
def AHS{n:Y}(h:n<=2):(2:Y)^(8*ο n)<=65536:=by
 have:ο n=0\/ο n=1\/ο n=2:=o!
 rcases this with h|h|h<;>rw[h]<;>decide
def AFO{a b:Y}{k:V}(e:0<=a)(c:a<2^k)(f:0<=b)(d:b<2^k)(g:k<=64):(0:Y)<=((π (κ 64 a|||κ 64 b):V):Y)/\((π (κ 64 a|||κ 64 b):V):Y)<2^k:=by
 refine⟨o!,?_⟩;obtain⟨n,rfl⟩:=Et e;obtain⟨m,rfl⟩:=Et f;have hn:n<2^k:=by exact_mod_cast c
 have h:m<2^k:=by exact_mod_cast d
 have i:2^k<=2^64:=fi g! g;rw[BitVec.toNat_or];simp[cQ,cR];rw[Ts o!,Ts o!];exact_mod_cast Nat.or_lt_two_pow hn h
def zJ{a v i:Y}(d:0≤i)(e:i<8)(c:0≤a)(b:a<2^(8*ο i))(g:0≤v)(h:v<256):
  0<=ι .u64 (((π ((κ 64 a)|||(κ 64 (ι .u64 ((ι .u64 v)*(2^(min (ο (ι .u64 (wi (8*i)))) 64))))))):V):Y)/\
  ι .u64 (((π ((κ 64 a)|||(κ 64 (ι .u64 ((ι .u64 v)*(2^(min (ο (ι .u64 (wi (8*i)))) 64))))))):V):Y)<2^(8*(wi (i+1)).toNat):=by
 rw[(Aa),Aa,(by rw[XW];omega:ι .u64 (8*i)=8*i),(by rw[XW];omega:ι .u64 v=v)];obtain⟨n,rfl⟩:=Et d;obtain⟨m,rfl⟩:=Et g;rw[(by omega:min (8*(n:Y)).toNat 64=8*n)];rw[(by omega:((n:Y)+1).toNat=n+1)];rw[(by omega:((n:Y)).toNat=n)]at b;have f:(m:Y)*2^(8*n)<2^(8*(n+1)):=by
  have:(m*2^(8*n):V)<2^(8*(n+1)):=by rw[(by grind[Nat.mul_add,Nat.pow_add]:2^(8*(n+1))=256*2^(8*n))];exact Nat.mul_lt_mul_of_pos_right o! (Nat.pow_pos g!)
  exact_mod_cast this
 have l:(2:Y)^(8*(n+1))<=2^64:=by have:(2^(8*(n+1)):V)<=2^64:=fi g! o!;exact_mod_cast this
 have j:(0:Y)<=(m:Y)*2^(8*n):=by
  have:(0:Y)<=((m*2^(8*n):V):Y):=o!
  exact_mod_cast this
 rw[(by rw[XW];omega:ι .u64 ((m:Y)*2^(8*n))=(m:Y)*2^(8*n))];have⟨o,p⟩:=AFO (k:=8*(n+1)) c (by grind[Nat.pow_le_pow_right]) j f o!;grind[π,XW]
def bS{x:Bc×Y×Y}{s:Y×Y}(h:0<=s.2/\s.2<=x.2.2/\x.2.2<=8/\0<=x.2.1/\x.2.1+x.2.2<=Z x.1/\Z x.1<=1099511627776/\0<=s.1/\s.1<2^(8*s.2.toNat)):An (Ak (G2 x) s) λr=>0<=r/\r<2^(8*x.2.2.toNat):=by
 refine AY (λs=>0<=s.2/\s.2<=x.2.2/\x.2.2<=8/\0<=x.2.1/\x.2.1+x.2.2<=Z x.1/\Z x.1<=1099511627776/\0<=s.1/\s.1<2^(8*s.2.toNat)) (λs=>(x.2.2-s.2).toNat) h (λs n=>?_);unfold G2;have⟨d,q,f,g,j,k,l,m⟩:=n;repeat' with_reducible first|intro o|apply AC|apply AM|apply AB|apply Wx|(refine AO ?_ (R7 ?_ ?_);rintro r ⟨hr,p⟩)
 all_goals try (have t:=tL (wi (8*s.2));omega)
 all_goals (first|(have⟨b,c⟩:=zJ (a:=s.1) (v:=r) (i:=s.2) d o! l m hr p;have e:=Aa (x:=s.2+1);exact⟨⟨o!,o!,f,g,j,k,b,c⟩,d!⟩)|skip)
 all_goals exact l!
def Cl{x:Bc×Int×Int}(h:x.1.length<=1099511627776):An (A4 x) λr=>r.2=0->0<=x.2.1/\x.2.1+x.2.2<=x.1.length/\(x.2.2<=4->0<=r.1/\r.1<4294967296)/\(x.2.2<=2->r.1<65536):=by
 unfold A4;repeat' with_reducible first|apply AC<;>intro c|apply AM<;>intro c|apply AB|(refine AO ?_ (bS ?_);intro r hr)
 all_goals dsimp[len]at*
 all_goals first
  |omega
  |(intro d;exact absurd d (by decide))
  |(have e:=Aa (x:=(x.1.length:Int)-x.2.1);exact⟨by omega,by omega,by omega,by omega,by omega,h,by omega,by simp⟩)
  |(intro _;have e:=Aa (x:=(x.1.length:Int)-x.2.1);refine⟨by omega,by omega,λb=>?_,λa=>?_⟩;(have:=ACN b;rw[Aa];omega);(have:=AHS a;rw[Aa];omega))
def bV  {s:Y×Y}(h:0<=s.2/\s.2<=8):An (Ak (Io) s) λr=>True:=by
 refine AY (λs=>0<=s.2/\s.2<=8) (λs=>(8-s.2).toNat) h (λs b=>?_);unfold Io;exact x!
def bU{x:Bc}{s:Int×Int}(h:0<=s.2/\s.2<=θ x/\θ x<=1099511627776):An (Ak (Im x) s) λr=>True:=by
 refine AY (λ(s:Int×Int)=>0<=s.2/\s.2<=θ x/\θ x<=1099511627776) (λ(s:Int×Int)=>((θ x:Int)-s.2).toNat) h (λs b=>?_);unfold Im;exact x!
def Qo{x:Bc}(h:Z x<=1099511627776):An (FX x) λr=>True:=by
 unfold FX;exact x!
theorem UZ{x}:An (Dp x) λr=>Z r<=8408:=by
 unfold Dp;repeat' with_reducible first|intro a|apply AC|apply AM|apply AB|(refine AO ?_ (Dq ?_);intro r hr)|(refine AO ?_ (Qo ?_);intro r hr)|(refine AO ?_ (CR ?_);rintro r ⟨hr,b⟩)
 all_goals dsimp[len]at*
 all_goals exact l!
theorem SU{x:Bc×Y}(h:Z x.1<=1099511627776):An (Bg x) λr=>r.2.2=0->Z r.1<=8392/\x.2+8+Z r.1=r.2.1/\0<=x.2/\r.2.1<=Z x.1:=by
 unfold Bg;repeat' with_reducible first|intro a|apply AC|apply AK|apply AM|apply AB|(refine AO ?_ (Cl ?_);intro r hr)|(refine AO ?_ (Qo ?_);intro r hr)|(refine AO ?_ (Bx ?_ ?_ ?_);rintro r ⟨hr,b⟩)
 all_goals dsimp[len]at*
 all_goals exact l!
def iB{x:Bc×Cr}(h:Z x.1<=1099511627776)(b:Z x.2.2<=16777216):An (Gm x) λr=>Z r<=Z x.1+8+Z x.2.2:=by
 unfold Gm;exact x!
def SI.lens{x}(h:SI x):Z x.2.2.2.2.2.2.1.2.2.1.2<=12/\Z x.2.2.2.2.2.2.1.2.2.2.2<=12/\Z x.2.2.2.2.2.2.2<=8192:=by grind[SI,Pe,Fs,Qu]
theorem bZ{x}:An (F8 x) λr=>Z r.1<=8400:=by
 unfold F8;repeat' with_reducible first|intro a|apply AP|apply AM|apply AB|(apply AA (CY);intro r hr)|(refine AO ?_ (Dq ?_);intro r hr)|(refine AO ?_ (iB ?_ ?_);intro r hr)|(refine AO ?_ (CR ?_);rintro r ⟨hr,b⟩)
 all_goals try (have c:=(SI.lens (x:=x) (by unfold KD at*;grind)))
 all_goals exact l!
def AHM(k:V):(0:Y)<256^k:=by have:0<256^k:=Nat.pow_pos g!;grind
def AKT(b k:V):(b:Y)*256^k=((b*256^k:V):Y):=q!
def DB(n:Y):V->Bc
 |0=>[]
 |k+1=>UInt8.ofNat (n%256).toNat::DB (n/256) k
def pQ:Bc->V
 |[]=>0
 |b::r=>b.toNat+256*pQ r
theorem A0:∀k n,(DB n k).length=k
 |0,n=>rfl
 |k+1,n=>by rw[DB,BW,A0 k]
theorem un:∀l:Bc,pQ l<256^Z l
 |[]=>by simp[pQ]
 |b::r=>by have a:=un r;have c:=b.toNat_lt;grind[pQ,List.length_cons,Nat.pow_succ]
def ACH:∀l:Bc,DB (pQ l:Y) (Z l)=l
 |[]=>rfl
 |b::r=>by have a:=b.toNat_lt;rw[BW,DB,(by rw[pQ];omega:((pQ (b::r):V):Y)/256=(pQ r:Y)),(by rw[pQ];omega:(((pQ (b::r):V):Y)%256).toNat=b.toNat),ACH r];simp
def we:∀(k:V)(n m:Y),n%256^k=m%256^k->DB n k=DB m k
 |0,_,_,_=>rfl
 |k+1,n,m,h=>by
  have e:(256:Y)^(k+1)=256^k*256:=Int.pow_succ ..;have b:n%256=m%256:=by have a:n%256^(k+1)%256=n%256:=Int.emod_emod_of_dvd n ⟨256^k,by rw[e,Int.mul_comm]⟩;simp_all
  have c:n/256%256^k=m/256%256^k:=by
   have g:∀x:Y,x/256%256^k=x%256^(k+1)/256:=λx=>by have d:=pw (x/256) (256^k);have f:=pw x (256*256^k);grind[Int.ediv_ediv_of_nonneg]
   grind
  rw[DB,DB,b,we k _ _ c]
def um:∀(k:V)n,DB n (k+1)=DB n k++[UInt8.ofNat (n/256^k%256).toNat]
 |0,n=>by simp[DB]
 |k+1,n=>by rw[DB,um k (n/256),DB];grind[Int.pow_succ,Int.mul_comm,Int.ediv_ediv_of_nonneg]
theorem tF:∀k n,((pQ (DB n k):V):Y)=n%256^k
 |0,n=>by simp[DB,pQ]
 |k+1,n=>by
  rw[DB,pQ];have b:(UInt8.ofNat (n%256).toNat).toNat=(n%256).toNat:=by grind[UInt8.toNat_ofNat']
  have c:=tF k (n/256);have a:=pw (n/256) (256^k);grind[Int.mul_ediv_add_emod,Int.ediv_ediv_of_nonneg]
theorem uo:∀(l:Bc)(b:UInt8),pQ (l++[b])=pQ l+b.toNat*256^Z l
 |[],b=>by simp[pQ]
 |a::r,b=>by rw[Dx,pQ,uo r b,pQ,BW,Nat.pow_succ,Nat.mul_add];grind
def cN(k:V)(n:Y):Prop:=(k<=7->0<=n/\n<256^k)/\ -9223372036854775808<=n/\n<=9223372036854775807
theorem YM{k:V}(f:k<=8){n m}(hn:cN k n)(d:cN k m)(h:DB n k=DB m k):n=m:=by
 have e:=tF k n;rw[h,tF k m]at e;by_cases c:k<=7;have a:=hn.1 c;have b:=d.1 c;grind[Int.emod_eq_of_lt];have:k=8:=o!
 have a:=hn.2;have b:=d.2;grind
def rd(l:Bc):Y:=wi (pQ l:Y)
def AKU{k:V}(h:k<=7):(256:Y)^k<=72057594037927936:=by
 have:k=0\/k=1\/k=2\/k=3\/k=4\/k=5\/k=6\/k=7:=o!
 grind
theorem ABL{l:Bc}(h:Z l<=8):cN (Z l) (rd l):=by have b:=un l;have d:rd l=((pQ l:Y)+9223372036854775808)%18446744073709551616-9223372036854775808:=AGA _;refine⟨λa=>?_,o!⟩;have c:=AKU a;grind
theorem xt{l:Bc}(h:Z l<=8):DB (rd l) (Z l)=l:=by
 rw[show DB (rd l) (Z l)=DB (pQ l:Y) (Z l)from ?_,ACH];apply we;by_cases a:Z l<=7;have c:=AKU a;have b:(pQ l:Y)<256^Z l:=by grind[un]
 have:rd l=(pQ l:Y):=by unfold rd;exact Aa
 rw[this];have:Z l=8:=o!
 rw[this,show(256:Y)^8=18446744073709551616 by decide];unfold rd;rw[AGA];omega
theorem rE{k:V}{n}(a:k<=8)(h:cN k n):rd (DB n k)=n:=by grind[A0,YM,ABL,DB,xt]
def ABG(k:V):(2:Y)^(8*k)=256^k:=by grind[Int.pow_mul]
def AFc{n:Y}{i:Y}(c:0<=i)(d:i<8):Ew ([ι .u8 (Int.fdiv (ι .u64 n) (2^(min (ο (ι .u64 (wi (8*i)))) 64)))]:E Y)=[UInt8.ofNat (n/256^ο i%256).toNat]:=by
 have a:wi (8*i)=8*i:=Aa;have b:ι .u64 (8*i)=8*i:=by rw[XW];omega
 rw[a,b,show min (8*i).toNat 64=8*ο i by omega,ABG];have e:=AHM (ο i)
 rw[lX _ o!,XW,AHz];have:n%18446744073709551616/256^ο i%256=n/256^ο i%256:=by
  have:ο i=0\/ο i=1\/ο i=2\/ο i=3\/ο i=4\/ο i=5\/ο i=6\/ο i=7:=o!
  rcases this with h|h|h|h|h|h|h|h<;>rw[h];rw[show(256:Y)^0=1 by decide];omega;rw[show(256:Y)^1=256 by decide];omega;rw[show(256:Y)^2=65536 by decide];omega;rw[show(256:Y)^3=16777216 by decide];omega;rw[show(256:Y)^4=4294967296 by decide];omega;rw[show(256:Y)^5=1099511627776 by decide];omega;rw[show(256:Y)^6=281474976710656 by decide];omega;rw[show(256:Y)^7=72057594037927936 by decide];omega
 rw[this];rfl
theorem IW{s:Bc}{n:Y}{k:Y}(h:Z s<=1099511627776)(i:1<=k)(j:k<=8):Aq (s,n,k)=D (s++DB n (ο k)):=by
 have key:An (Ak (G3 (s,n,k)) (s,0)) λr=>r=s++DB n (ο k):=by refine AY (λt=>0<=t.2/\t.2<=k/\t.1=s++DB n t.2.toNat) (λt=>(k-t.2).toNat) ⟨Ag _,d!,by simp[DB]⟩ ?_;rintro⟨l,a⟩ ⟨b,g,c⟩;dsimp only at b g c;subst c;unfold G3;dsimp only;refine AC (λd=>?_) (λd=>AB (by rw[show a=k by omega]));refine AC (λe=>O! e (by have:=tL (wi (8*a));omega)) (λ_=>?_);rw[AFc b o!];refine AA (CR (by rw[AV,A0];simp;omega)) λv f=>AB ?_;rw[(Aa)];refine⟨⟨o!,o!,?_⟩,o!⟩;rw[f.1,show(a+1).toNat=a.toNat+1 by omega,um,A2]
 obtain⟨r,hr,rfl⟩:=key;unfold Aq;grind
def AAD{a t:Bc}{i:Y}(c:0<=i)(d:i<Z t)(e:(Z a:Y)<=2199023255552)(f:(Z t:Y)<=2199023255552):∃b:UInt8,six (a++t) (wi ((Z a:Y)+i))=D (b.toNat:Y)/\t.take (i+1).toNat=t.take (ο i)++[b]:=by obtain⟨k,rfl⟩:=Et c;refine⟨t[k],?_,?_⟩;grind[Aa,six];simp_all
theorem AJN{a b k:V}(h:a<256^k)(f:b<256)(g:k<8):π (κ 64 (a:Y)|||κ 64 ((b:Y)*256^k))=a+b*256^k:=by
 have e:(256:V)^k=2^(8*k):=by rw[Nat.pow_mul]
 have d:a+b*256^k<256^(k+1):=by
  have:b*256^k+256^k<=256*256^k:=by rw[<-nV];exact Lj _ o!
  omega
 have c:(256:V)^(k+1)<=2^64:=by rw[show(2:V)^64=256^8 by decide];exact fi g! o!
 rw[AKT];rw[BitVec.toNat_or,cQ,cQ,cR,cR,Ts o!,Ts o!];grind[Nat.mul_comm,Nat.two_pow_add_eq_or_of_lt]
theorem AB9{a:V}{b:UInt8}{i:Y}(g:0<=i)(h:i<8)(k:a<256^ο i)(j:Y)(d:j=8*i):ι .u64 (((π ((κ 64 (a:Y))|||(κ 64 (ι .u64 ((ι .u64 (b.toNat:Y))*(2^(min (ο j) 64))))))):V):Y)=((a+b.toNat*256^ο i:V):Y):=by
 have l:=b.toNat_lt;have c:(256:V)^(ο i+1)<=2^64:=by rw[show(2:V)^64=256^8 by decide];exact fi g! o!
 have e:a+b.toNat*256^ο i<256^(ο i+1):=by
  have:b.toNat*256^ο i+256^ο i<=256*256^ο i:=by rw[<-nV];exact Lj _ o!
  omega
 rw[d,(by rw[XW];omega:ι .u64 (b.toNat:Y)=b.toNat),show min (8*i).toNat 64=8*ο i by omega,ABG];have f:ι .u64 ((b.toNat:Y)*256^ο i)=(b.toNat:Y)*256^ο i:=by rw[XW,AKT];omega
 grind[AJN,XW]
theorem jw{a t:Bc}{k:Y}(h:(Z a:Y)+Z t<=2199023255552)(x:1<=k)(y:k<=8):A4 (a++t,(Z a:Y),k)=if k<=Z t then D (rd (t.take (ο k)),0)else D (0,5):=by
 unfold A4;dsimp only;have d:len (a++t)=(Z a:Y)+Z t:=by unfold len;rw[n?];omega
 rw[F! o!,A!,F! o!,A!,F! o!,A!,F! o!,A!];have q:wi (len (a++t)-(Z a:Y))=Z t:=by rw[d,Aa];omega
 by_cases g:k<=Z t;rw[F! o!,A!,C! g];have key:An (Ak (G2 (a++t,(Z a:Y),k)) (0,0)) λr=>r=(pQ (t.take (ο k)):Y):=by
  refine AY (λs=>0<=s.2/\s.2<=k/\s.1=(pQ (t.take s.2.toNat):Y)) (λs=>(k-s.2).toNat) ⟨Ag _,d!,by simp[pQ]⟩ ?_;rintro⟨z,c⟩ ⟨f,u,l⟩;dsimp only at f u l;subst l;unfold G2;dsimp only;refine AC (λo=>?_) (λo=>AB (by rw[show c=k by omega]));obtain⟨b,v,w⟩:=AAD (a:=a) (t:=t) (i:=c) f o! o! o!;rw[v,AD];refine AC (λp=>O! p (by have:=tL (wi (8*c));omega)) (y? ?_);have e:wi (c+1)=c+1:=Aa;have m:wi (8*c)=8*c:=Aa;have n:ι .u64 (8*c)=8*c:=by rw[XW];omega
  have j:(t.take c.toNat).length=c.toNat:=by rw[BU];omega
  dsimp only;rw[e,AB9 f o! (by have:=un (t.take c.toNat);rwa[j]at this) _ (by rw[m,n])];refine⟨⟨o!,o!,?_⟩,o!⟩;rw[w,uo,j]
 obtain⟨r,hr,rfl⟩:=key;rw[hr];rfl;rw[G! o!,B!,D! g]
theorem YN{a t:Bc}{k:Y}(h:(Z a:Y)+Z t<=2199023255552)(q:1<=k)(u:k<=8):B5 (a++t,(Z a:Y),k)=if k<=Z t then D (rd (t.take (ο k)),0)else D (0,5):=by
 unfold B5;dsimp only;have f:len (a++t)=(Z a:Y)+Z t:=q!
 rw[F! o!,A!,F! o!,A!,F! o!,A!,F! o!,A!];have m:wi (len (a++t)-(Z a:Y))=Z t:=by grind[Aa]
 by_cases l:k<=Z t;rw[F! o!,A!,C! l];have key:An (Ak (VS (a++t,(Z a:Y),k)) (0,0)) λr=>r=(pQ (t.take (ο k)):Y):=by refine AY (λs=>0<=s.2/\s.2<=k/\s.1=(pQ (t.take s.2.toNat):Y)) (λs=>(k-s.2).toNat) ⟨Ag _,d!,by simp[pQ]⟩ ?_;rintro⟨w,c⟩ ⟨d,n,e⟩;dsimp only at d n e;subst e;unfold VS;dsimp only;refine AC (λg=>?_) (λg=>AB (by rw[show c=k by omega]));have⟨b,o,v⟩:=AAD (a:=a) (t:=t) (i:=c) d o! o! o!;have p:wi (8*c)=8*c:=Aa;rw[o,AD];refine AC (O! · o!) (y? ?_);grind[Aa,AB9,un,uo]
 obtain⟨r,hr,rfl⟩:=key;rw[hr];rfl;grind
def PQ(x:Bc×Y×Y):W Bc:=
 bif τ (Z x.1<=1099511627776)&&(τ (1<=x.2.2)&&τ (x.2.2<=8))then D (x.1++DB x.2.1 x.2.2.toNat)else U
def Lc(x:Bc×Y):W Bc:=
 bif (x.1==[0])&&(τ (0<=x.2)&&τ (x.2<=8000))then D (ς x.2.toNat 0)else U
def AFY(a b:AT):Bool:=(a.1==b.1)&&((a.2.1==b.2.1)&&(List.finRange 16).foldr (λi r=>((a.2.2 i).1==(b.2.2 i).1)&&(((a.2.2 i).2==(b.2.2 i).2)&&r)) A)
end Go.Pm
