/- Texts of wip, joined and shortened by wip/tools/pack.py; nothing is assumed. -/
import Derived.Test.YtkgodfhnofpglaaGreatDoorK4
noncomputable section
set_option linter.all false
set_option maxHeartbeats 400000
open Option renaming some->D
open List renaming length->Z
open Go renaming Ψ->E
open Bool renaming false->X
open Option renaming none->A
open Bool renaming true->Y
open Go renaming Ω->V
open Option renaming some->δ,none->ε
open Bool renaming true->ζ,false->η
open List renaming length->θ,replicate->ς
open Go.IntKind renaming wrap->ι
open BitVec renaming ofInt->κ,toNat->π
open Int renaming toNat->ο
open Decidable renaming decide->τ
open _root_ renaming Int->W,Nat->U
namespace Go.Pm
open Go Go.Ab
def Ix(x:Co):Prop:=Z x.2<=12/\(x.1=Y\/x.2=[])
def Pc(x:Do):Prop:=0<=x.1/\x.1<64/\0<=x.2.1/\x.2.1<16/\Ix x.2.2.1/\Ix x.2.2.2
def Kz{x}:Ao (DW x) λr=>r=Y↔Ix x:=by
 unfold DW Ix
 exact x!
def Ut{x}:Ao (I3 x) λr=>r=Y↔Pc x:=by
 unfold I3 Pc
 exact x!
def Qy:Do:=(0,0,(X,[]),X,[])
def WM(x:AI):Prop:=
 (x.2.1=1/\x.2.2.2.2.2.1=0/\x.2.2.2.2.2.2.2=[]/\1<=x.2.2.1/\x.2.2.1<=1073741824/\Pc x.2.2.2.2.2.2.1)\/
 (x.2.1=2/\0<x.2.2.2.1/\1<=x.2.2.2.2.2.1/\x.2.2.2.2.2.1<=x.2.2.2.1/\x.2.2.2.2.2.2.2=[]/\1<=x.2.2.1/\x.2.2.1<=1073741824/\Pc x.2.2.2.2.2.2.1)\/
 ((x.2.1=3\/x.2.1=4\/x.2.1=5)/\0<x.2.2.2.1/\x.2.2.2.2.1=0/\x.2.2.2.2.2.1=0/\x.2.2.2.2.2.2.1=Qy/\x.2.2.2.2.2.2.2=[]/\1<=x.2.2.1/\x.2.2.1<=1073741824)\/
 ((x.2.1=6\/x.2.1=8)/\x.2.2.1=0/\x.2.2.2.1=0/\x.2.2.2.2.1=0/\x.2.2.2.2.2.1=0/\x.2.2.2.2.2.2.1=Qy/\Z x.2.2.2.2.2.2.2<=8192)\/
 (x.2.1=7/\x.2.2.1=0/\x.2.2.2.1=0/\x.2.2.2.2.1=0/\0<=x.2.2.2.2.2.2.1.1/\x.2.2.2.2.2.2.1.1<64/\x.2.2.2.2.2.2.1.2=Qy.2/\x.2.2.2.2.2.2.2=[])
def Ml(x:AI):Prop:=1<=x.1/\x.1<=1099511627776/\0<=x.2.2.2.1/\x.2.2.2.1<x.1/\0<=x.2.2.2.2.1/\x.2.2.2.2.1<x.1/\0<=x.2.2.2.2.2.1/\x.2.2.2.2.2.1<x.1/\WM x
def cU{x}:Ao (Ge x) λr=>r=Y↔0<=x.1/\x.1<x.2:=by
 unfold Ge;exact x!
theorem fa{x:AI}:Ao (MH x) λr=>(r.2=true/\r.1=x)↔WM x:=by
 obtain⟨a,b,c,d,e,f,⟨g,h,⟨i,j⟩,k,l⟩,m⟩:=x;unfold MH WM Qy;dsimp only
 repeat' first
   |with_reducible refine AC ?_ ?_<;>intro n
   |with_reducible refine AT ?_ ?_<;>intro n
   |with_reducible refine AJ ?_ ?_<;>intro n
   |(with_reducible refine BA ?_;try dsimp only)
   |with_reducible refine Bi ?_
   |with_reducible refine B0 ?_
   |with_reducible refine AB ?_
   |(with_reducible refine AA (Ut) ?_;intro r hr)
 all_goals grind
theorem Cf{x:AI}:Ao (Cv x) λr=>r=true↔Ml x:=by
 unfold Cv;refine AA fa λn A_=>?_;have e:((n.1.1==x.1)&&((n.1.2.1==x.2.1)&&((n.1.2.2.1==x.2.2.1)&&((n.1.2.2.2.1==x.2.2.2.1)&&((n.1.2.2.2.2.1==x.2.2.2.2.1)&&((n.1.2.2.2.2.2.1==x.2.2.2.2.2.1)&&((n.1.2.2.2.2.2.2.1.1==x.2.2.2.2.2.2.1.1)&&((n.1.2.2.2.2.2.2.1.2.1==x.2.2.2.2.2.2.1.2.1)&&((n.1.2.2.2.2.2.2.1.2.2.1.1==x.2.2.2.2.2.2.1.2.2.1.1)&&((n.1.2.2.2.2.2.2.1.2.2.1.2==x.2.2.2.2.2.2.1.2.2.1.2)&&((n.1.2.2.2.2.2.2.1.2.2.2.1==x.2.2.2.2.2.2.1.2.2.2.1)&&((n.1.2.2.2.2.2.2.1.2.2.2.2==x.2.2.2.2.2.2.1.2.2.2.2)&&((n.1.2.2.2.2.2.2.2==x.2.2.2.2.2.2.2)&&true)))))))))))))=true↔n.1=x:=by obtain⟨⟨a,b,c,d,e,f,⟨g,h,⟨i,j⟩,k,l⟩,m⟩,z⟩:=n;obtain⟨p,q,s,t,u,v,⟨w,y,⟨B,C⟩,D_,E⟩,F⟩:=x;simp[and_assoc]
 generalize ((n.1.1==x.1)&&_)=bb at e⊢;unfold Ml
 repeat' first
   |with_reducible refine AC ?_ ?_<;>intro o
   |with_reducible refine AT ?_ ?_<;>intro o
   |with_reducible refine AJ ?_ ?_<;>intro o
   |(with_reducible refine BA ?_;try dsimp only)
   |with_reducible refine Bi ?_
   |with_reducible refine B0 ?_
   |with_reducible refine AB ?_
   |(with_reducible refine AA (cU) ?_;intro r hr)
 all_goals grind
def Ea{x}:Ao (Cg x) λr=>r=wi (wi (x.1+len x.2.1)-1):=by
 unfold Cg;exact x!
def Dg(x:Aa):Prop:=1<=x.1/\x.1<=1099511627776/\Z x.2.1<=4096/\x.1-1<=x.2.2/\x.2.2<=x.1+Z x.2.1-1/\∀(i:U)(e:AI),x.2.1[i]?=D e->e.1=x.1+i/\Ml e
theorem ZY{x:Aa}{s:Int}(h:0<=s/\s<=x.2.1.length/\x.2.1.length<=4096/\1<=x.1/\x.1<=1099511627776/\ ∀(i:Nat) (e:AI),i<s->x.2.1[i]? =some e->e.1=x.1+i/\Ml e):Ao (Ad (Ny x) s) λr=>(r= .inl false/\ ¬Dg x)\/(r= .inr ()/\ ∀(i:Nat) (e:AI),x.2.1[i]? =some e->e.1=x.1+i/\Ml e):=by
 refine AW (λ(s:Int)=>0<=s/\s<=x.2.1.length/\x.2.1.length<=4096/\1<=x.1/\x.1<=1099511627776/\ ∀(i:Nat) (e:AI),i<s->x.2.1[i]? =some e->e.1=x.1+i/\Ml e) (λ(s:Int)=>((x.2.1.length:Int)-s).toNat) h (λs b=>?_);unfold Ny;obtain⟨c,d,f,g,j,k⟩:=b;repeat' with_reducible first|refine AC ?_ ?_<;>intro a|refine AP ?_ ?_<;>intro a|refine AK ?_ ?_<;>intro a|refine AJ ?_ ?_<;>intro a|refine AB ?_|(refine AA (Cf) ?_;intro r hr)|(refine AM ?_ (AE ?_ ?_);rintro r ⟨hr,l⟩)
 all_goals try (first|omega|grind[AX,Dg])
theorem BM{x}:Ao (Be x) λr=>r=Y↔Dg x:=by
 unfold Be;exact x!
def HP(x:AV):Prop:=0<=x.1/\x.1<64/\0<=x.2.1/\x.2.1<=1099511627776/\∀i,Ix (x.2.2 i)/\(x.2.1=0->(x.2.2 i).1=X)
def Mq{x}:Ao (Ha x) λr=>r=Y↔0<=x.1/\x.1<64/\0<=x.2.1/\x.2.1<=1099511627776:=by
 unfold Ha;exact x!
def ZU{x:AV}{s:W}(h:0<=s/\s<=16/\∀i:Fin 16,(i.val:W)<s->Ix (x.2.2 i)/\(x.2.1=0->(x.2.2 i).1=X)):Ao (Ad (No x) s) λr=>(r=.inl X/\¬ ∀i,Ix (x.2.2 i)/\(x.2.1=0->(x.2.2 i).1=X))\/(r=.inr ()/\∀i,Ix (x.2.2 i)/\(x.2.1=0->(x.2.2 i).1=X)):=by
 refine AW (λs=>0<=s/\s<=16/\∀i:Fin 16,(i.val:W)<s->Ix (x.2.2 i)/\(x.2.1=0->(x.2.2 i).1=X)) (λs=>(16-s).toNat) h (λs b=>?_);unfold No;exact x!
def Ot{x}:Ao (I1 x) λr=>r=Y↔∀i,Ix (x.2.2 i)/\(x.2.1=0->(x.2.2 i).1=X):=by
 unfold I1;exact x!
def fW{x}:Ao (ME x) λr=>r=Y↔HP x:=by
 unfold ME HP
 exact x!
def Oq{x}:Ao (Dv x) λr=>r=0->HP x:=by
 unfold Dv HP
 exact x!
def qZ(f:BH):Prop:=HP f.1/\(f.2.1=Y->1<=f.2.2.1/\f.2.2.1<=f.1.2.1)/\(f.2.1=X->f.2.2.1=0)
def Kv(l:E BH)(n:W):Prop:=(∀(i:U)(f:BH),i<n->l[i]?=D f->qZ f)/\∀(i j:U)(f g:BH),i<j->j<n->l[i]?=D f->l[j]?=D g->f.1.1≠g.1.1
def QI(x:Bw):Prop:=1<=x.1/\x.1<=64/\Z x.2.1<=x.1/\0<=x.2.2/\(Z x.2.1=0/\x.2.2=0\/x.2.2<Z x.2.1)/\Kv x.2.1 (Z x.2.1)
theorem Kv.step{l}{n:W}{f:BH}(e:0<=n)(h:Kv l n)(o:l[ο n]?=D f)(r:qZ f)(m:∀(j:U)(g:BH),j<n->l[j]?=D g->g.1.1≠f.1.1):Kv l (n+1):=by
 refine⟨λi g p b=>?_,λi j g k c q b d=>?_⟩;rcases mm i n with a|a;exact h.1 i g a b;grind;rcases mm j n with a|a;exact h.2 i j g k c a b d;have:j=ο n:=o!
 grind
theorem rT{l:E BH}{n:W}{f:BH}(c:0<=n)(d:n<Z l)(a:l[ο n]?=D f)(b:¬qZ f):¬Kv l (Z l):=λh=>b (h.1 (ο n) f o! a)
theorem rU{l:E BH}{n:W}{f:BH}(e:0<=n)(i:n<Z l)(d:l[ο n]?=D f)(c:∃(j:U)(g:BH),j<n/\l[j]?=D g/\g.1.1=f.1.1):¬Kv l (Z l):=λh=>by have⟨j,g,k,a,b⟩:=c;exact h.2 j (ο n) g f o! o! a d b
def II{x:Bw}{a:W}{b:BH}{s:W}(h:0<=s/\s<=a/\a<=Z x.2.1/\(Z x.2.1:W)<=16777216/\∀(j:U)(g:BH),j<s->x.2.1[j]?=D g->g.1.1≠b.1.1):Ao (Ad (Fp x a b) s) λr=>(r=.inl X/\∃(j:U)(g:BH),j<a/\x.2.1[j]?=D g/\g.1.1=b.1.1)\/(r=.inr ()/\∀(j:U)(g:BH),j<a->x.2.1[j]?=D g->g.1.1≠b.1.1):=by
 refine AW (λs=>0<=s/\s<=a/\a<=Z x.2.1/\(Z x.2.1:W)<=16777216/\∀(j:U)(g:BH),j<s->x.2.1[j]?=D g->g.1.1≠b.1.1) (λs=>(a-s).toNat) h (λs d=>?_);unfold Fp;exact x!
theorem Zd{x:Bw}{s:Int}(h:0<=s/\s<=x.2.1.length/\(x.2.1.length:Int)<=16777216/\Kv x.2.1 s):Ao (Ad (N3 x) s) λr=>(r= .inl false/\ ¬Kv x.2.1 x.2.1.length)\/(r= .inr ()/\Kv x.2.1 x.2.1.length):=by
 refine AW (λ(s:Int)=>0<=s/\s<=x.2.1.length/\(x.2.1.length:Int)<=16777216/\Kv x.2.1 s) (λ(s:Int)=>((x.2.1.length:Int)-s).toNat) h (λs d=>?_);unfold N3;repeat' with_reducible first|refine AC ?_ ?_<;>intro a|refine AP ?_ ?_<;>intro a|refine AK ?_ ?_<;>intro a|refine AJ ?_ ?_<;>intro a|(refine BB ?_;try dsimp only)|(refine Au ?_;try dsimp only)|(refine BE ?_ ?_<;>(intro u c;try subst c))|refine AB ?_|(refine AA (fW) ?_;intro r hr)|(refine AM ?_ (II ?_);intro r hr)|(refine AM ?_ (II ?_);intro r hr)|(refine AM ?_ (II ?_);intro r hr)|(refine AM ?_ (II ?_);intro r hr)|(refine AM ?_ (AE ?_ ?_);rintro r ⟨hr,f⟩)
 all_goals try (have e:=AX (x:=s+1) (by omega))
 all_goals first|omega|(exact⟨by omega,by omega,by omega,by omega,λj g b=>absurd b (by omega)⟩)|grind[Kv.step,rT,rU,qZ]
def Kv.zero(l:E BH):Kv l 0:=⟨λi f h=>O! h o!,λi j f g h a=>O! a o!⟩
def AKK(n h:W)(a:0<=n)(b:n<=64):(h>if wi (n-1)>0 then wi (n-1)else 0)↔¬(n=0/\h<=0\/h<n):=by grind[AX]
def EM{x}:Ao (Da x) λr=>r=Y↔QI x:=by
 unfold Da QI
 repeat' first
   |with_reducible apply AC<;>intro b
   |(with_reducible apply BE<;>(intro u a;try subst a))
   |with_reducible apply AB
   |(with_reducible refine AM ?_ (Zd ?_);intro r hr)
 all_goals try dsimp[len]at*
 all_goals first
  |(exact⟨o!,o!,o!,Kv.zero _⟩)
  |(have c:=AKK (Z x.2.1) x.2.2 o! o!;grind)
  |grind
def Oz{x}:Ao (G8 x) λr=>True:=by
 unfold G8;exact x!
def Vw{x}:Ao (FV x) λr=>True:=by
 unfold FV;exact x!
def GJ{x}:Ao (D6 x) λr=>True:=by
 unfold D6;exact x!
theorem aP{x:A9×Int×Cy}{s:Int}(h:0<=s/\s<=x.1.1.length/\(x.1.1.length:Int)<=16777216):Ao (Ad (O2 x) s) λr=>True:=by
 refine AW (λ(s:Int)=>0<=s/\s<=x.1.1.length/\(x.1.1.length:Int)<=16777216) (λ(s:Int)=>((x.1.1.length:Int)-s).toNat) h (λs b=>?_);unfold O2;repeat' with_reducible first|refine AC ?_ ?_<;>intro a|refine AT ?_ ?_<;>intro a|refine AJ ?_ ?_<;>intro a|refine AB ?_|(refine AM ?_ (AE ?_ ?_);rintro r ⟨hr,c⟩)
 all_goals ((try dsimp[len]at*);(try first|omega|assumption|grind[AX]))
def IH{x:A9×W×Cy}(h:Z x.1.1<=16777216):Ao (D7 x) λr=>True:=by
 unfold D7;exact x!
def GG(x:A9):Prop:=Z x.1<=16777216/\Z x.2<=16777216
def Rl{x:A9}{a:W}{s:W}(h:s<a/\ -1<=s/\0<=a/\a<Z x.1/\Z x.1<=16777216):Ao (Ad (Jb x a) s) λr=>r≠.inl Y:=by
 refine AW (λs=>s<a/\ -1<=s/\0<=a/\a<Z x.1/\Z x.1<=16777216) (λs=>(s+1).toNat) h (λs c=>?_);unfold Jb;exact x!
theorem ZZ{x:A9}{s:Int}(h:0<=s/\s<=x.1.length/\(x.1.length:Int)<=16777216):Ao (Ad (Nz x) s) λr=>r≠ .inl true:=by
 refine AW (λ(s:Int)=>0<=s/\s<=x.1.length/\(x.1.length:Int)<=16777216) (λ(s:Int)=>((x.1.length:Int)-s).toNat) h (λs c=>?_);unfold Nz;repeat' with_reducible first|refine AC ?_ ?_<;>intro a|refine AP ?_ ?_<;>intro a|refine AJ ?_ ?_<;>intro a|(refine BB ?_;try dsimp only)|(refine Au ?_;try dsimp only)|(refine BE ?_ ?_<;>(intro u b;try subst b))|refine AB ?_|(refine AA (Oz) ?_;intro r hr)|(refine AA (Vw) ?_;intro r hr)|(refine AM ?_ (Rl ?_);intro r hr)|(refine AM ?_ (Rl ?_);intro r hr)|(refine AM ?_ (AE ?_ ?_);rintro r ⟨hr,d⟩)
 all_goals ((try dsimp[len]at*);(try first|omega|assumption|grind[AX]|((try simp (disch:=omega) only[AX,len]at*)<;>(try intros)<;>(try and_intros)<;>(try intros)<;>(first|omega|assumption|grind))))
def Zb{x:A9}{a:W}{b}{s:W}(h:0<=s/\s<=a/\(a:W)<=16777216/\a<=Z x.2):Ao (Ad (N1 x a b) s) λr=>r≠.inl Y:=by
 refine AW (λs=>0<=s/\s<=a/\(a:W)<=16777216/\a<=Z x.2) (λs=>((a:W)-s).toNat) h (λs d=>?_);unfold N1;exact x!
theorem Za{x:A9}{s:Int}(h:0<=s/\s<=x.2.length/\(x.2.length:Int)<=16777216/\x.1.length<=16777216):Ao (Ad (N0 x) s) λr=>r≠ .inl true:=by
 refine AW (λ(s:Int)=>0<=s/\s<=x.2.length/\(x.2.length:Int)<=16777216/\x.1.length<=16777216) (λ(s:Int)=>((x.2.length:Int)-s).toNat) h (λs c=>?_);unfold N0;repeat' with_reducible first|refine AC ?_ ?_<;>intro a|refine AP ?_ ?_<;>intro a|refine AJ ?_ ?_<;>intro a|(refine BB ?_;try dsimp only)|(refine Au ?_;try dsimp only)|(refine BE ?_ ?_<;>(intro u b;try subst b))|refine AB ?_|(refine AA (Oz) ?_;intro r hr)|(refine AM ?_ (IH ?_);intro r hr)|(refine AM ?_ (Zb ?_);intro r hr)|(refine AM ?_ (AE ?_ ?_);rintro r ⟨hr,d⟩)
 all_goals ((try dsimp[len]at*);(try first|omega|assumption|grind[AX]))
def bO(x:A9):Prop:=Z x.1+Z x.2<=1024
def FG{x}(h:GG x):Ao (Dw x) λr=>r=Y->bO x:=by
 unfold Dw bO;unfold GG at h
 exact x!
def VTx(x:Ak):Prop:=Z x.2.2.2.2.1<=4096/\Z x.2.2.2.2.2<=8/\1<=x.1
def Z3(x:E Ak):Prop:=Z x<=64/\∀(i:U)(t:Ak),x[i]?=D t->VTx t
theorem Rm{x:Ak}{s:Int}(h:0<=s/\s<=x.2.2.2.2.1.length/\(x.2.2.2.2.1.length:Int)<=16777216):Ao (Ad (Jf x) s) λr=>r≠ .inl true:=by
 refine AW (λ(s:Int)=>0<=s/\s<=x.2.2.2.2.1.length/\(x.2.2.2.2.1.length:Int)<=16777216) (λ(s:Int)=>((x.2.2.2.2.1.length:Int)-s).toNat) h (λs b=>?_);unfold Jf;repeat' with_reducible first|refine AC ?_ ?_<;>intro a|refine AJ ?_ ?_<;>intro a|refine AB ?_|(refine AM ?_ (AE ?_ ?_);rintro r ⟨hr,c⟩)
 all_goals ((try dsimp[len]at*);(try first|omega|assumption|grind[AX]|((try simp (disch:=omega) only[AX,len]at*)<;>(try intros)<;>(try and_intros)<;>(try intros)<;>(first|omega|assumption|grind))))
theorem Rn{x:Ak}{s:Int}(h:0<=s/\s<=x.2.2.2.2.2.length/\(x.2.2.2.2.2.length:Int)<=16777216):Ao (Ad (Jg x) s) λr=>r≠ .inl true:=by
 refine AW (λ(s:Int)=>0<=s/\s<=x.2.2.2.2.2.length/\(x.2.2.2.2.2.length:Int)<=16777216) (λ(s:Int)=>((x.2.2.2.2.2.length:Int)-s).toNat) h (λs b=>?_);unfold Jg;repeat' with_reducible first|refine AC ?_ ?_<;>intro a|refine AJ ?_ ?_<;>intro a|refine AB ?_|(refine AM ?_ (AE ?_ ?_);rintro r ⟨hr,c⟩)
 all_goals ((try dsimp[len]at*);(try first|omega|assumption|grind[AX]|((try simp (disch:=omega) only[AX,len]at*)<;>(try intros)<;>(try and_intros)<;>(try intros)<;>(first|omega|assumption|grind))))
def fj{x}:Ao (MP x) λr=>r=Y->VTx x:=by
 unfold MP VTx
 exact x!
theorem Zg{x:List Ak}{s:Int}(h:0<=s/\s<=x.length/\(x.length:Int)<=16777216/\ ∀(i:Nat) (t:Ak),i<s->x[i]? =some t->VTx t):Ao (Ad (N5 x) s) λr=>r= .inl false\/(r= .inr ()/\ ∀(i:Nat) (t:Ak),x[i]? =some t->VTx t):=by
 refine AW (λ(s:Int)=>0<=s/\s<=x.length/\(x.length:Int)<=16777216/\ ∀(i:Nat) (t:Ak),i<s->x[i]? =some t->VTx t) (λ(s:Int)=>((x.length:Int)-s).toNat) h (λs b=>?_);unfold N5;repeat' with_reducible first|refine AC ?_ ?_<;>intro a|refine AP ?_ ?_<;>intro a|refine AJ ?_ ?_<;>intro a|refine AB ?_|(refine AA (fj) ?_;intro r hr)|(refine AM ?_ (AE ?_ ?_);rintro r ⟨hr,c⟩)
 all_goals ((try dsimp[len]at*);(try first|omega|assumption|grind[AX]|((try simp (disch:=omega) only[AX,len]at*)<;>(try intros)<;>(try and_intros)<;>(try intros)<;>(first|omega|assumption|grind))))
def Du{x}:Ao (Dy x) λr=>r=Y->Z3 x:=by
 unfold Dy Z3
 exact x!
def oM(x:Bt):Prop:=1<=Z x/\Z x<=64
def kp{x}:Ao (Gy x) λr=>True:=by
 unfold Gy;exact x!
theorem Ze{x:Bt}{s:Int}(h:0<=s/\s<=x.length/\(x.length:Int)<=16777216):Ao (Ad (Jd x) s) λr=>r≠ .inl true:=by
 refine AW (λ(s:Int)=>0<=s/\s<=x.length/\(x.length:Int)<=16777216) (λ(s:Int)=>((x.length:Int)-s).toNat) h (λs b=>?_);unfold Jd;repeat' with_reducible first|refine AC ?_ ?_<;>intro a|refine AP ?_ ?_<;>intro a|refine AT ?_ ?_<;>intro a|refine AK ?_ ?_<;>intro a|refine AJ ?_ ?_<;>intro a|refine AB ?_|(refine AA (kp) ?_;intro r hr)|(refine AM ?_ (AE ?_ ?_);rintro r ⟨hr,c⟩)
 all_goals ((try dsimp[len]at*);(try first|omega|assumption|grind[AX]))
def GA{x}:Ao (Dx x) λr=>r=Y->oM x:=by
 unfold Dx oM
 exact x!
theorem WK{x:List Ah×Int}{s:Int}(h:0<=s/\s<=x.1.length/\(x.1.length:Int)<=16777216):Ao (Ad (G2 x) s) λr=>r≠ .inl true:=by
 refine AW (λ(s:Int)=>0<=s/\s<=x.1.length/\(x.1.length:Int)<=16777216) (λ(s:Int)=>((x.1.length:Int)-s).toNat) h (λs b=>?_);unfold G2;repeat' with_reducible first|refine AC ?_ ?_<;>intro a|refine AJ ?_ ?_<;>intro a|refine AB ?_|(refine AM ?_ (AE ?_ ?_);rintro r ⟨hr,c⟩)
 all_goals ((try dsimp[len]at*);(try first|omega|assumption|grind[AX]|((try simp (disch:=omega) only[AX,len]at*)<;>(try intros)<;>(try and_intros)<;>(try intros)<;>(first|omega|assumption|grind))))
def Qa{x:E Ah×W}(h:Z x.1<=16777216):Ao (FJ x) λr=>True:=by
 unfold FJ;exact x!
theorem CZ{b:Type}{l:E b}{i:U}{a:b}(h:l[i]?=D a):i<Z l:=q!
def cI(p:W)(e:AI):Bool:=((e.2.1==1)||(e.2.1==2))&&(e.2.2.2.2.2.2.1.1==p)
def BW(L:E AI)(p:W):W:=L.foldl (λa e=>if cI p e then e.1 else a) 0
theorem QE(L:E AI)(e:AI)(p:W):BW (L++[e]) p=if cI p e then e.1 else BW L p:=by simp[BW,mu,mw,List.foldl_nil]
def upd(x:AV)(e:AI):AV:=(x.1,e.1,Xw x.2.2 e.2.2.2.2.2.2.1.2.1 e.2.2.2.2.2.2.1.2.2.2)
def st(L:E AI)(p:W):AV:=(L.filter (cI p)).foldl upd (p,0,F5.all (X,[]))
def ADJ(L M:E AI)(p:W):st (L++M) p=(M.filter (cI p)).foldl upd (st L p):=by unfold st;rw[F7,mu]
theorem ACQ(L:E AI)(e:AI)(p:W):st (L++[e]) p=if cI p e then upd (st L p) e else st L p:=by rw[ADJ,LR,ms];split<;>rfl
def ADq(L:E AI)(x:AV):(L.foldl upd x).1=x.1:=by
 induction L generalizing x with
 |nil=>rfl
 |cons e L a=>exact a (upd x e)
theorem S0(L:E AI)(p:W):(st L p).1=p:=ADq _ _
theorem Kh(L:E AI)(p:W):(st L p).2.1=BW L p:=by
 suffices h:∀(L:E AI)x,((L.filter (cI p)).foldl upd x).2.1=L.foldl (λa e=>if cI p e then e.1 else a) x.2.1 from h L _
 intro L;induction L with
 |nil=>exact λx=>rfl
 |cons e L b=>intro x;rw[LR,mw];split;exact b (upd x e);exact b x
def zN(n:W)(L:E AI)(D:E Ah)(R:E BP):Prop:=
 ∀p,0<=p->p<n->(∀d∈D,d.1=p->d.2.2=BW L p)/\∀r,R[p.toNat]?=δ r->r.1<=BW L p/\((∀d∈D,d.1≠p)->r.1=BW L p)
def KP(n:W)(L:E AI)(F:E BH)(D:E Ah)(R:E BP):Prop:=
 ∀p,0<=p->p<n->(∀f∈F,f.1.1=p->f.1=st L p)/\(∀d∈D,d.1=p->d.2.2=BW L p)/\
  ∀r,R[p.toNat]?=δ r->r.1<=BW L p/\((∀d∈D,d.1≠p)->(∀f∈F,f.1.1=p->f.2.1=X)->r.1=BW L p)
def EOK(n:W)(M:E AI)(e:AI):Prop:=
 (e.2.1=1\/e.2.1=2->e.2.2.2.2.1=BW M e.2.2.2.2.2.2.1.1/\F4 (st M e.2.2.2.2.2.2.1.1).2.2 e.2.2.2.2.2.2.1.2.1=D e.2.2.2.2.2.2.1.2.2.1/\e.2.2.2.2.2.2.1.1<n)/\(e.2.1=7->e.2.2.2.2.2.1=BW M e.2.2.2.2.2.2.1.1)/\
  (e.2.1=6->∀c,DM e.2.2.2.2.2.2.2=D (c,0)->c.1=n->zN n M c.2.2.2.1 c.2.2.2.2)/\e.2.1≠8
def LI(n:W)(L:E AI):Prop:=∀(i:U)(e:AI),L[i]?=D e->EOK n (L.take i) e
def LI.nil(n:W):LI n []:=λi e h=>by simp at h
def LI.app{n}{L}{e}(h:LI n L)(c:EOK n L e):LI n (L++[e]):=by intro i f b;rcases RY i (Z L)with a|a|a;rw[CW a]at b;rw[gY o!];exact h i f b;grind;grind[u?]
def LI.pre{n}{L T:E AI}(h:LI n (L++T)):LI n L:=by intro i f a;have:=h i f q!;grind
def FD(B:W->Prop)(n:W)(F:E BH)(D:E Ah):Prop:=∀f∈F,0<=f.1.1/\f.1.1<n/\(∀d∈D,d.1≠f.1.1)/\B f.1.1
variable {B:Int->Prop}
def KI(B:W->Prop)(k:AQ):Prop:=LI k.1 k.2.2.1.2.1/\KP k.1 k.2.2.1.2.1 k.2.2.2.1.2.1 k.2.2.2.2.2.2.2 k.2.2.2.2.2.2.1/\FD B k.1 k.2.2.2.1.2.1 k.2.2.2.2.2.2.2
def FD.sub{n}{F G:E BH}{D_}(h:FD B n F D_)(a:∀g∈G,∃f∈F,f.1.1=g.1.1/\f.1=g.1):FD B n G D_:=by intro g c;have⟨f,b,e,_⟩:=a g c;rw[<-e];exact h f b
def pu{p b:W}:∀(L:E AI)(a:W),a<b->(∀e∈L,e.1<b)->L.foldl (λa e=>if cI p e then e.1 else a) a<b
 |[],a,ha,_=>ha
 |e::L,a,ha,h=>by refine pu L _ ?_ λf c=>h f (CQ _ c);show(if cI p e=Y then e.1 else a)<b;split;exact h e H4;exact ha
def nL{l}(h:Dg l)(p:W):BW l.2.1 p<l.1+Z l.2.1:=by have⟨a,_,_,_,_,b⟩:=h;refine pu _ _ o! λe c=>?_;grind[List.getElem?_of_mem]
def KP.app{n}{L}{F}{D}{R}{e:AI}(h:KP n L F D R)(c:e.2.1≠1/\e.2.1≠2):KP n (L++[e]) F D R:=by intro p a b;rw[(by grind[QE,cI]:BW (L++[e]) p=BW L p),(by grind[ACQ,cI]:st (L++[e]) p=st L p)];exact h p a b
def KP.frames{n:W}{L:E AI}{F G:E BH}{D_:E Ah}{R:E BP}(h:KP n L F D_ R)
  (m:∀g∈G,∃f∈F,f.1.1=g.1.1/\f.1=g.1) (o:∀f∈F,f.2.1=Y->∃g∈G,g.1.1=f.1.1/\g.2.1=Y):KP n L G D_ R:=by
 intro p w x;obtain⟨a,b,c⟩:=h p w x;refine⟨λg v e=>?_,b,λr hr=>⟨(c r hr).1,λt u=>(c r hr).2 t λf d e=>?_⟩⟩;obtain⟨f,d,j,k⟩:=m g v;rw[<-k];exact a f d (j.trans e);cases s:f.2.1 with
 |false=>rfl
 |true=>obtain⟨g,q,l,i⟩:=o f d s;rw[u g q (l.trans e)]at i;cases i
def KP.written{n:W}{L:E AI}{F G:E BH}{D_:E Ah}{R:E BP}{q d:W}{w:BP}(h:KP n L F D_ R)(B:0≤q)(A_:d=BW L q)(C:q<n)
  (s:∀g∈G,∃f∈F,f.1.1=g.1.1/\f.1=g.1) (t:∀f∈F,f.1.1≠q->f∈G) (l:R[ο q]?=D w):
  KP n L G D_ (R.set (ο q) ((if d>w.1 then d else w.1),w.2)):=by
 intro p y z;obtain⟨a,b,c⟩:=h p y z;refine⟨λg x e=>?_,b,λr hr=>?_⟩;obtain⟨f,i,m,o⟩:=s g x;rw[<-o];exact a f i (m.trans e);by_cases k:p=q;subst k;have j:p.toNat<Z R:=by rcases Aw p.toNat (Z R)with h|h;exact h;rw[Cn h]at l;cases l
 rw[GY j]at hr;have:=(c w l).1;have e:r.1=BW L p:=by rw[<-BL hr];dsimp only;split<;>omega
 exact⟨o!,λ_ _=>e⟩;rw[DT o!]at hr;refine⟨(c r hr).1,λu v=>(c r hr).2 u λf i e=>?_⟩;exact v f (t f i o!) e
def ADH{F:E BH}{i:U}{f n:BH}(a:F[i]?=D f)(hn:n.1=f.1):∀g∈F.set i n,∃f∈F,f.1.1=g.1.1/\f.1=g.1:=q!
def zE{F:E BH}{i:U}{f n:BH}(c:F[i]?=D f):∀g∈F,g.1.1≠f.1.1->g∈F.set i n:=by intro g a b;have⟨j,d⟩:=Cu a;apply BQ (i:=j);grind
def KP.change{n:W}{L:Ψ AI}{F:Ψ BH}{D_:Ψ Ah}{R:Ψ BP}{e:AI}{i:U}{f g:BH}(h:KP n L F D_ R)(G:FD B n F D_)
  (t:e.2.1=1\/e.2.1=2) (u:F[i]?=D f) (I:f.1.1=e.2.2.2.2.2.2.1.1) (v:g.1=upd f.1 e) (y:g.2.1=Y)
  (J:∀j k,F[j]?=D k->k.1.1=f.1.1->j=i) (H:BW L f.1.1<e.1):KP n (L++[e]) (F.set i g) D_ R:=by
 have w:i<Z F:=by rcases Aw i (Z F)with h|h;exact h;rw[Cn h]at u;cases u
 have A_:g∈F.set i g:=BQ (i:=i) (GY w);have C:g.1.1=f.1.1:=by rw[v];rfl
 intro p K M;obtain⟨a,b,c⟩:=h p K M;have E:cI p e=(f.1.1==p):=by rw[I];unfold cI;rcases t with h|h<;>simp[h]
 rw[QE,ACQ,E];by_cases l:f.1.1=p;subst l;rw[L!,C! rfl,C! rfl];refine⟨λk t m=>?_,λd o m=>O! m ((G f (BQ u)).2.2.1 d o),λr hr=>⟨by have:=(c r hr).1;omega,λ_ q=>?_⟩⟩;obtain⟨j,x⟩:=Cu t;by_cases s:j=i;subst s;rw[GY w]at x;rw[<-BL x,v];exact E! (upd · e) (a f (BQ u) rfl);rw[DT (s ·.symm)]at x;exact O! (J j k x m) s;have:=q g A_ C;rw[y]at this;cases this;rw[D! (by simpa using l),D! (by simpa using l)];refine⟨λk t m=>?_,b,λr hr=>⟨(c r hr).1,λo q=>(c r hr).2 o λk t m=>?_⟩⟩;rcases Wt t with h|h;exact a k h m;subst h;exact O! (C.symm.trans m) l;exact q k (zE u k t o!) m
def FD.set{n}{F}{D_}{i:U}{f g:BH}(h:FD B n F D_)(b:F[i]?=D f)(c:g.1.1=f.1.1):FD B n (F.set i g) D_:=by intro k d;rcases Wt d with a|a;exact h k a;subst a;rw[c];exact h f (BQ b)
def KP.supply{n:W}{L:E AI}{F:E BH}{D_ l:E Ah}{R:E BP}{x:AV}{g:BH}(h:KP n L F D_ R)(y:x=st L x.1)
  (w:∀f∈F,f.1.1≠x.1) (t:g.1=x) (i:(g.2.1=Y/\l=D_.filter λd=>d.1 !=x.1)\/(g.2.1=X/\(∀d∈D_,d.1≠x.1)/\l=D_)):KP n L (F++[g]) l R:=by
 intro p z A_;obtain⟨a,b,c⟩:=h p z A_;have v:∀d∈l,d∈D_:=by rcases i with⟨_,e⟩|⟨_,_,e⟩<;>subst e;exact λd i=>(BZ.1 i).1;exact λd i=>i
 refine⟨λf j e=>?_,λd i=>b d (v d i),λr hr=>⟨(c r hr).1,λq s=>(c r hr).2 ?_ λf j=>s f (FA _ j)⟩⟩;rcases Al.1 j with j|j;exact a f j e;rw[A7]at j;subst j;rw[t]at e⊢;rw[<-e];exact y;intro d k e;rcases i with⟨u,o⟩|⟨_,_,o⟩<;>subst o;by_cases m:p=x.1;have:=s g k! (by rw[t,m]);rw[u]at this;cases this;exact q d (BZ.2 ⟨k,w!⟩) e;exact q d k e
def FD.supply{n}{F}{D_ b:E Ah}{p:W}{g:BH}(h:FD B n F D_)(k:0<=p)(l:p<n)(i:B p)(j:g.1.1=p)(e:∀d∈b,d∈D_)(hn:∀d∈b,d.1≠p):FD B n (F++[g]) b:=by intro f a;rcases Al.1 a with a|a;exact⟨(h f a).1,(h f a).2.1,λd c=>(h f a).2.2.1 d (e d c),(h f a).2.2.2⟩;grind
end Go.Pm
namespace Go.Pm
open Go Go.Ab
variable {B:Int->Prop}
def SB(k:AQ):Prop:=GG k.2.2.2.2.1/\Z k.2.2.2.2.2.1<=16777216/\Z k.2.2.2.2.2.2.2<=16777216
def SK(B:W->Prop)(k:AQ):Prop:=GG k.2.2.2.2.1/\Z k.2.2.2.2.2.1<=16777216/\Z k.2.2.2.2.2.2.2<=16777216/\KI B k
def SK.sb{k}(h:SK B k):SB k:=⟨h.1,h.2.1,h.2.2.1⟩
def SK.ki{k}(h:SK B k):KI B k:=h.2.2.2
def SB.sk{k}(h:SB k)(g:KI B k):SK B k:=⟨h.1,h.2.1,h.2.2,g⟩
def VK(k:AQ):Prop:=1<=k.1/\k.1<=64/\Dg k.2.2.1/\QI k.2.2.2.1/\bO k.2.2.2.2.1/\Z3 k.2.2.2.2.2.1/\oM k.2.2.2.2.2.2.1/\Z k.2.2.2.2.2.2.1=k.1
def fq{x}(h:SB x):Ao (MU x) λr=>r=Y->VK x:=by
 unfold MU VK;unfold SB at h
 exact x!
theorem Zh{x:AQ×Int}{s:Int×Ah}(h:0<=s.1/\s.1<=x.1.2.2.2.2.2.2.2.length/\x.1.2.2.2.2.2.2.2.length<=16777216/\ ∀(i:Nat) (d:Ah),i<s.1->x.1.2.2.2.2.2.2.2[i]? =some d->d.1≠x.2):Ao (Ad (N7 x) s) λr=>(∃d∈x.1.2.2.2.2.2.2.2,r= .inl (true,d)/\d.1=x.2)\/ ∃z,r= .inr z/\ ∀d∈x.1.2.2.2.2.2.2.2,d.1≠x.2:=by
 refine AW (λ(s:Int×Ah)=>0<=s.1/\s.1<=x.1.2.2.2.2.2.2.2.length/\x.1.2.2.2.2.2.2.2.length<=16777216/\ ∀(i:Nat) (d:Ah),i<s.1->x.1.2.2.2.2.2.2.2[i]? =some d->d.1≠x.2) (λ(s:Int×Ah)=>((x.1.2.2.2.2.2.2.2.length:Int)-s.1).toNat) h (λs j=>?_);have⟨c,m,f,g⟩:=j;unfold N7;refine AC (λa=>?_) (λa=>AB (.inr ⟨_,rfl,λd b=>?_⟩))
 ·simp[len]at a;refine AA (AE c a) λv o=>?_;refine AT ?_ ?_<;>intro n
  ·grind[AA,AE,AB,Option.some.inj]
  ·have e:=AX (x:=s.1+1) (by omega);refine AB ⟨⟨by dsimp only;omega,by dsimp only;omega,f,λi d k b=>?_⟩,by dsimp only;omega⟩;dsimp only at k;by_cases l:(i:Int)<s.1
   ·exact g i d l b
   ·have:i=s.1.toNat:=by omega
    grind[Option.some.inj]
 ·grind[List.getElem?_of_mem,Nat.lt_or_ge,List.getElem?_eq_none]
def KM{x:AQ×W}(h:SB x.1):Ao (Et x) λr=>(r.2=Y->r.1∈x.1.2.2.2.2.2.2.2/\r.1.1=x.2)/\(r.2=X->∀d∈x.1.2.2.2.2.2.2.2,d.1≠x.2):=by unfold Et;refine AA (Zh ⟨o!,d!,h.2.2,λi d a=>O! a d!⟩) λv b=>?_;grind[BB,AB,Au]
theorem Zi{x:AQ}{s:Int}(h:0<=s/\s<=x.2.2.2.2.2.1.length/\(x.2.2.2.2.2.1.length:Int)<=16777216):Ao (Ad (N8 x) s) λr=>r≠ .inl true:=by
 refine AW (λ(s:Int)=>0<=s/\s<=x.2.2.2.2.2.1.length/\(x.2.2.2.2.2.1.length:Int)<=16777216) (λ(s:Int)=>((x.2.2.2.2.2.1.length:Int)-s).toNat) h (λs b=>?_);unfold N8;repeat' with_reducible first|refine AC ?_ ?_<;>intro a|refine AJ ?_ ?_<;>intro a|refine AB ?_|(refine AM ?_ (AE ?_ ?_);rintro r ⟨hr,c⟩)
 all_goals ((try dsimp[len]at*);(try first|omega|assumption|grind[AX]))
theorem Zj{x:AQ}{s:Int}(h:0<=s/\s<=x.2.2.2.1.2.1.length/\(x.2.2.2.1.2.1.length:Int)<=16777216/\SB x):Ao (Ad (N9 x) s) λr=>r≠ .inl true:=by
 refine AW (λ(s:Int)=>0<=s/\s<=x.2.2.2.1.2.1.length/\(x.2.2.2.1.2.1.length:Int)<=16777216/\SB x) (λ(s:Int)=>((x.2.2.2.1.2.1.length:Int)-s).toNat) h (λs b=>?_);unfold N9;repeat' with_reducible first|refine AC ?_ ?_<;>intro a|refine AJ ?_ ?_<;>intro a|refine AB ?_|(refine AM ?_ (KM ?_);intro r hr)|(refine AM ?_ (AE ?_ ?_);rintro r ⟨hr,c⟩)
 all_goals ((try dsimp[len]at*);(try first|omega|assumption|grind[AX]))
theorem Zk{x:AQ}{s:Int}(h:0<=s/\s<=x.2.2.2.2.1.1.length/\(x.2.2.2.2.1.1.length:Int)<=16777216):Ao (Ad (OA x) s) λr=>r≠ .inl true:=by
 refine AW (λ(s:Int)=>0<=s/\s<=x.2.2.2.2.1.1.length/\(x.2.2.2.2.1.1.length:Int)<=16777216) (λ(s:Int)=>((x.2.2.2.2.1.1.length:Int)-s).toNat) h (λs b=>?_);unfold OA;repeat' with_reducible first|refine AC ?_ ?_<;>intro a|refine AJ ?_ ?_<;>intro a|refine AB ?_|(refine AM ?_ (AE ?_ ?_);rintro r ⟨hr,c⟩)
 all_goals ((try dsimp[len]at*);(try first|omega|assumption|grind[AX]))
theorem Zl{x:AQ}{s:Int}(h:0<=s/\s<=x.2.2.2.2.1.2.length/\(x.2.2.2.2.1.2.length:Int)<=16777216):Ao (Ad (OB x) s) λr=>r≠ .inl true:=by
 refine AW (λ(s:Int)=>0<=s/\s<=x.2.2.2.2.1.2.length/\(x.2.2.2.2.1.2.length:Int)<=16777216) (λ(s:Int)=>((x.2.2.2.2.1.2.length:Int)-s).toNat) h (λs b=>?_);unfold OB;repeat' with_reducible first|refine AC ?_ ?_<;>intro a|refine AJ ?_ ?_<;>intro a|refine AB ?_|(refine AM ?_ (AE ?_ ?_);rintro r ⟨hr,c⟩)
 all_goals ((try dsimp[len]at*);(try first|omega|assumption|grind[AX]))
def B3{x}(h:SB x):Ao (Bf x) λr=>r=Y->VK x:=by
 unfold Bf;exact x!
theorem aT{x:List Ak×Int}{s:Int}(h:0<=s/\s<=x.1.length/\(x.1.length:Int)<=16777216):Ao (Ad (KJ x) s) λr=> ∀u,r= .inl u->0<=u/\u<x.1.length/\ ∃t,x.1[u.toNat]? =some t/\t.1=x.2:=by
 refine AW (λ(s:Int)=>0<=s/\s<=x.1.length/\(x.1.length:Int)<=16777216) (λ(s:Int)=>((x.1.length:Int)-s).toNat) h (λs b=>?_);unfold KJ;repeat' with_reducible first|refine AC ?_ ?_<;>intro a|refine AT ?_ ?_<;>intro a|refine AJ ?_ ?_<;>intro a|refine AB ?_|(refine AM ?_ (AE ?_ ?_);rintro r ⟨hr,c⟩)
 all_goals ((try dsimp[len]at*);(try first|omega|assumption|grind[AX]))
def IL{x:E Ak×W}(h:Z x.1<=16777216):Ao (Ed x) λr=> -1<=r/\r<Z x.1/\(0<=r->∃t,x.1[r.toNat]?=D t/\t.1=x.2):=by
 unfold Ed;exact x!
def Ec{x:E Ak×W}(h:Z x.1<=16777216):Ao (CV x) λr=> -1<=r/\r<Z x.1/\(0<=r->∃t,x.1[r.toNat]?=D t/\t.1=x.2):=by
 unfold CV;exact x!
def pB(p:Bw)(id:W):Prop:=∃(i:U)(f:BH),p.2.1[i]?=D f/\f.1.1=id
theorem aS{x:Bw×Int}{s:Int}(h:0<=s/\s<=x.1.2.1.length/\(x.1.2.1.length:Int)<=16777216/\ ∀(i:Nat) (f:BH),i<s->x.1.2.1[i]? =some f->f.1.1≠x.2):Ao (Ad (O3 x) s) λr=>(∃u,r= .inl u/\0<=u/\u<x.1.2.1.length/\ ∃f,x.1.2.1[u.toNat]? =some f/\f.1.1=x.2)\/(r= .inr ()/\ ¬pB x.1 x.2):=by
 refine AW (λ(s:Int)=>0<=s/\s<=x.1.2.1.length/\(x.1.2.1.length:Int)<=16777216/\ ∀(i:Nat) (f:BH),i<s->x.1.2.1[i]? =some f->f.1.1≠x.2) (λ(s:Int)=>((x.1.2.1.length:Int)-s).toNat) h (λs b=>?_);unfold O3;repeat' with_reducible first|refine AC ?_ ?_<;>intro a|refine AT ?_ ?_<;>intro a|refine AJ ?_ ?_<;>intro a|refine AB ?_|(refine AM ?_ (AE ?_ ?_);rintro r ⟨hr,c⟩)
 all_goals try (have e:=AX (x:=s+1) (by omega))
 all_goals first|omega|grind[pB]
def Gg{x:Bw×W}(h:Z x.1.2.1<=16777216):Ao (FW x) λr=> -1<=r/\r<Z x.1.2.1/\(0<=r->∃f,x.1.2.1[r.toNat]?=D f/\f.1.1=x.2)/\(r<0->¬pB x.1 x.2):=by refine AA (aS (by refine⟨o!,o!,o!,λi f a=>O! a o!⟩)) λs b=>?_;grind[BB,AB,Au]
def Fe{x}:Ao (D8 x) λr=> -1<=r/\r<Z x.1.2.1/\(0<=r->QI x.1/\∃f,x.1.2.1[r.toNat]?=D f/\f.1.1=x.2)/\(QI x.1->pB x.1 x.2->0<=r):=by
 unfold D8;exact x!
def I7{x}:Ao (Ft x) λr=>(r.2=Y->QI x.1/\HP r.1/\pB x.1 x.2/\r.1.1=x.2/\∃f∈x.1.2.1,f.1=r.1)/\(r.2=X->QI x.1->¬pB x.1 x.2):=by
 unfold Ft;exact x!
theorem Dg.last{x}(h:Dg x):wi (wi (x.1+len x.2.1)-1)=x.1+Z x.2.1-1:=by have⟨a,b,c,d,e,f⟩:=h;grind[AX]
def Dg.at{x}{n:W}{e:AI}(h:Dg x)(a:x.1<=n)(b:n<=x.1+Z x.2.1-1)(c:x.2.1[(wi (n-x.1)).toNat]?=D e):Ml e/\e.1=n:=by have⟨a1,a2,a3,a4,a5,a6⟩:=h;grind[AX]
theorem Dg.append{x}{e}{l:E AI}(h:Dg x)(b:Z x.2.1≠4096)(d:Ml e)(c:e.1=x.1+Z x.2.1)(a:l=x.2.1++[e]):Dg (x.1,l,x.2.2):=by have⟨a1,a2,a3,a4,a5,a6⟩:=h;subst a;refine⟨a1,a2,w!,a4,w!,λi f g=>?_⟩;grind[Nat.lt_or_ge,List.getElem?_append_right,u?]
def Dg.force{x}{n:W}(h:Dg x)(a:n<=x.1+Z x.2.1-1):Dg (x.1,x.2.1,if n>x.2.2 then n else x.2.2):=by have⟨a1,a2,a3,a4,a5,a6⟩:=h;refine⟨a1,a2,a3,?_,?_,a6⟩<;>(dsimp only;split<;>omega)
def Gf{x}:Ao (FT x) λr=>Dg x->r=x.1+Z x.2.1-1:=by
 unfold FT;exact x!
theorem KG{x:Aa×Int}:Ao (EH x) λr=>(r.2=0->Dg r.1/\r.1.2.1=x.1.2.1/\r.1.1=x.1.1/\x.1.2.2<=r.1.2.2/\x.2<=r.1.2.2):=by
 unfold EH;repeat' with_reducible first|refine AC ?_ ?_<;>intro a|refine AP ?_ ?_<;>intro a|refine AJ ?_ ?_<;>intro a|refine AB ?_|(refine AA (BM) ?_;intro r hr)|(refine AA (Ea) ?_;intro r hr)
 all_goals try (intro _;have b:Dg x.1:=by grind
                have c:=b.last;exact⟨b.force (by omega),rfl,rfl,by dsimp only;split<;>omega,by dsimp only;split<;>omega⟩)
 all_goals ((try dsimp[len]at*);(try first|omega|assumption|grind[AX]))
theorem G7{x}:Ao (E2 x) λr=>(r.2=0->Ml r.1/\r.1.1=x.2/\x.1.2.1[(x.2-x.1.1).toNat]?=D r.1/\x.1.1<=x.2)/\(Dg x.1->x.1.1<=x.2->x.2<=x.1.1+Z x.1.2.1-1->r.2=0):=by
 unfold E2;repeat' with_reducible first|intro c|apply AC|apply AP|apply AJ|apply AB|(apply AA (BM);intro r hr)|(apply AA (Ea);intro r hr)|(refine AM ?_ (AE ?_ ?_);rintro r ⟨hr,f⟩)
 all_goals try (have a:Dg x.1:=q!)
 all_goals try (have e:=a.last;have:=a.1;have:=a.2.1;have:=a.2.2.1)
 all_goals try (have d:wi (x.2-x.1.1)=x.2-x.1.1:=AX)
 all_goals try (have b:=a.at (n:=x.2) o! o! hr;rw[d]at hr;exact⟨λ_=>⟨b.1,b.2,hr,o!⟩,λ_ _ _=>rfl⟩)
 all_goals exact l!
def cV{x}:Ao (K4 x) λr=>(r.2.2=0->Dg r.1/\Dg x.1/\r.1.2.1=x.1.2.1++[(r.2.1,x.2.2)]/\r.1.1=x.1.1/\r.2.1=x.1.1+Z x.1.2.1/\r.1.2.2=x.1.2.2):=by
 unfold K4;repeat' with_reducible first|intro b|apply AP|apply AT|apply AJ|apply AB|(apply AA (BM);intro r hr)|(apply AA (Ea);intro r hr)|(apply AA (Cf);intro r hr)|(refine AM ?_ (Ac ?_);rintro r ⟨hr,c,d⟩)
 all_goals try (have a:Dg x.1:=q!)
 all_goals try (have c:=a.last;have:=a.1;have:=a.2.1;have:=a.2.2.1)
 all_goals ((try dsimp[len]at*);(try first|omega|assumption|grind[AX,Dg.append]))
def CD{x}:Ao (BJ x) λr=>r=Y↔x.2.1=1\/x.2.1=2:=by
 unfold BJ;exact x!
end Go.Pm
namespace Go.Pm
open Go Go.Ab
def uB(n:W):0<=ι .u64 n:=by rw[Xt];omega
theorem gh(l:E W):(Gp l).length=Z l:=by simp[Gp]
def cN{x:Bc×W×W}{s:Bc×W}(h:0<=s.2/\s.2<=x.2.2/\x.2.2<=8/\(Z s.1:W)=Z x.1+s.2/\Z x.1<=1099511627776):Ao (Ad (Gc x) s) λr=>(Z r:W)=Z x.1+x.2.2:=by
 refine AW (λs=>0<=s.2/\s.2<=x.2.2/\x.2.2<=8/\(Z s.1:W)=Z x.1+s.2/\Z x.1<=1099511627776) (λs=>(x.2.2-s.2).toNat) h (λs b=>?_);unfold Gc;repeat' with_reducible first|intro a|apply AC|apply AJ|apply AB|apply cL|(refine AM ?_ (Cb ?_);rintro r ⟨hr,c⟩)
 all_goals try (have d:=uB (wi (8*s.2));omega)
 all_goals ((try dsimp[len]at*);(try first|omega|assumption|grind[AX,gh]))
def DZ{x:Bc×W×W}(h:Z x.1<=1099511627776):Ao (An x) λr=>(1<=x.2.2->x.2.2<=8->(Z r:W)=Z x.1+x.2.2)/\Z r<=Z x.1+8:=by
 unfold An;exact x!
def ADB{n:W}(h:n<=4):(2:W)^(8*ο n)<=4294967296:=by
 have:ο n=0\/ο n=1\/ο n=2\/ο n=3\/ο n=4:=o!
 rcases this with h|h|h|h|h<;>rw[h]<;>decide
def AHq{n:W}(h:n<=2):(2:W)^(8*ο n)<=65536:=by
 have:ο n=0\/ο n=1\/ο n=2:=o!
 rcases this with h|h|h<;>rw[h]<;>decide
def AFu{a b:W}{k:U}(e:0<=a)(c:a<2^k)(f:0<=b)(d:b<2^k)(g:k<=64):(0:W)<=((π (κ 64 a|||κ 64 b):U):W)/\((π (κ 64 a|||κ 64 b):U):W)<2^k:=by
 refine⟨o!,?_⟩;obtain⟨n,rfl⟩:=FY e;obtain⟨m,rfl⟩:=FY f;have hn:n<2^k:=by exact_mod_cast c
 have h:m<2^k:=by exact_mod_cast d
 have i:2^k<=2^64:=ga g! g;rw[BitVec.toNat_or];simp[qd,qe];rw[Ww o!,Ww o!];exact_mod_cast Nat.or_lt_two_pow hn h
def AAM{a v i:W}(d:0≤i)(e:i<8)(c:0≤a)(b:a<2^(8*ο i))(g:0≤v)(h:v<256):
  0<=ι .u64 (((π ((κ 64 a)|||(κ 64 (ι .u64 ((ι .u64 v)*(2^(min (ο (ι .u64 (wi (8*i)))) 64))))))):U):W)/\
  ι .u64 (((π ((κ 64 a)|||(κ 64 (ι .u64 ((ι .u64 v)*(2^(min (ο (ι .u64 (wi (8*i)))) 64))))))):U):W)<2^(8*(wi (i+1)).toNat):=by
 rw[(AX),AX,(by rw[Xt];omega:ι .u64 (8*i)=8*i),(by rw[Xt];omega:ι .u64 v=v)];obtain⟨n,rfl⟩:=FY d;obtain⟨m,rfl⟩:=FY g;rw[(by omega:min (8*(n:W)).toNat 64=8*n)];rw[(by omega:((n:W)+1).toNat=n+1)];rw[(by omega:((n:W)).toNat=n)]at b;have f:(m:W)*2^(8*n)<2^(8*(n+1)):=by
  have:(m*2^(8*n):U)<2^(8*(n+1)):=by rw[(by grind[Nat.mul_add,Nat.pow_add]:2^(8*(n+1))=256*2^(8*n))];exact Nat.mul_lt_mul_of_pos_right o! (Nat.pow_pos g!)
  exact_mod_cast this
 have l:(2:W)^(8*(n+1))<=2^64:=by have:(2^(8*(n+1)):U)<=2^64:=ga g! o!;exact_mod_cast this
 have j:(0:W)<=(m:W)*2^(8*n):=by
  have:(0:W)<=((m*2^(8*n):U):W):=o!
  exact_mod_cast this
 rw[(by rw[Xt];omega:ι .u64 ((m:W)*2^(8*n))=(m:W)*2^(8*n))];have⟨o,p⟩:=AFu (k:=8*(n+1)) c (by grind[Nat.pow_le_pow_right]) j f o!;grind[π,Xt]
def cM{x:Bc×W×W}{s:W×W}(h:0<=s.2/\s.2<=x.2.2/\x.2.2<=8/\0<=x.2.1/\x.2.1+x.2.2<=Z x.1/\Z x.1<=1099511627776/\0<=s.1/\s.1<2^(8*s.2.toNat)):Ao (Ad (Gb x) s) λr=>0<=r/\r<2^(8*x.2.2.toNat):=by
 refine AW (λs=>0<=s.2/\s.2<=x.2.2/\x.2.2<=8/\0<=x.2.1/\x.2.1+x.2.2<=Z x.1/\Z x.1<=1099511627776/\0<=s.1/\s.1<2^(8*s.2.toNat)) (λs=>(x.2.2-s.2).toNat) h (λs n=>?_);unfold Gb;have⟨d,q,f,g,j,k,l,m⟩:=n;repeat' with_reducible first|intro o|apply AC|apply AJ|apply AB|apply cL|(refine AM ?_ (Vm ?_ ?_);rintro r ⟨hr,p⟩)
 all_goals try (have t:=uB (wi (8*s.2));omega)
 all_goals (first|(have⟨b,c⟩:=AAM (a:=s.1) (v:=r) (i:=s.2) d o! l m hr p;have e:=AX (x:=s.2+1);exact⟨⟨o!,o!,f,g,j,k,b,c⟩,d!⟩)|skip)
 all_goals exact l!
theorem DB{x:Bc×Int×Int}(h:x.1.length<=1099511627776):Ao (Ay x) λr=>r.2=0->0<=x.2.1/\x.2.1+x.2.2<=x.1.length/\(x.2.2<=4->0<=r.1/\r.1<4294967296)/\(x.2.2<=2->r.1<65536):=by
 unfold Ay;repeat' with_reducible first|refine AC ?_ ?_<;>intro c|refine AJ ?_ ?_<;>intro c|refine AB ?_|(refine AM ?_ (cM ?_);intro r hr)
 all_goals dsimp[len]at*
 all_goals first
  |omega
  |(intro d;exact absurd d (by decide))
  |(have e:=AX (x:=(x.1.length:Int)-x.2.1) (by omega);exact⟨by omega,by omega,by omega,by omega,by omega,h,by omega,by simp⟩)
  |(intro _;have e:=AX (x:=(x.1.length:Int)-x.2.1) (by omega);refine⟨by omega,by omega,λb=>?_,λa=>?_⟩;(have:=ADB b;rw[AX (by omega)];omega);(have:=AHq a;rw[AX (by omega)];omega))
def cP  {s:W×W}(h:0<=s.2/\s.2<=8):Ao (Ad (IG) s) λr=>True:=by
 refine AW (λs=>0<=s.2/\s.2<=8) (λs=>(8-s.2).toNat) h (λs b=>?_);unfold IG;exact x!
theorem cO{x:Bc}{s:Int×Int}(h:0<=s.2/\s.2<=x.length/\x.length<=1099511627776):Ao (Ad (IF x) s) λr=>True:=by
 refine AW (λ(s:Int×Int)=>0<=s.2/\s.2<=x.length/\x.length<=1099511627776) (λ(s:Int×Int)=>((x.length:Int)-s.2).toNat) h (λs b=>?_);unfold IF;repeat' with_reducible first|refine AC ?_ ?_<;>intro a|refine AJ ?_ ?_<;>intro a|refine AB ?_|(refine AM ?_ (cP ?_);intro r hr)|(refine AM ?_ (Vm ?_ ?_);rintro r ⟨hr,c⟩)
 all_goals ((try dsimp[len]at*);(try first|omega|assumption|grind[AX]))
def We{x:Bc}(h:Z x<=1099511627776):Ao (E0 x) λr=>True:=by
 unfold E0;exact x!
theorem Ur{x}:Ao (DY x) λr=>Z r<=8408:=by
 unfold DY;repeat' with_reducible first|intro a|apply AC|apply AJ|apply AB|(refine AM ?_ (DZ ?_);intro r hr)|(refine AM ?_ (We ?_);intro r hr)|(refine AM ?_ (Cb ?_);rintro r ⟨hr,b⟩)
 all_goals dsimp[len]at*
 all_goals exact l!
def jD{x:Bc×Co}(h:Z x.1<=1099511627776)(b:Z x.2.2<=16777216):Ao (GI x) λr=>Z r<=Z x.1+8+Z x.2.2:=by
 unfold GI;exact x!
def WM.lens{x}(h:WM x):Z x.2.2.2.2.2.2.1.2.2.1.2<=12/\Z x.2.2.2.2.2.2.1.2.2.2.2<=12/\Z x.2.2.2.2.2.2.2<=8192:=by grind[WM,Pc,Ix,Qy]
theorem cT{x}:Ao (Fb x) λr=>Z r.1<=8400:=by
 unfold Fb;repeat' with_reducible first|intro a|apply AP|apply AJ|apply AB|(apply AA (Cf);intro r hr)|(refine AM ?_ (DZ ?_);intro r hr)|(refine AM ?_ (jD ?_ ?_);intro r hr)|(refine AM ?_ (Cb ?_);rintro r ⟨hr,b⟩)
 all_goals try (have c:=(WM.lens (x:=x) (by unfold Ml at*;grind)))
 all_goals exact l!
def AHh(k:U):(0:W)<256^k:=by have:0<256^k:=Nat.pow_pos g!;grind
def AKe(b k:U):(b:W)*256^k=((b*256^k:U):W):=q!
def DE(n:W):U->Bc
 |0=>[]
 |k+1=>UInt8.ofNat (n%256).toNat::DE (n/256) k
def qK:Bc->U
 |[]=>0
 |b::r=>b.toNat+256*qK r
theorem A0:∀k n,(DE n k).length=k
 |0,n=>rfl
 |k+1,n=>by rw[DE,CY,A0 k]
theorem vR:∀l:Bc,qK l<256^Z l
 |[]=>by simp[qK]
 |b::r=>by have a:=vR r;have c:=b.toNat_lt;grind[qK,List.length_cons,Nat.pow_succ]
def AC6:∀l:Bc,DE (qK l:W) (Z l)=l
 |[]=>rfl
 |b::r=>by have a:=b.toNat_lt;rw[CY,DE,(by rw[qK];omega:((qK (b::r):U):W)/256=(qK r:W)),(by rw[qK];omega:(((qK (b::r):U):W)%256).toNat=b.toNat),AC6 r];simp
def xR:∀(k:U)(n m:W),n%256^k=m%256^k->DE n k=DE m k
 |0,_,_,_=>rfl
 |k+1,n,m,h=>by
  have e:(256:W)^(k+1)=256^k*256:=Int.pow_succ ..;have b:n%256=m%256:=by have a:n%256^(k+1)%256=n%256:=Int.emod_emod_of_dvd n ⟨256^k,by rw[e,Int.mul_comm]⟩;simp_all
  have c:n/256%256^k=m/256%256^k:=by
   have g:∀x:W,x/256%256^k=x%256^(k+1)/256:=λx=>by have d:=qi (x/256) (256^k);have f:=qi x (256*256^k);grind[Int.ediv_ediv_of_nonneg]
   grind
  rw[DE,DE,b,xR k _ _ c]
def vQ:∀(k:U)n,DE n (k+1)=DE n k++[UInt8.ofNat (n/256^k%256).toNat]
 |0,n=>by simp[DE]
 |k+1,n=>by rw[DE,vQ k (n/256),DE];grind[Int.pow_succ,Int.mul_comm,Int.ediv_ediv_of_nonneg]
theorem tm:∀k n,((qK (DE n k):U):W)=n%256^k
 |0,n=>by simp[DE,qK]
 |k+1,n=>by
  rw[DE,qK];have b:(UInt8.ofNat (n%256).toNat).toNat=(n%256).toNat:=by grind[UInt8.toNat_ofNat']
  have c:=tm k (n/256);have a:=qi (n/256) (256^k);grind[Int.mul_ediv_add_emod,Int.ediv_ediv_of_nonneg]
theorem vS:∀(l:Bc)(b:UInt8),qK (l++[b])=qK l+b.toNat*256^Z l
 |[],b=>by simp[qK]
 |a::r,b=>by rw[dS,qK,vS r b,qK,CY,Nat.pow_succ,Nat.mul_add];grind
def gR(k:U)(n:W):Prop:=(k<=7->0<=n/\n<256^k)/\ -9223372036854775808<=n/\n<=9223372036854775807
theorem bE{k:U}(f:k<=8){n m}(hn:gR k n)(d:gR k m)(h:DE n k=DE m k):n=m:=by
 have e:=tm k n;rw[h,tm k m]at e;by_cases c:k<=7;have a:=hn.1 c;have b:=d.1 c;grind[Int.emod_eq_of_lt];have:k=8:=o!
 have a:=hn.2;have b:=d.2;grind
def rd(l:Bc):W:=wi (qK l:W)
def AKf{k:U}(h:k<=7):(256:W)^k<=72057594037927936:=by
 have:k=0\/k=1\/k=2\/k=3\/k=4\/k=5\/k=6\/k=7:=o!
 grind
theorem AB9{l:Bc}(h:Z l<=8):gR (Z l) (rd l):=by have b:=vR l;have d:rd l=((qK l:W)+9223372036854775808)%18446744073709551616-9223372036854775808:=AGf _;refine⟨λa=>?_,o!⟩;have c:=AKf a;grind
theorem yl{l:Bc}(h:Z l<=8):DE (rd l) (Z l)=l:=by
 rw[show DE (rd l) (Z l)=DE (qK l:W) (Z l)from ?_,AC6];apply xR;by_cases a:Z l<=7;have c:=AKf a;have b:(qK l:W)<256^Z l:=by grind[vR]
 have:rd l=(qK l:W):=by unfold rd;exact AX
 rw[this];have:Z l=8:=o!
 rw[this,show(256:W)^8=18446744073709551616 by decide];unfold rd;rw[AGf];omega
theorem sJ{k:U}{n}(a:k<=8)(h:gR k n):rd (DE n k)=n:=by grind[A0,bE,AB9,DE,yl]
def AB3(k:U):(2:W)^(8*k)=256^k:=by grind[Int.pow_mul]
def AF7{n:W}{i:W}(c:0<=i)(d:i<8):Gp ([ι .u8 (Int.fdiv (ι .u64 n) (2^(min (ο (ι .u64 (wi (8*i)))) 64)))]:E W)=[UInt8.ofNat (n/256^ο i%256).toNat]:=by
 have a:wi (8*i)=8*i:=AX;have b:ι .u64 (8*i)=8*i:=by rw[Xt];omega
 rw[a,b,show min (8*i).toNat 64=8*ο i by omega,AB3];have e:=AHh (ο i)
 rw[ml _ o!,Xt,AKu];have:n%18446744073709551616/256^ο i%256=n/256^ο i%256:=by
  have:ο i=0\/ο i=1\/ο i=2\/ο i=3\/ο i=4\/ο i=5\/ο i=6\/ο i=7:=o!
  rcases this with h|h|h|h|h|h|h|h<;>rw[h];rw[show(256:W)^0=1 by decide];omega;rw[show(256:W)^1=256 by decide];omega;rw[show(256:W)^2=65536 by decide];omega;rw[show(256:W)^3=16777216 by decide];omega;rw[show(256:W)^4=4294967296 by decide];omega;rw[show(256:W)^5=1099511627776 by decide];omega;rw[show(256:W)^6=281474976710656 by decide];omega;rw[show(256:W)^7=72057594037927936 by decide];omega
 rw[this];rfl
theorem HQ{s:Bc}{n:W}{k:W}(h:Z s<=1099511627776)(i:1<=k)(j:k<=8):An (s,n,k)=D (s++DE n (ο k)):=by
 have key:Ao (Ad (Gc (s,n,k)) (s,0)) λr=>r=s++DE n (ο k):=by refine AW (λt=>0<=t.2/\t.2<=k/\t.1=s++DE n t.2.toNat) (λt=>(k-t.2).toNat) ⟨AY _,d!,by simp[DE]⟩ ?_;rintro⟨l,a⟩ ⟨b,g,c⟩;dsimp only at b g c;subst c;unfold Gc;dsimp only;refine AC (λd=>?_) (λd=>AB (by rw[show a=k by omega]));refine AC (λe=>O! e (by have:=uB (wi (8*a));omega)) (λ_=>?_);rw[AF7 b o!];refine AA (Cb (by rw[Ae,A0];simp;omega)) λv f=>AB ?_;rw[(AX)];refine⟨⟨o!,o!,?_⟩,o!⟩;rw[f.1,show(a+1).toNat=a.toNat+1 by omega,vQ,A5]
 obtain⟨r,hr,rfl⟩:=key;unfold An;grind
def AA2{a t:Bc}{i:W}(c:0<=i)(d:i<Z t)(e:(Z a:W)<=2199023255552)(f:(Z t:W)<=2199023255552):∃b:UInt8,six (a++t) (wi ((Z a:W)+i))=D (b.toNat:W)/\t.take (i+1).toNat=t.take (ο i)++[b]:=by obtain⟨k,rfl⟩:=FY c;refine⟨t[k],?_,?_⟩;grind[AX,six];simp_all
theorem AJX{a b k:U}(h:a<256^k)(f:b<256)(g:k<8):π (κ 64 (a:W)|||κ 64 ((b:W)*256^k))=a+b*256^k:=by
 have e:(256:U)^k=2^(8*k):=by rw[Nat.pow_mul]
 have d:a+b*256^k<256^(k+1):=by
  have:b*256^k+256^k<=256*256^k:=by rw[<-Nat.succ_mul];exact Nh _ o!
  omega
 have c:(256:U)^(k+1)<=2^64:=by rw[show(2:U)^64=256^8 by decide];exact ga g! o!
 rw[AKe];rw[BitVec.toNat_or,qd,qd,qe,qe,Ww o!,Ww o!];grind[Nat.mul_comm,Nat.two_pow_add_eq_or_of_lt]
theorem ACx{a:U}{b:UInt8}{i:W}(g:0<=i)(h:i<8)(k:a<256^ο i)(j:W)(d:j=8*i):ι .u64 (((π ((κ 64 (a:W))|||(κ 64 (ι .u64 ((ι .u64 (b.toNat:W))*(2^(min (ο j) 64))))))):U):W)=((a+b.toNat*256^ο i:U):W):=by
 have l:=b.toNat_lt;have c:(256:U)^(ο i+1)<=2^64:=by rw[show(2:U)^64=256^8 by decide];exact ga g! o!
 have e:a+b.toNat*256^ο i<256^(ο i+1):=by
  have:b.toNat*256^ο i+256^ο i<=256*256^ο i:=by rw[<-Nat.succ_mul];exact Nh _ o!
  omega
 rw[d,(by rw[Xt];omega:ι .u64 (b.toNat:W)=b.toNat),show min (8*i).toNat 64=8*ο i by omega,AB3];have f:ι .u64 ((b.toNat:W)*256^ο i)=(b.toNat:W)*256^ο i:=by rw[Xt,AKe];omega
 grind[AJX,Xt]
theorem lD{a t:Bc}{k:W}(h:(Z a:W)+Z t<=2199023255552)(x:1<=k)(y:k<=8):Ay (a++t,(Z a:W),k)=if k<=Z t then D (rd (t.take (ο k)),0)else D (0,5):=by
 unfold Ay;dsimp only;have d:len (a++t)=(Z a:W)+Z t:=by unfold len;rw[n?];omega
 rw[F! o!,A!,F! o!,A!,F! o!,A!,F! o!,A!];have q:wi (len (a++t)-(Z a:W))=Z t:=by rw[d,AX];omega
 by_cases g:k<=Z t;rw[F! o!,A!,C! g];have key:Ao (Ad (Gb (a++t,(Z a:W),k)) (0,0)) λr=>r=(qK (t.take (ο k)):W):=by
  refine AW (λs=>0<=s.2/\s.2<=k/\s.1=(qK (t.take s.2.toNat):W)) (λs=>(k-s.2).toNat) ⟨AY _,d!,by simp[qK]⟩ ?_;rintro⟨z,c⟩ ⟨f,u,l⟩;dsimp only at f u l;subst l;unfold Gb;dsimp only;refine AC (λo=>?_) (λo=>AB (by rw[show c=k by omega]));obtain⟨b,v,w⟩:=AA2 (a:=a) (t:=t) (i:=c) f o! o! o!;rw[v,AD];refine AC (λp=>O! p (by have:=uB (wi (8*c));omega)) (y? ?_);have e:wi (c+1)=c+1:=AX;have m:wi (8*c)=8*c:=AX;have n:ι .u64 (8*c)=8*c:=by rw[Xt];omega
  have j:(t.take c.toNat).length=c.toNat:=by rw[BK];omega
  dsimp only;rw[e,ACx f o! (by have:=vR (t.take c.toNat);rwa[j]at this) _ (by rw[m,n])];refine⟨⟨o!,o!,?_⟩,o!⟩;rw[w,vS,j]
 obtain⟨r,hr,rfl⟩:=key;rw[hr];rfl;rw[G! o!,B!,D! g]
theorem Yo{a t:Bc}{k:W}(h:(Z a:W)+Z t<=2199023255552)(q:1<=k)(u:k<=8):By (a++t,(Z a:W),k)=if k<=Z t then D (rd (t.take (ο k)),0)else D (0,5):=by
 unfold By;dsimp only;have f:len (a++t)=(Z a:W)+Z t:=q!
 rw[F! o!,A!,F! o!,A!,F! o!,A!,F! o!,A!];have m:wi (len (a++t)-(Z a:W))=Z t:=by grind[AX]
 by_cases l:k<=Z t;rw[F! o!,A!,C! l];have key:Ao (Ad (Vo (a++t,(Z a:W),k)) (0,0)) λr=>r=(qK (t.take (ο k)):W):=by refine AW (λs=>0<=s.2/\s.2<=k/\s.1=(qK (t.take s.2.toNat):W)) (λs=>(k-s.2).toNat) ⟨AY _,d!,by simp[qK]⟩ ?_;rintro⟨w,c⟩ ⟨d,n,e⟩;dsimp only at d n e;subst e;unfold Vo;dsimp only;refine AC (λg=>?_) (λg=>AB (by rw[show c=k by omega]));have⟨b,o,v⟩:=AA2 (a:=a) (t:=t) (i:=c) d o! o! o!;have p:wi (8*c)=8*c:=AX;rw[o,AD];refine AC (O! · o!) (y? ?_);grind[AX,ACx,vR,vS]
 obtain⟨r,hr,rfl⟩:=key;rw[hr];rfl;grind
def PO(x:Bc×W×W):V Bc:=
 bif τ (Z x.1<=1099511627776)&&(τ (1<=x.2.2)&&τ (x.2.2<=8))then D (x.1++DE x.2.1 x.2.2.toNat)else A
def LW(x:Bc×W):V Bc:=
 bif (x.1==[0])&&(τ (0<=x.2)&&τ (x.2<=8000))then D (ς x.2.toNat 0)else A
end Go.Pm
