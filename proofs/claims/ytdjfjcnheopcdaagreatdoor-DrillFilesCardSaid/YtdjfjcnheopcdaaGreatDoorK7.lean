/- Texts of wip, joined and shortened by wip/tools/pack.py; nothing is assumed. -/
import Derived.Test.YtdjfjcnheopcdaaGreatDoorK6
noncomputable section
set_option linter.all false
namespace Go.Pm
open Go Go.Ab
set_option maxHeartbeats 400000
def IZ(x:Cd):Prop:=x.2.length<=12/\(x.1=true\/x.2=[])
def O3(x:De):Prop:=0<=x.1/\x.1<64/\0<=x.2.1/\x.2.1<16/\IZ x.2.2.1/\IZ x.2.2.2
def KH{x:Cd}:Ar (C9 x) λr=>r=true↔IZ x:=by
 unfold C9 IZ
 exact x!
def UJ{x:De}:Ar (Ig x) λr=>r=true↔O3 x:=by
 unfold Ig O3
 exact x!
def QO:De:=(0,0,(false,[]),(false,[]))
def Vq(x:AE):Prop:=
 (x.2.1=1/\x.2.2.2.2.2.1=0/\x.2.2.2.2.2.2.2=[]/\1<=x.2.2.1/\x.2.2.1<=1073741824/\O3 x.2.2.2.2.2.2.1)\/
 (x.2.1=2/\0<x.2.2.2.1/\1<=x.2.2.2.2.2.1/\x.2.2.2.2.2.1<=x.2.2.2.1/\x.2.2.2.2.2.2.2=[]/\1<=x.2.2.1/\x.2.2.1<=1073741824/\O3 x.2.2.2.2.2.2.1)\/
 ((x.2.1=3\/x.2.1=4\/x.2.1=5)/\0<x.2.2.2.1/\x.2.2.2.2.1=0/\x.2.2.2.2.2.1=0/\x.2.2.2.2.2.2.1=QO/\x.2.2.2.2.2.2.2=[]/\1<=x.2.2.1/\x.2.2.1<=1073741824)\/
 ((x.2.1=6\/x.2.1=8)/\x.2.2.1=0/\x.2.2.2.1=0/\x.2.2.2.2.1=0/\x.2.2.2.2.2.1=0/\x.2.2.2.2.2.2.1=QO/\x.2.2.2.2.2.2.2.length<=8192)\/
 (x.2.1=7/\x.2.2.1=0/\x.2.2.2.1=0/\x.2.2.2.2.1=0/\0<=x.2.2.2.2.2.2.1.1/\x.2.2.2.2.2.2.1.1<64/\x.2.2.2.2.2.2.1.2=QO.2/\x.2.2.2.2.2.2.2=[])
def ML(x:AE):Prop:=1<=x.1/\x.1<=1099511627776/\0<=x.2.2.2.1/\x.2.2.2.1<x.1/\0<=x.2.2.2.2.1/\x.2.2.2.2.1<x.1/\0<=x.2.2.2.2.2.1/\x.2.2.2.2.2.1<x.1/\Vq x
def bQ{x:Int×Int}:Ar (GN x) λr=>r=true↔0<=x.1/\x.1<x.2:=by
 unfold GN;exact x!
def dr{x:AE}:Ar (LK x) λr=>(r.2=true/\r.1=x)↔Vq x:=by
 obtain⟨a,b,c,d,e,f,⟨g,h,⟨i,j⟩,k,l⟩,m⟩:=x;unfold LK Vq QO;dsimp only
 repeat' first
   |with_reducible apply AC<;>intro n
   |with_reducible apply AQ<;>intro n
   |with_reducible apply AJ<;>intro n
   |(with_reducible apply A7;try dsimp only)
   |with_reducible apply Bd
   |with_reducible apply By
   |with_reducible apply AB
   |(with_reducible apply AA (UJ);intro r hr)
 all_goals grind
def CT{x:AE}:Ar (Ch x) λr=>r=true↔ML x:=by
 unfold Ch;refine AA dr λn A=>?_;have e:((n.1.1==x.1)&&((n.1.2.1==x.2.1)&&((n.1.2.2.1==x.2.2.1)&&((n.1.2.2.2.1==x.2.2.2.1)&&((n.1.2.2.2.2.1==x.2.2.2.2.1)&&((n.1.2.2.2.2.2.1==x.2.2.2.2.2.1)&&((n.1.2.2.2.2.2.2.1.1==x.2.2.2.2.2.2.1.1)&&((n.1.2.2.2.2.2.2.1.2.1==x.2.2.2.2.2.2.1.2.1)&&((n.1.2.2.2.2.2.2.1.2.2.1.1==x.2.2.2.2.2.2.1.2.2.1.1)&&((n.1.2.2.2.2.2.2.1.2.2.1.2==x.2.2.2.2.2.2.1.2.2.1.2)&&((n.1.2.2.2.2.2.2.1.2.2.2.1==x.2.2.2.2.2.2.1.2.2.2.1)&&((n.1.2.2.2.2.2.2.1.2.2.2.2==x.2.2.2.2.2.2.1.2.2.2.2)&&((n.1.2.2.2.2.2.2.2==x.2.2.2.2.2.2.2)&&true)))))))))))))=true↔n.1=x:=by obtain⟨⟨a,b,c,d,e,f,⟨g,h,⟨i,j⟩,k,l⟩,m⟩,z⟩:=n;obtain⟨p,q,s,t,u,v,⟨w,y,⟨B,C⟩,D,E⟩,F⟩:=x;simp[and_assoc]
 generalize ((n.1.1==x.1)&&_)=bb at e⊢;unfold ML
 repeat' first
   |with_reducible apply AC<;>intro o
   |with_reducible apply AQ<;>intro o
   |with_reducible apply AJ<;>intro o
   |(with_reducible apply A7;try dsimp only)
   |with_reducible apply Bd
   |with_reducible apply By
   |with_reducible apply AB
   |(with_reducible apply AA (bQ);intro r hr)
 all_goals grind
def ER{x:Ae}:Ar (CW x) λr=>r=wi (wi (x.1+len x.2.1)-1):=by
 unfold CW;exact x!
def Dg(x:Ae):Prop:=1<=x.1/\x.1<=1099511627776/\x.2.1.length<=4096/\x.1-1<=x.2.2/\x.2.2<=x.1+x.2.1.length-1/\ ∀(i:Nat) (e:AE),x.2.1[i]? =some e->e.1=x.1+i/\ML e
def Yw{x:Ae}{s:Int}(h:0<=s/\s<=x.2.1.length/\x.2.1.length<=4096/\1<=x.1/\x.1<=1099511627776/\ ∀(i:Nat) (e:AE),i<s->x.2.1[i]? =some e->e.1=x.1+i/\ML e):Ar (AZ (NP x) s) λr=>(r= .inl false/\ ¬Dg x)\/(r= .inr ()/\ ∀(i:Nat) (e:AE),x.2.1[i]? =some e->e.1=x.1+i/\ML e):=by
 refine AV (λ(s:Int)=>0<=s/\s<=x.2.1.length/\x.2.1.length<=4096/\1<=x.1/\x.1<=1099511627776/\ ∀(i:Nat) (e:AE),i<s->x.2.1[i]? =some e->e.1=x.1+i/\ML e) (λ(s:Int)=>((x.2.1.length:Int)-s).toNat) h (λs b=>?_);unfold NP;obtain⟨c,d,f,g,j,k⟩:=b;repeat' with_reducible first|intro a|apply AC|apply AM|apply AK|apply AJ|apply AB|(apply AA (CT);intro r hr)|(refine AL ?_ (AI ?_ ?_);rintro r ⟨hr,l⟩)
 all_goals try (first|omega|grind[AX,Dg])
def Be{x:Ae}:Ar (B3 x) λr=>r=true↔Dg x:=by
 unfold B3;repeat' with_reducible first|intro a|apply AC|apply AJ|(apply BG;try dsimp only)|(apply A3;try dsimp only)|(apply BA<;>(intro u b;try subst b))|apply AB|(apply AA (ER);intro r hr)|(refine AL ?_ (Yw ?_);intro r hr)
 all_goals try (first|omega|grind[AX,Dg])
def G8(x:AU):Prop:=0<=x.1/\x.1<64/\0<=x.2.1/\x.2.1<=1099511627776/\ ∀i,IZ (x.2.2 i)/\(x.2.1=0->(x.2.2 i).1=false)
def Lw{x:AU}:Ar (HM x) λr=>r=true↔0<=x.1/\x.1<64/\0<=x.2.1/\x.2.1<=1099511627776:=by
 unfold HM;exact x!
def Ys{x:AU}{s:Int}(h:0<=s/\s<=16/\ ∀i:Fin 16,(i.val:Int)<s->IZ (x.2.2 i)/\(x.2.1=0->(x.2.2 i).1=false)):Ar (AZ (NG x) s) λr=>(r= .inl false/\ ¬ ∀i,IZ (x.2.2 i)/\(x.2.1=0->(x.2.2 i).1=false))\/(r= .inr ()/\ ∀i,IZ (x.2.2 i)/\(x.2.1=0->(x.2.2 i).1=false)):=by
 refine AV (λ(s:Int)=>0<=s/\s<=16/\ ∀i:Fin 16,(i.val:Int)<s->IZ (x.2.2 i)/\(x.2.1=0->(x.2.2 i).1=false)) (λ(s:Int)=>(16-s).toNat) h (λs b=>?_);unfold NG;exact x!
def OF{x:AU}:Ar (Ie x) λr=>r=true↔ ∀i,IZ (x.2.2 i)/\(x.2.1=0->(x.2.2 i).1=false):=by
 unfold Ie;exact x!
def dj{x:AU}:Ar (LG x) λr=>r=true↔G8 x:=by
 unfold LG G8
 exact x!
def OE{x:AU}:Ar (Dn x) λr=>r=0->G8 x:=by
 unfold Dn G8
 exact x!
def pK(f:A9):Prop:=G8 f.1/\(f.2.1=true->1<=f.2.2.1/\f.2.2.1<=f.1.2.1)/\(f.2.1=false->f.2.2.1=0)
def KD(l:List A9)(n:Int):Prop:=(∀(i:Nat) (f:A9),i<n->l[i]? =some f->pK f)/\ ∀(i j:Nat) (f g:A9),i<j->j<n->l[i]? =some f->l[j]? =some g->f.1.1≠g.1.1
def Pg(x:BY):Prop:=1<=x.1/\x.1<=64/\x.2.1.length<=x.1/\0<=x.2.2/\(x.2.1.length=0/\x.2.2=0\/x.2.2<x.2.1.length)/\KD x.2.1 x.2.1.length
theorem KD.step{l:List A9}{n:Int}{f:A9}(e:0<=n)(h:KD l n)(o:l[n.toNat]? =some f)(r:pK f)(m: ∀(j:Nat) (g:A9),j<n->l[j]? =some g->g.1.1≠f.1.1):KD l (n+1):=by
 refine⟨λi g p b=>?_,λi j g k c q b d=>?_⟩;rcases lM i n with a|a;exact h.1 i g a b;grind;rcases lM j n with a|a;exact h.2 i j g k c a b d;have:j=n.toNat:=o!
 grind
theorem qH{l:List A9}{n:Int}{f:A9}(c:0<=n)(d:n<l.length)(a:l[n.toNat]? =some f)(b: ¬pK f): ¬KD l l.length:=λh=>b (h.1 n.toNat f o! a)
theorem qI{l:List A9}{n:Int}{f:A9}(e:0<=n)(i:n<l.length)(d:l[n.toNat]? =some f)(c: ∃(j:Nat) (g:A9),j<n/\l[j]? =some g/\g.1.1=f.1.1): ¬KD l l.length:=λh=>by have⟨j,g,k,a,b⟩:=c;exact h.2 j n.toNat g f o! o! a d b
def Hw{x:BY}{a:Int}{b:A9}{s:Int}(h:0<=s/\s<=a/\a<=x.2.1.length/\(x.2.1.length:Int)<=16777216/\ ∀(j:Nat) (g:A9),j<s->x.2.1[j]? =some g->g.1.1≠b.1.1):Ar (AZ (Fc x a b) s) λr=>(r= .inl false/\ ∃(j:Nat) (g:A9),j<a/\x.2.1[j]? =some g/\g.1.1=b.1.1)\/(r= .inr ()/\ ∀(j:Nat) (g:A9),j<a->x.2.1[j]? =some g->g.1.1≠b.1.1):=by
 refine AV (λ(s:Int)=>0<=s/\s<=a/\a<=x.2.1.length/\(x.2.1.length:Int)<=16777216/\ ∀(j:Nat) (g:A9),j<s->x.2.1[j]? =some g->g.1.1≠b.1.1) (λ(s:Int)=>(a-s).toNat) h (λs d=>?_);unfold Fc;exact x!
def Y1{x:BY}{s:Int}(h:0<=s/\s<=x.2.1.length/\(x.2.1.length:Int)<=16777216/\KD x.2.1 s):Ar (AZ (NU x) s) λr=>(r= .inl false/\ ¬KD x.2.1 x.2.1.length)\/(r= .inr ()/\KD x.2.1 x.2.1.length):=by
 refine AV (λ(s:Int)=>0<=s/\s<=x.2.1.length/\(x.2.1.length:Int)<=16777216/\KD x.2.1 s) (λ(s:Int)=>((x.2.1.length:Int)-s).toNat) h (λs d=>?_);unfold NU;repeat' with_reducible first|intro a|apply AC|apply AM|apply AK|apply AJ|(apply BG;try dsimp only)|(apply A3;try dsimp only)|(apply BA<;>(intro u c;try subst c))|apply AB|(apply AA (dj);intro r hr)|(refine AL ?_ (Hw ?_);intro r hr)|(refine AL ?_ (Hw ?_);intro r hr)|(refine AL ?_ (Hw ?_);intro r hr)|(refine AL ?_ (Hw ?_);intro r hr)|(refine AL ?_ (AI ?_ ?_);rintro r ⟨hr,f⟩)
 all_goals try (have e:=AX (x:=s+1))
 all_goals first|omega|(exact⟨o!,o!,o!,o!,λj g b=>absurd b o!⟩)|grind[KD.step,qH,qI,pK]
def KD.zero(l:List A9):KD l 0:=⟨λi f h=>absurd h o!,λi j f g h a=>absurd a o!⟩
def AIN(n h:Int)(a:0<=n)(b:n<=64):(h>if wi (n-1)>0 then wi (n-1)else 0)↔ ¬(n=0/\h<=0\/h<n):=by grind[AX]
def EE{x:BY}:Ar (DF x) λr=>r=true↔Pg x:=by
 unfold DF Pg
 repeat' first
   |with_reducible apply AC<;>intro b
   |(with_reducible apply BA<;>(intro u a;try subst a))
   |with_reducible apply AB
   |(with_reducible refine AL ?_ (Y1 ?_);intro r hr)
 all_goals try dsimp[len]at*
 all_goals first
  |(exact⟨o!,o!,o!,KD.zero _⟩)
  |(have c:=AIN (x.2.1.length) x.2.2 o! o!;grind)
  |grind
def ON{x:Ao}:Ar (Gu x) λr=>True:=by
 unfold Gu;exact x!
def VS{x:Ao×Ao}:Ar (E9 x) λr=>True:=by
 unfold E9;exact x!
def F4{x:Ao×Ao}:Ar (D1 x) λr=>True:=by
 unfold D1;exact x!
def Zl{x:A5×Int×Cj}{s:Int}(h:0<=s/\s<=x.1.1.length/\(x.1.1.length:Int)<=16777216):Ar (AZ (OQ x) s) λr=>True:=by
 refine AV (λ(s:Int)=>0<=s/\s<=x.1.1.length/\(x.1.1.length:Int)<=16777216) (λ(s:Int)=>((x.1.1.length:Int)-s).toNat) h (λs b=>?_);unfold OQ;exact x!
def Hu{x:A5×Int×Cj}(h:x.1.1.length<=16777216):Ar (D2 x) λr=>True:=by
 unfold D2;exact x!
def Fy(x:A5):Prop:=x.1.length<=16777216/\x.2.length<=16777216
def RE{x:A5}{a:Int}{s:Int}(h:s<a/\ -1<=s/\0<=a/\a<x.1.length/\x.1.length<=16777216):Ar (AZ (JD x a) s) λr=>r≠ .inl true:=by
 refine AV (λ(s:Int)=>s<a/\ -1<=s/\0<=a/\a<x.1.length/\x.1.length<=16777216) (λ(s:Int)=>(s+1).toNat) h (λs c=>?_);unfold JD;exact x!
def Yx{x:A5}{s:Int}(h:0<=s/\s<=x.1.length/\(x.1.length:Int)<=16777216):Ar (AZ (NQ x) s) λr=>r≠ .inl true:=by
 refine AV (λ(s:Int)=>0<=s/\s<=x.1.length/\(x.1.length:Int)<=16777216) (λ(s:Int)=>((x.1.length:Int)-s).toNat) h (λs c=>?_);unfold NQ;repeat' with_reducible first|intro a|apply AC|apply AM|apply AJ|(apply BG;try dsimp only)|(apply A3;try dsimp only)|(apply BA<;>(intro u b;try subst b))|apply AB|(apply AA (ON);intro r hr)|(apply AA (VS);intro r hr)|(refine AL ?_ (RE ?_);intro r hr)|(refine AL ?_ (RE ?_);intro r hr)|(refine AL ?_ (AI ?_ ?_);rintro r ⟨hr,d⟩)
 all_goals ((try dsimp[len]at*);(try first|omega|assumption|grind[AX]|((try simp (disch:=omega) only[AX,len]at*)<;>(try intros)<;>(try and_intros)<;>(try intros)<;>(first|omega|assumption|grind))))
def Yz{x:A5}{a:Int}{b:Ao}{s:Int}(h:0<=s/\s<=a/\(a:Int)<=16777216/\a<=x.2.length):Ar (AZ (NS x a b) s) λr=>r≠ .inl true:=by
 refine AV (λ(s:Int)=>0<=s/\s<=a/\(a:Int)<=16777216/\a<=x.2.length) (λ(s:Int)=>((a:Int)-s).toNat) h (λs d=>?_);unfold NS;exact x!
def Yy{x:A5}{s:Int}(h:0<=s/\s<=x.2.length/\(x.2.length:Int)<=16777216/\x.1.length<=16777216):Ar (AZ (NR x) s) λr=>r≠ .inl true:=by
 refine AV (λ(s:Int)=>0<=s/\s<=x.2.length/\(x.2.length:Int)<=16777216/\x.1.length<=16777216) (λ(s:Int)=>((x.2.length:Int)-s).toNat) h (λs c=>?_);unfold NR;exact x!
def aL(x:A5):Prop:=x.1.length+x.2.length<=1024
def Ex{x:A5}(h:Fy x):Ar (Do x) λr=>r=true->aL x:=by
 unfold Do aL;unfold Fy at h
 exact x!
def VTx(x:Ai):Prop:=x.2.2.2.2.1.length<=4096/\x.2.2.2.2.2.length<=8/\1<=x.1
def ZQ(x:List Ai):Prop:=x.length<=64/\ ∀(i:Nat) (t:Ai),x[i]? =some t->VTx t
def RF{x:Ai}{s:Int}(h:0<=s/\s<=x.2.2.2.2.1.length/\(x.2.2.2.2.1.length:Int)<=16777216):Ar (AZ (JH x) s) λr=>r≠ .inl true:=by
 refine AV (λ(s:Int)=>0<=s/\s<=x.2.2.2.2.1.length/\(x.2.2.2.2.1.length:Int)<=16777216) (λ(s:Int)=>((x.2.2.2.2.1.length:Int)-s).toNat) h (λs b=>?_);unfold JH;repeat' with_reducible first|intro a|apply AC|apply AJ|apply AB|(refine AL ?_ (AI ?_ ?_);rintro r ⟨hr,c⟩)
 all_goals ((try dsimp[len]at*);(try first|omega|assumption|grind[AX]|((try simp (disch:=omega) only[AX,len]at*)<;>(try intros)<;>(try and_intros)<;>(try intros)<;>(first|omega|assumption|grind))))
def RG{x:Ai}{s:Int}(h:0<=s/\s<=x.2.2.2.2.2.length/\(x.2.2.2.2.2.length:Int)<=16777216):Ar (AZ (JI x) s) λr=>r≠ .inl true:=by
 refine AV (λ(s:Int)=>0<=s/\s<=x.2.2.2.2.2.length/\(x.2.2.2.2.2.length:Int)<=16777216) (λ(s:Int)=>((x.2.2.2.2.2.length:Int)-s).toNat) h (λs b=>?_);unfold JI;repeat' with_reducible first|intro a|apply AC|apply AJ|apply AB|(refine AL ?_ (AI ?_ ?_);rintro r ⟨hr,c⟩)
 all_goals ((try dsimp[len]at*);(try first|omega|assumption|grind[AX]|((try simp (disch:=omega) only[AX,len]at*)<;>(try intros)<;>(try and_intros)<;>(try intros)<;>(first|omega|assumption|grind))))
def dz{x:Ai}:Ar (LV x) λr=>r=true->VTx x:=by
 unfold LV VTx
 exact x!
def Y4{x:List Ai}{s:Int}(h:0<=s/\s<=x.length/\(x.length:Int)<=16777216/\ ∀(i:Nat) (t:Ai),i<s->x[i]? =some t->VTx t):Ar (AZ (NW x) s) λr=>r= .inl false\/(r= .inr ()/\ ∀(i:Nat) (t:Ai),x[i]? =some t->VTx t):=by
 refine AV (λ(s:Int)=>0<=s/\s<=x.length/\(x.length:Int)<=16777216/\ ∀(i:Nat) (t:Ai),i<s->x[i]? =some t->VTx t) (λ(s:Int)=>((x.length:Int)-s).toNat) h (λs b=>?_);unfold NW;repeat' with_reducible first|intro a|apply AC|apply AM|apply AJ|apply AB|(apply AA (dz);intro r hr)|(refine AL ?_ (AI ?_ ?_);rintro r ⟨hr,c⟩)
 all_goals ((try dsimp[len]at*);(try first|omega|assumption|grind[AX]|((try simp (disch:=omega) only[AX,len]at*)<;>(try intros)<;>(try and_intros)<;>(try intros)<;>(first|omega|assumption|grind))))
def Dl{x:List Ai}:Ar (Dq x) λr=>r=true->ZQ x:=by
 unfold Dq ZQ
 exact x!
def mo(x:BV):Prop:=1<=x.length/\x.length<=64
def jg{x:Int}:Ar (Ge x) λr=>True:=by
 unfold Ge;exact x!
def Y2{x:BV}{s:Int}(h:0<=s/\s<=x.length/\(x.length:Int)<=16777216):Ar (AZ (JF x) s) λr=>r≠ .inl true:=by
 refine AV (λ(s:Int)=>0<=s/\s<=x.length/\(x.length:Int)<=16777216) (λ(s:Int)=>((x.length:Int)-s).toNat) h (λs b=>?_);unfold JF;exact x!
def Fu{x:BV}:Ar (Dp x) λr=>r=true->mo x:=by
 unfold Dp mo
 exact x!
def Vo{x:List Ag×Int}{s:Int}(h:0<=s/\s<=x.1.length/\(x.1.length:Int)<=16777216):Ar (AZ (Gk x) s) λr=>r≠ .inl true:=by
 refine AV (λ(s:Int)=>0<=s/\s<=x.1.length/\(x.1.length:Int)<=16777216) (λ(s:Int)=>((x.1.length:Int)-s).toNat) h (λs b=>?_);unfold Gk;repeat' with_reducible first|intro a|apply AC|apply AJ|apply AB|(refine AL ?_ (AI ?_ ?_);rintro r ⟨hr,c⟩)
 all_goals ((try dsimp[len]at*);(try first|omega|assumption|grind[AX]|((try simp (disch:=omega) only[AX,len]at*)<;>(try intros)<;>(try and_intros)<;>(try intros)<;>(first|omega|assumption|grind))))
def Px{x:List Ag×Int}(h:x.1.length<=16777216):Ar (Ez x) λr=>True:=by
 unfold Ez;exact x!
theorem DQ{b:Type}{l:List b}{i:Nat}{a:b}(h:l[i]? =some a):i<l.length:=q!
def dO(p:Int)(e:AE):Bool:=((e.2.1==1)||(e.2.1==2))&&(e.2.2.2.2.2.2.1.1==p)
def Bg(L:List AE)(p:Int):Int:=L.foldl (λa e=>if dO p e then e.1 else a) 0
theorem Pe(L:List AE)(e:AE)(p:Int):Bg (L++[e]) p=if dO p e then e.1 else Bg L p:=by simp[Bg,lS,lT,List.foldl_nil]
def upd(x:AU)(e:AE):AU:=(x.1,(e.1,XD x.2.2 e.2.2.2.2.2.2.1.2.1 e.2.2.2.2.2.2.1.2.2.2))
def st(L:List AE)(p:Int):AU:=(L.filter (dO p)).foldl upd (p,(0,GF.all (false,[])))
def ABs(L M:List AE)(p:Int):st (L++M) p=(M.filter (dO p)).foldl upd (st L p):=by unfold st;rw[Gl,lS]
theorem AA4(L:List AE)(e:AE)(p:Int):st (L++[e]) p=if dO p e then upd (st L p) e else st L p:=by rw[ABs,N3,lR];split<;>rfl
def ACO(L:List AE)(x:AU):(L.foldl upd x).1=x.1:=by
 induction L generalizing x with
 |nil=>rfl
 |cons e L a=>exact a (upd x e)
theorem TI(L:List AE)(p:Int):(st L p).1=p:=ACO _ _
theorem ME(L:List AE)(p:Int):(st L p).2.1=Bg L p:=by
 suffices h: ∀(L:List AE) (x:AU),((L.filter (dO p)).foldl upd x).2.1=L.foldl (λa e=>if dO p e then e.1 else a) x.2.1 from h L _
 intro L;induction L with
 |nil=>exact λx=>rfl
 |cons e L b=>intro x;rw[N3,lT];split;exact b (upd x e);exact b x
def xz(n:Int)(L:List AE)(D:List Ag)(R:List BX):Prop:=
 ∀p,0<=p->p<n->(∀d∈D,d.1=p->d.2.2=Bg L p)/\ ∀r,R[p.toNat]? =some r->r.1<=Bg L p/\((∀d∈D,d.1≠p)->r.1=Bg L p)
def KP(n:Int)(L:List AE)(F:List A9)(D:List Ag)(R:List BX):Prop:=
 ∀p,0<=p->p<n->(∀f∈F,f.1.1=p->f.1=st L p)/\(∀d∈D,d.1=p->d.2.2=Bg L p)/\
  ∀r,R[p.toNat]? =some r->r.1<=Bg L p/\((∀d∈D,d.1≠p)->(∀f∈F,f.1.1=p->f.2.1=false)->r.1=Bg L p)
def EOK(n:Int)(M:List AE)(e:AE):Prop:=
 (e.2.1=1\/e.2.1=2->e.2.2.2.2.1=Bg M e.2.2.2.2.2.2.1.1/\Fp (st M e.2.2.2.2.2.2.1.1).2.2 e.2.2.2.2.2.2.1.2.1=some e.2.2.2.2.2.2.1.2.2.1)/\(e.2.1=7->e.2.2.2.2.2.1=Bg M e.2.2.2.2.2.2.1.1)/\
  (e.2.1=6-> ∀c,C3 e.2.2.2.2.2.2.2=some (c,0)->c.1=n->xz n M c.2.2.2.1 c.2.2.2.2)
def LI(n:Int)(L:List AE):Prop:= ∀(i:Nat) (e:AE),L[i]? =some e->EOK n (L.take i) e
def LI.nil(n:Int):LI n []:=λi e h=>by simp at h
def LI.app{n:Int}{L:List AE}{e:AE}(h:LI n L)(c:EOK n L e):LI n (L++[e]):=by intro i f b;rcases Qz i L.length with a|a|a;rw[CL a]at b;rw[fF o!];exact h i f b;grind;grind[List.getElem?_eq_none]
def LI.pre{n:Int}{L T:List AE}(h:LI n (L++T)):LI n L:=by intro i f a;have:=h i f q!;grind
def FD(B:Int->Prop)(n:Int)(F:List A9)(D:List Ag):Prop:= ∀f∈F,0<=f.1.1/\f.1.1<n/\(∀d∈D,d.1≠f.1.1)/\B f.1.1
variable {B:Int->Prop}
def KI(B:Int->Prop)(k:AP):Prop:=LI k.1 k.2.2.1.2.1/\KP k.1 k.2.2.1.2.1 k.2.2.2.1.2.1 k.2.2.2.2.2.2.2 k.2.2.2.2.2.2.1/\FD B k.1 k.2.2.2.1.2.1 k.2.2.2.2.2.2.2
def FD.sub{n:Int}{F G:List A9}{D:List Ag}(h:FD B n F D)(a: ∀g∈G,∃f∈F,f.1.1=g.1.1/\f.1=g.1):FD B n G D:=by intro g c;have⟨f,b,e,_⟩:=a g c;rw[<-e];exact h f b
def oW{p b:Int}: ∀(L:List AE) (a:Int),a<b->(∀e∈L,e.1<b)->L.foldl (λa e=>if dO p e then e.1 else a) a<b
 |[],a,ha,_=>ha
 |e::L,a,ha,h=>by refine oW L _ ?_ λf c=>h f (CQ _ c);show(if dO p e=true then e.1 else a)<b;split;exact h e Iy;exact ha
def lq{l:Ae}(h:Dg l)(p:Int):Bg l.2.1 p<l.1+l.2.1.length:=by have⟨a,_,_,_,_,b⟩:=h;refine oW _ _ o! λe c=>?_;grind[List.getElem?_of_mem]
def KP.app{n:Int}{L:List AE}{F:List A9}{D:List Ag}{R:List BX}{e:AE}(h:KP n L F D R)(c:e.2.1≠1/\e.2.1≠2):KP n (L++[e]) F D R:=by intro p a b;rw[(by grind[Pe,dO]:Bg (L++[e]) p=Bg L p),(by grind[AA4,dO]:st (L++[e]) p=st L p)];exact h p a b
def KP.frames{n:Int}{L:List AE}{F G:List A9}{D:List Ag}{R:List BX}(h:KP n L F D R)
  (m: ∀g∈G,∃f∈F,f.1.1=g.1.1/\f.1=g.1) (o: ∀f∈F,f.2.1=true-> ∃g∈G,g.1.1=f.1.1/\g.2.1=true):KP n L G D R:=by
 intro p w x;obtain⟨a,b,c⟩:=h p w x;refine⟨λg v e=>?_,b,λr hr=>⟨(c r hr).1,λt u=>(c r hr).2 t λf d e=>?_⟩⟩;obtain⟨f,d,j,k⟩:=m g v;rw[<-k];exact a f d (j.trans e);cases s:f.2.1 with
 |false=>rfl
 |true=>obtain⟨g,q,l,i⟩:=o f d s;rw[u g q (l.trans e)]at i;cases i
def KP.written{n:Int}{L:List AE}{F G:List A9}{D:List Ag}{R:List BX}{q d:Int}{w:BX}(h:KP n L F D R)(q0:0≤q)(A:d=Bg L q)(B:q<n)
  (s: ∀g∈G,∃f∈F,f.1.1=g.1.1/\f.1=g.1) (t: ∀f∈F,f.1.1≠q->f∈G) (l:R[q.toNat]? =some w):
  KP n L G D (R.set q.toNat ((if d>w.1 then d else w.1),w.2)):=by
 intro p y z;obtain⟨a,b,c⟩:=h p y z;refine⟨λg x e=>?_,b,λr hr=>?_⟩;obtain⟨f,i,m,o⟩:=s g x;rw[<-o];exact a f i (m.trans e);by_cases k:p=q;subst k;have j:p.toNat<R.length:=by rcases Au p.toNat R.length with h|h;exact h;rw[Cc h]at l;cases l
 rw[HG j]at hr;have:=(c w l).1;have e:r.1=Bg L p:=by rw[<-Ba hr];dsimp only;split<;>omega
 exact⟨o!,λ_ _=>e⟩;rw[Dw o!]at hr;refine⟨(c r hr).1,λu v=>(c r hr).2 u λf i e=>?_⟩;exact v f (t f i o!) e
def ABq{F:List A9}{i:Nat}{f n:A9}(a:F[i]? =some f)(hn:n.1=f.1): ∀g∈F.set i n,∃f∈F,f.1.1=g.1.1/\f.1=g.1:=q!
def xo{F:List A9}{i:Nat}{f n:A9}(c:F[i]? =some f): ∀g∈F,g.1.1≠f.1.1->g∈F.set i n:=by intro g a b;have⟨j,d⟩:=Di a;apply BU (i:=j);grind
def KP.change{n:Int}{L:List AE}{F:List A9}{D:List Ag}{R:List BX}{e:AE}{i:Nat}{f g:A9}(h:KP n L F D R)(G:FD B n F D)
  (t:e.2.1=1\/e.2.1=2) (u:F[i]? =some f) (I:f.1.1=e.2.2.2.2.2.2.1.1) (v:g.1=upd f.1 e) (y:g.2.1=true)
  (J: ∀j k,F[j]? =some k->k.1.1=f.1.1->j=i) (H:Bg L f.1.1<e.1):KP n (L++[e]) (F.set i g) D R:=by
 have w:i<F.length:=by rcases Au i F.length with h|h;exact h;rw[Cc h]at u;cases u
 have A:g∈F.set i g:=BU (i:=i) (HG w);have C:g.1.1=f.1.1:=by rw[v];rfl
 intro p K M;obtain⟨a,b,c⟩:=h p K M;have E:dO p e=(f.1.1==p):=by rw[I];unfold dO;rcases t with h|h<;>simp[h]
 rw[Pe,AA4,E];by_cases l:f.1.1=p;subst l;rw[beq_self_eq_true,if_pos rfl,if_pos rfl];refine⟨λk t m=>?_,λd o m=>absurd m ((G f (BU u)).2.2.1 d o),λr hr=>⟨by have:=(c r hr).1;omega,λ_ q=>?_⟩⟩;obtain⟨j,x⟩:=Di t;by_cases s:j=i;subst s;rw[HG w]at x;rw[<-Ba x,v];exact congrArg (λz=>upd z e) (a f (BU u) rfl);rw[Dw (λh=>s h.symm)]at x;exact absurd (J j k x m) s;have:=q g A C;rw[y]at this;cases this;rw[if_neg (by simpa using l),if_neg (by simpa using l)];refine⟨λk t m=>?_,b,λr hr=>⟨(c r hr).1,λo q=>(c r hr).2 o λk t m=>?_⟩⟩;rcases WJ t with h|h;exact a k h m;subst h;exact absurd (C.symm.trans m) l;exact q k (xo u k t o!) m
def FD.set{n:Int}{F:List A9}{D:List Ag}{i:Nat}{f g:A9}(h:FD B n F D)(b:F[i]? =some f)(c:g.1.1=f.1.1):FD B n (F.set i g) D:=by intro k d;rcases WJ d with a|a;exact h k a;subst a;rw[c];exact h f (BU b)
def KP.supply{n:Int}{L:List AE}{F:List A9}{D l:List Ag}{R:List BX}{x:AU}{g:A9}(h:KP n L F D R)(y:x=st L x.1)
  (w: ∀f∈F,f.1.1≠x.1) (t:g.1=x) (i:(g.2.1=true/\l=D.filter λd=>d.1 !=x.1)\/(g.2.1=false/\(∀d∈D,d.1≠x.1)/\l=D)):KP n L (F++[g]) l R:=by
 intro p z A;obtain⟨a,b,c⟩:=h p z A;have v: ∀d∈l,d∈D:=by rcases i with⟨_,e⟩|⟨_,_,e⟩<;>subst e;exact λd i=>(Bk.1 i).1;exact λd i=>i
 refine⟨λf j e=>?_,λd i=>b d (v d i),λr hr=>⟨(c r hr).1,λq s=>(c r hr).2 ?_ λf j=>s f (Gb _ j)⟩⟩;rcases A1.1 j with j|j;exact a f j e;rw[BI]at j;subst j;rw[t]at e⊢;rw[<-e];exact y;intro d k e;rcases i with⟨u,o⟩|⟨_,_,o⟩<;>subst o;by_cases m:p=x.1;have:=s g k! (by rw[t,m]);rw[u]at this;cases this;exact q d (Bk.2 ⟨k,w!⟩) e;exact q d k e
def FD.supply{n:Int}{F:List A9}{D b:List Ag}{p:Int}{g:A9}(h:FD B n F D)(k:0<=p)(l:p<n)(i:B p)(j:g.1.1=p)(e: ∀d∈b,d∈D)(hn: ∀d∈b,d.1≠p):FD B n (F++[g]) b:=by intro f a;rcases A1.1 a with a|a;exact⟨(h f a).1,(h f a).2.1,λd c=>(h f a).2.2.1 d (e d c),(h f a).2.2.2⟩;grind
end Go.Pm
namespace Go.Pm
open Go Go.Ab
set_option maxHeartbeats 400000
variable {B:Int->Prop}
def SB(k:AP):Prop:=Fy k.2.2.2.2.1/\k.2.2.2.2.2.1.length<=16777216/\k.2.2.2.2.2.2.2.length<=16777216
def SK(B:Int->Prop)(k:AP):Prop:=Fy k.2.2.2.2.1/\k.2.2.2.2.2.1.length<=16777216/\k.2.2.2.2.2.2.2.length<=16777216/\KI B k
def SK.sb{k:AP}(h:SK B k):SB k:=⟨h.1,h.2.1,h.2.2.1⟩
def SK.ki{k:AP}(h:SK B k):KI B k:=h.2.2.2
def SB.sk{k:AP}(h:SB k)(g:KI B k):SK B k:=⟨h.1,h.2.1,h.2.2,g⟩
def VK(k:AP):Prop:=1<=k.1/\k.1<=64/\Dg k.2.2.1/\Pg k.2.2.2.1/\aL k.2.2.2.2.1/\ZQ k.2.2.2.2.2.1/\mo k.2.2.2.2.2.2.1/\k.2.2.2.2.2.2.1.length=k.1
def eF{x:AP}(h:SB x):Ar (La x) λr=>r=true->VK x:=by
 unfold La VK;unfold SB at h
 exact x!
def Y5{x:AP×Int}{s:Int×Ag}(h:0<=s.1/\s.1<=x.1.2.2.2.2.2.2.2.length/\x.1.2.2.2.2.2.2.2.length<=16777216/\ ∀(i:Nat) (d:Ag),i<s.1->x.1.2.2.2.2.2.2.2[i]? =some d->d.1≠x.2):Ar (AZ (NZ x) s) λr=>(∃d∈x.1.2.2.2.2.2.2.2,r= .inl (true,d)/\d.1=x.2)\/ ∃z,r= .inr z/\ ∀d∈x.1.2.2.2.2.2.2.2,d.1≠x.2:=by
 refine AV (λ(s:Int×Ag)=>0<=s.1/\s.1<=x.1.2.2.2.2.2.2.2.length/\x.1.2.2.2.2.2.2.2.length<=16777216/\ ∀(i:Nat) (d:Ag),i<s.1->x.1.2.2.2.2.2.2.2[i]? =some d->d.1≠x.2) (λ(s:Int×Ag)=>((x.1.2.2.2.2.2.2.2.length:Int)-s.1).toNat) h (λs j=>?_);have⟨c,m,f,g⟩:=j;unfold NZ;refine AC (λa=>?_) (λa=>AB (.inr ⟨_,rfl,λd b=>?_⟩));simp[len]at a;refine AA (AI c a) λv o=>?_;apply AQ<;>intro n;grind[AA,AI,AB,Option.some.inj];have e:=AX (x:=s.1+1);refine AB ⟨⟨d!,d!,f,λi d k b=>?_⟩,d!⟩;dsimp only at k;by_cases l:(i:Int)<s.1;exact g i d l b;have:i=s.1.toNat:=o!
 grind[Option.some.inj];grind[List.getElem?_of_mem,Nat.lt_or_ge,List.getElem?_eq_none]
def Jp{x:AP×Int}(h:SB x.1):Ar (Ed x) λr=>(r.2=true->r.1∈x.1.2.2.2.2.2.2.2/\r.1.1=x.2)/\(r.2=false-> ∀d∈x.1.2.2.2.2.2.2.2,d.1≠x.2):=by unfold Ed;refine AA (Y5 ⟨o!,d!,h.2.2,λi d a=>absurd a d!⟩) λv b=>?_;grind[BG,AB,A3]
def Y6{x:AP}{s:Int}(h:0<=s/\s<=x.2.2.2.2.2.1.length/\(x.2.2.2.2.2.1.length:Int)<=16777216):Ar (AZ (Na x) s) λr=>r≠ .inl true:=by
 refine AV (λ(s:Int)=>0<=s/\s<=x.2.2.2.2.2.1.length/\(x.2.2.2.2.2.1.length:Int)<=16777216) (λ(s:Int)=>((x.2.2.2.2.2.1.length:Int)-s).toNat) h (λs b=>?_);unfold Na;exact x!
def Y7{x:AP}{s:Int}(h:0<=s/\s<=x.2.2.2.1.2.1.length/\(x.2.2.2.1.2.1.length:Int)<=16777216/\SB x):Ar (AZ (Nb x) s) λr=>r≠ .inl true:=by
 refine AV (λ(s:Int)=>0<=s/\s<=x.2.2.2.1.2.1.length/\(x.2.2.2.1.2.1.length:Int)<=16777216/\SB x) (λ(s:Int)=>((x.2.2.2.1.2.1.length:Int)-s).toNat) h (λs b=>?_);unfold Nb;exact x!
def Y8{x:AP}{s:Int}(h:0<=s/\s<=x.2.2.2.2.1.1.length/\(x.2.2.2.2.1.1.length:Int)<=16777216):Ar (AZ (Nc x) s) λr=>r≠ .inl true:=by
 refine AV (λ(s:Int)=>0<=s/\s<=x.2.2.2.2.1.1.length/\(x.2.2.2.2.1.1.length:Int)<=16777216) (λ(s:Int)=>((x.2.2.2.2.1.1.length:Int)-s).toNat) h (λs b=>?_);unfold Nc;exact x!
def Y9{x:AP}{s:Int}(h:0<=s/\s<=x.2.2.2.2.1.2.length/\(x.2.2.2.2.1.2.length:Int)<=16777216):Ar (AZ (Nd x) s) λr=>r≠ .inl true:=by
 refine AV (λ(s:Int)=>0<=s/\s<=x.2.2.2.2.1.2.length/\(x.2.2.2.2.1.2.length:Int)<=16777216) (λ(s:Int)=>((x.2.2.2.2.1.2.length:Int)-s).toNat) h (λs b=>?_);unfold Nd;exact x!
def B6{x:AP}(h:SB x):Ar (Bh x) λr=>r=true->VK x:=by
 unfold Bh;repeat' with_reducible first|intro a|apply AM|apply AJ|(apply BG;try dsimp only)|(apply A3;try dsimp only)|(apply BA<;>(intro u b;try subst b))|apply AB|(refine AL ?_ (eF ?_);intro r hr)|(refine AL ?_ (Y6 ?_);intro r hr)|(refine AL ?_ (Y7 ?_);intro r hr)|(refine AL ?_ (Y8 ?_);intro r hr)|(refine AL ?_ (Y9 ?_);intro r hr)
 all_goals ((try dsimp[len]at*);(try first|omega|assumption|grind[SB,VK,Fy,Pg]))
def Zp{x:List Ai×Int}{s:Int}(h:0<=s/\s<=x.1.length/\(x.1.length:Int)<=16777216):Ar (AZ (Jn x) s) λr=> ∀u,r= .inl u->0<=u/\u<x.1.length/\ ∃t,x.1[u.toNat]? =some t/\t.1=x.2:=by
 refine AV (λ(s:Int)=>0<=s/\s<=x.1.length/\(x.1.length:Int)<=16777216) (λ(s:Int)=>((x.1.length:Int)-s).toNat) h (λs b=>?_);unfold Jn;exact x!
def H4{x:List Ai×Int}(h:x.1.length<=16777216):Ar (ET x) λr=> -1<=r/\r<x.1.length/\(0<=r-> ∃t,x.1[r.toNat]? =some t/\t.1=x.2):=by
 unfold ET;exact x!
def FO{x:List Ai×Int}(h:x.1.length<=16777216):Ar (CK x) λr=> -1<=r/\r<x.1.length/\(0<=r-> ∃t,x.1[r.toNat]? =some t/\t.1=x.2):=by
 unfold CK;exact x!
def na(p:BY)(id:Int):Prop:= ∃(i:Nat) (f:A9),p.2.1[i]? =some f/\f.1.1=id
def Zo{x:BY×Int}{s:Int}(h:0<=s/\s<=x.1.2.1.length/\(x.1.2.1.length:Int)<=16777216/\ ∀(i:Nat) (f:A9),i<s->x.1.2.1[i]? =some f->f.1.1≠x.2):Ar (AZ (OS x) s) λr=>(∃u,r= .inl u/\0<=u/\u<x.1.2.1.length/\ ∃f,x.1.2.1[u.toNat]? =some f/\f.1.1=x.2)\/(r= .inr ()/\ ¬na x.1 x.2):=by
 refine AV (λ(s:Int)=>0<=s/\s<=x.1.2.1.length/\(x.1.2.1.length:Int)<=16777216/\ ∀(i:Nat) (f:A9),i<s->x.1.2.1[i]? =some f->f.1.1≠x.2) (λ(s:Int)=>((x.1.2.1.length:Int)-s).toNat) h (λs b=>?_);unfold OS;repeat' with_reducible first|intro a|apply AC|apply AQ|apply AJ|apply AB|(refine AL ?_ (AI ?_ ?_);rintro r ⟨hr,c⟩)
 all_goals try (have e:=AX (x:=s+1))
 all_goals first|omega|grind[na]
def GP{x:BY×Int}(h:x.1.2.1.length<=16777216):Ar (FA x) λr=> -1<=r/\r<x.1.2.1.length/\(0<=r-> ∃f,x.1.2.1[r.toNat]? =some f/\f.1.1=x.2)/\(r<0-> ¬na x.1 x.2):=by refine AA (Zo (by refine⟨o!,o!,o!,λi f a=>absurd a o!⟩)) λs b=>?_;grind[BG,AB,A3]
def FN{x:BY×Int}:Ar (D3 x) λr=> -1<=r/\r<x.1.2.1.length/\(0<=r->Pg x.1/\ ∃f,x.1.2.1[r.toNat]? =some f/\f.1.1=x.2)/\(Pg x.1->na x.1 x.2->0<=r):=by
 unfold D3;repeat' with_reducible first|intro b|apply AM|apply AJ|apply AB|(apply AA (EE);intro r hr)|(refine AL ?_ (GP ?_);intro r hr)
 all_goals first|omega|(have a:Pg x.1:=q!;have:=a.1;have:=a.2.1;have:=a.2.2.1;omega)|grind
def Ij{x:BY×Int}:Ar (Fg x) λr=>(r.2=true->Pg x.1/\G8 r.1/\na x.1 x.2/\r.1.1=x.2/\ ∃f∈x.1.2.1,f.1=r.1)/\(r.2=false->Pg x.1-> ¬na x.1 x.2):=by
 unfold Fg;repeat' with_reducible first|intro a|apply AC|apply AJ|apply AB|(apply AA (FN);intro r hr)|(refine AL ?_ (AI ?_ ?_);rintro r ⟨hr,b⟩)
 all_goals first|omega|(simp;grind)|grind[Pg,KD,pK,na]
theorem Dg.last{x:Ae}(h:Dg x):wi (wi (x.1+len x.2.1)-1)=x.1+x.2.1.length-1:=by have⟨a,b,c,d,e,f⟩:=h;grind[AX]
def Dg.at{x:Ae}{n:Int}{e:AE}(h:Dg x)(a:x.1<=n)(b:n<=x.1+x.2.1.length-1)(c:x.2.1[(wi (n-x.1)).toNat]? =some e):ML e/\e.1=n:=by have⟨a1,a2,a3,a4,a5,a6⟩:=h;grind[AX]
theorem Dg.append{x:Ae}{e:AE}{l:List AE}(h:Dg x)(b:x.2.1.length≠4096)(d:ML e)(c:e.1=x.1+x.2.1.length)(a:l=x.2.1++[e]):Dg (x.1,l,x.2.2):=by have⟨a1,a2,a3,a4,a5,a6⟩:=h;subst a;refine⟨a1,a2,w!,a4,w!,λi f g=>?_⟩;grind[Nat.lt_or_ge,List.getElem?_append_right,List.getElem?_eq_none]
def Dg.force{x:Ae}{n:Int}(h:Dg x)(a:n<=x.1+x.2.1.length-1):Dg (x.1,x.2.1,if n>x.2.2 then n else x.2.2):=by have⟨a1,a2,a3,a4,a5,a6⟩:=h;refine⟨a1,a2,a3,?_,?_,a6⟩<;>(dsimp only;split<;>omega)
def GO{x:Ae}:Ar (E8 x) λr=>Dg x->r=x.1+x.2.1.length-1:=by
 unfold E8;repeat' with_reducible first|intro a|apply AM|apply AJ|apply AB|(apply AA (Be);intro r hr)|(apply AA (ER);intro r hr)
 all_goals ((try dsimp[len]at*);(try first|omega|assumption|grind[Dg.last]))
def Jl{x:Ae×Int}:Ar (EB x) λr=>(r.2=0->Dg r.1/\r.1.2.1=x.1.2.1/\r.1.1=x.1.1/\x.1.2.2<=r.1.2.2/\x.2<=r.1.2.2):=by
 unfold EB;repeat' with_reducible first|apply AC<;>intro a|apply AM<;>intro a|apply AJ<;>intro a|apply AB|(apply AA (Be);intro r hr)|(apply AA (ER);intro r hr)
 all_goals try (intro _;have b:Dg x.1:=q!
                have c:=b.last;exact⟨b.force o!,rfl,rfl,by dsimp only;split<;>omega,by dsimp only;split<;>omega⟩)
 all_goals exact l!
theorem Gt{x:Ae×Int}:Ar (En x) λr=>(r.2=0->ML r.1/\r.1.1=x.2/\x.1.2.1[(x.2-x.1.1).toNat]? =some r.1/\x.1.1<=x.2)/\(Dg x.1->x.1.1<=x.2->x.2<=x.1.1+x.1.2.1.length-1->r.2=0):=by
 unfold En;repeat' with_reducible first|intro c|apply AC|apply AM|apply AJ|apply AB|(apply AA (Be);intro r hr)|(apply AA (ER);intro r hr)|(refine AL ?_ (AI ?_ ?_);rintro r ⟨hr,f⟩)
 all_goals try (have a:Dg x.1:=q!)
 all_goals try (have e:=a.last;have:=a.1;have:=a.2.1;have:=a.2.2.1)
 all_goals try (have d:wi (x.2-x.1.1)=x.2-x.1.1:=AX)
 all_goals try (have b:=a.at (n:=x.2) o! o! hr;rw[d]at hr;exact⟨λ_=>⟨b.1,b.2,hr,o!⟩,λ_ _ _=>rfl⟩)
 all_goals exact l!
def bR{x:Ae×AE}:Ar (KJ x) λr=>(r.2.2=0->Dg r.1/\Dg x.1/\r.1.2.1=x.1.2.1++[(r.2.1,x.2.2)]/\r.1.1=x.1.1/\r.2.1=x.1.1+x.1.2.1.length/\r.1.2.2=x.1.2.2):=by
 unfold KJ;repeat' with_reducible first|intro b|apply AM|apply AQ|apply AJ|apply AB|(apply AA (Be);intro r hr)|(apply AA (ER);intro r hr)|(apply AA (CT);intro r hr)|(refine AL ?_ (Ac ?_);rintro r ⟨hr,c,d⟩)
 all_goals try (have a:Dg x.1:=q!)
 all_goals try (have c:=a.last;have:=a.1;have:=a.2.1;have:=a.2.2.1)
 all_goals ((try dsimp[len]at*);(try first|omega|assumption|grind[AX,Dg.append]))
def B8{x:AE}:Ar (BF x) λr=>r=true↔x.2.1=1\/x.2.1=2:=by
 unfold BF;exact x!
end Go.Pm
namespace Go.Pm
open Go Go.Ab
set_option maxHeartbeats 400000
def sT(n:Int):0<=IntKind.wrap .u64 n:=by rw[XB];omega
theorem fO(l:List Int):(GX l).length=l.length:=by simp[GX]
def bJ{x:BW×Int×Int}{s:BW×Int}(h:0<=s.2/\s.2<=x.2.2/\x.2.2<=8/\(s.1.length:Int)=x.1.length+s.2/\x.1.length<=1099511627776):Ar (AZ (GL x) s) λr=>(r.length:Int)=x.1.length+x.2.2:=by
 refine AV (λ(s:BW×Int)=>0<=s.2/\s.2<=x.2.2/\x.2.2<=8/\(s.1.length:Int)=x.1.length+s.2/\x.1.length<=1099511627776) (λ(s:BW×Int)=>(x.2.2-s.2).toNat) h (λs b=>?_);unfold GL;repeat' with_reducible first|intro a|apply AC|apply AJ|apply AB|apply bH|(refine AL ?_ (Cm ?_);rintro r ⟨hr,c⟩)
 all_goals try (have d:=sT (wi (8*s.2));omega)
 all_goals ((try dsimp[len]at*);(try first|omega|assumption|grind[AX,fO]))
def DE{x:BW×Int×Int}(h:x.1.length<=1099511627776):Ar (Aj x) λr=>(1<=x.2.2->x.2.2<=8->(r.length:Int)=x.1.length+x.2.2)/\r.length<=x.1.length+8:=by
 unfold Aj;exact x!
def ABk{n:Int}(h:n<=4):(2:Int)^(8*n.toNat)<=4294967296:=by
 have:n.toNat=0\/n.toNat=1\/n.toNat=2\/n.toNat=3\/n.toNat=4:=o!
 rcases this with h|h|h|h|h<;>rw[h]<;>decide
def AFv{n:Int}(h:n<=2):(2:Int)^(8*n.toNat)<=65536:=by
 have:n.toNat=0\/n.toNat=1\/n.toNat=2:=o!
 rcases this with h|h|h<;>rw[h]<;>decide
def AED{a b:Int}{k:Nat}(e:0<=a)(c:a<2^k)(f:0<=b)(d:b<2^k)(g:k<=64):(0:Int)<=((BitVec.toNat (BitVec.ofInt 64 a|||BitVec.ofInt 64 b):Nat):Int)/\((BitVec.toNat (BitVec.ofInt 64 a|||BitVec.ofInt 64 b):Nat):Int)<2^k:=by
 refine⟨o!,?_⟩;obtain⟨n,rfl⟩:=FF e;obtain⟨m,rfl⟩:=FF f;have hn:n<2^k:=by exact_mod_cast c
 have h:m<2^k:=by exact_mod_cast d
 have i:2^k<=2^64:=fH g! g;rw[BitVec.toNat_or];simp[pN,pO];rw[WM o!,WM o!];exact_mod_cast Nat.or_lt_two_pow hn h
def yq{a v i:Int}(d:0≤i)(e:i<8)(c:0≤a)(b:a<2^(8*i.toNat))(g:0≤v)(h:v<256):
  0<=IntKind.wrap .u64 (((BitVec.toNat ((BitVec.ofInt 64 a)|||(BitVec.ofInt 64 (IntKind.wrap .u64 ((IntKind.wrap .u64 v)*(2^(min (Int.toNat (IntKind.wrap .u64 (wi (8*i)))) 64))))))):Nat):Int)/\
  IntKind.wrap .u64 (((BitVec.toNat ((BitVec.ofInt 64 a)|||(BitVec.ofInt 64 (IntKind.wrap .u64 ((IntKind.wrap .u64 v)*(2^(min (Int.toNat (IntKind.wrap .u64 (wi (8*i)))) 64))))))):Nat):Int)<2^(8*(wi (i+1)).toNat):=by
 rw[(AX),(AX),(by rw[XB];omega:IntKind.wrap .u64 (8*i)=8*i),(by rw[XB];omega:IntKind.wrap .u64 v=v)];obtain⟨n,rfl⟩:=FF d;obtain⟨m,rfl⟩:=FF g;rw[(by omega:min (8*(n:Int)).toNat 64=8*n)];rw[(by omega:((n:Int)+1).toNat=n+1)];rw[(by omega:((n:Int)).toNat=n)]at b;have f:(m:Int)*2^(8*n)<2^(8*(n+1)):=by
  have:(m*2^(8*n):Nat)<2^(8*(n+1)):=by rw[(by grind[Nat.mul_add,Nat.pow_add]:2^(8*(n+1))=256*2^(8*n))];exact Nat.mul_lt_mul_of_pos_right o! (Nat.pow_pos g!)
  exact_mod_cast this
 have l:(2:Int)^(8*(n+1))<=2^64:=by have:(2^(8*(n+1)):Nat)<=2^64:=fH g! o!;exact_mod_cast this
 have j:(0:Int)<=(m:Int)*2^(8*n):=by
  have:(0:Int)<=((m*2^(8*n):Nat):Int):=o!
  exact_mod_cast this
 rw[(by rw[XB];omega:IntKind.wrap .u64 ((m:Int)*2^(8*n))=(m:Int)*2^(8*n))];have⟨q1,q2⟩:=AED (k:=8*(n+1)) c (by grind[Nat.pow_le_pow_right]) j f o!;grind[BitVec.toNat,XB]
def bI{x:BW×Int×Int}{s:Int×Int}(h:0<=s.2/\s.2<=x.2.2/\x.2.2<=8/\0<=x.2.1/\x.2.1+x.2.2<=x.1.length/\x.1.length<=1099511627776/\0<=s.1/\s.1<2^(8*s.2.toNat)):Ar (AZ (GK x) s) λr=>0<=r/\r<2^(8*x.2.2.toNat):=by
 refine AV (λ(s:Int×Int)=>0<=s.2/\s.2<=x.2.2/\x.2.2<=8/\0<=x.2.1/\x.2.1+x.2.2<=x.1.length/\x.1.length<=1099511627776/\0<=s.1/\s.1<2^(8*s.2.toNat)) (λ(s:Int×Int)=>(x.2.2-s.2).toNat) h (λs n=>?_);unfold GK;have⟨d,q,f,g,j,k,l,m⟩:=n;repeat' with_reducible first|intro o|apply AC|apply AJ|apply AB|apply bH|(refine AL ?_ (VG ?_ ?_);rintro r ⟨hr,p⟩)
 all_goals try (have t:=sT (wi (8*s.2));omega)
 all_goals (first|(have⟨b,c⟩:=yq (a:=s.1) (v:=r) (i:=s.2) d o! l m hr p;have e:=AX (x:=s.2+1);exact⟨⟨o!,o!,f,g,j,k,b,c⟩,d!⟩)|skip)
 all_goals exact l!
def DD{x:BW×Int×Int}(h:x.1.length<=1099511627776):Ar (Av x) λr=>r.2=0->0<=x.2.1/\x.2.1+x.2.2<=x.1.length/\(x.2.2<=4->0<=r.1/\r.1<4294967296)/\(x.2.2<=2->r.1<65536):=by
 unfold Av;repeat' with_reducible first|apply AC<;>intro c|apply AJ<;>intro c|apply AB|(refine AL ?_ (bI ?_);intro r hr)
 all_goals dsimp[len]at*
 all_goals first
  |omega
  |(intro d;exact absurd d g!)
  |(have e:=AX (x:=(x.1.length:Int)-x.2.1);exact⟨o!,o!,o!,o!,o!,h,o!,k!⟩)
  |(intro _;have e:=AX (x:=(x.1.length:Int)-x.2.1);refine⟨o!,o!,λb=>?_,λa=>?_⟩;(have:=ABk b;rw[AX];omega);(have:=AFv a;rw[AX];omega))
def bL  {s:Int×Int}(h:0<=s.2/\s.2<=8):Ar (AZ (Hs) s) λr=>True:=by
 refine AV (λ(s:Int×Int)=>0<=s.2/\s.2<=8) (λ(s:Int×Int)=>(8-s.2).toNat) h (λs b=>?_);unfold Hs;exact x!
def bK{x:BW}{s:Int×Int}(h:0<=s.2/\s.2<=x.length/\x.length<=1099511627776):Ar (AZ (Hr x) s) λr=>True:=by
 refine AV (λ(s:Int×Int)=>0<=s.2/\s.2<=x.length/\x.length<=1099511627776) (λ(s:Int×Int)=>((x.length:Int)-s.2).toNat) h (λs b=>?_);unfold Hr;exact x!
def V4{x:BW}(h:x.length<=1099511627776):Ar (Ek x) λr=>True:=by
 unfold Ek;exact x!
theorem UH{x:BW}:Ar (DB x) λr=>r.length<=8408:=by
 unfold DB;repeat' with_reducible first|intro a|apply AC|apply AJ|apply AB|(refine AL ?_ (DE ?_);intro r hr)|(refine AL ?_ (V4 ?_);intro r hr)|(refine AL ?_ (Cm ?_);rintro r ⟨hr,b⟩)
 all_goals dsimp[len]at*
 all_goals exact l!
def gr{x:BW×Cd}(h:x.1.length<=1099511627776)(b:x.2.2.length<=16777216):Ar (F3 x) λr=>r.length<=x.1.length+8+x.2.2.length:=by
 unfold F3;exact x!
def Vq.lens{x:AE}(h:Vq x):x.2.2.2.2.2.2.1.2.2.1.2.length<=12/\x.2.2.2.2.2.2.1.2.2.2.2.length<=12/\x.2.2.2.2.2.2.2.length<=8192:=by grind[Vq,O3,IZ,QO]
theorem bP{x:AE}:Ar (FL x) λr=>r.1.length<=8400:=by
 unfold FL;repeat' with_reducible first|intro a|apply AM|apply AJ|apply AB|(apply AA (CT);intro r hr)|(refine AL ?_ (DE ?_);intro r hr)|(refine AL ?_ (gr ?_ ?_);intro r hr)|(refine AL ?_ (Cm ?_);rintro r ⟨hr,b⟩)
 all_goals try (have c:=(Vq.lens (x:=x) (by unfold ML at*;grind)))
 all_goals exact l!
def AFo(k:Nat):(0:Int)<256^k:=by have:0<256^k:=Nat.pow_pos g!;grind
def AIh(b k:Nat):(b:Int)*256^k=((b*256^k:Nat):Int):=q!
def C5(n:Int):Nat->BW
 |0=>[]
 |k+1=>UInt8.ofNat (n%256).toNat::C5 (n/256) k
def ox:BW->Nat
 |[]=>0
 |b::r=>b.toNat+256*ox r
theorem Aw: ∀(k:Nat) (n:Int),(C5 n k).length=k
 |0,n=>rfl
 |k+1,n=>by rw[C5,Cu,Aw k]
theorem uJ: ∀l:BW,ox l<256^l.length
 |[]=>by simp[ox]
 |b::r=>by have a:=uJ r;have c:=b.toNat_lt;grind[ox,List.length_cons,Nat.pow_succ]
def ABh: ∀l:BW,C5 (ox l:Int) l.length=l
 |[]=>rfl
 |b::r=>by have a:=b.toNat_lt;rw[Cu,C5,(by rw[ox];omega:((ox (b::r):Nat):Int)/256=(ox r:Int)),(by rw[ox];omega:(((ox (b::r):Nat):Int)%256).toNat=b.toNat),ABh r];simp
def vv: ∀(k:Nat) (n m:Int),n%256^k=m%256^k->C5 n k=C5 m k
 |0,_,_,_=>rfl
 |k+1,n,m,h=>by
  have e:(256:Int)^(k+1)=256^k*256:=Int.pow_succ ..;have b:n%256=m%256:=by have a:n%256^(k+1)%256=n%256:=Int.emod_emod_of_dvd n ⟨256^k,by rw[e,Int.mul_comm]⟩;simp_all
  have c:n/256%256^k=m/256%256^k:=by
   have g: ∀x:Int,x/256%256^k=x%256^(k+1)/256:=λx=>by have d:=pS (x/256) (256^k);have f:=pS x (256*256^k);grind[Int.ediv_ediv_of_nonneg]
   grind
  rw[C5,C5,b,vv k _ _ c]
def uI: ∀(k:Nat) (n:Int),C5 n (k+1)=C5 n k++[UInt8.ofNat (n/256^k%256).toNat]
 |0,n=>by simp[C5]
 |k+1,n=>by rw[C5,uI k (n/256),C5];grind[Int.pow_succ,Int.mul_comm,Int.ediv_ediv_of_nonneg]
theorem sM: ∀(k:Nat) (n:Int),((ox (C5 n k):Nat):Int)=n%256^k
 |0,n=>by simp[C5,ox]
 |k+1,n=>by
  rw[C5,ox];have b:(UInt8.ofNat (n%256).toNat).toNat=(n%256).toNat:=by grind[UInt8.toNat_ofNat']
  have c:=sM k (n/256);have a:=pS (n/256) (256^k);grind[Int.mul_ediv_add_emod,Int.ediv_ediv_of_nonneg]
theorem uK: ∀(l:BW) (b:UInt8),ox (l++[b])=ox l+b.toNat*256^l.length
 |[],b=>by simp[ox]
 |a::r,b=>by rw[cA,ox,uK r b,ox,Cu,Nat.pow_succ,Nat.mul_add];grind
def ej(k:Nat)(n:Int):Prop:=(k<=7->0<=n/\n<256^k)/\ -9223372036854775808<=n/\n<=9223372036854775807
theorem aD{k:Nat}(f:k<=8){n m:Int}(hn:ej k n)(d:ej k m)(h:C5 n k=C5 m k):n=m:=by
 have e:=sM k n;rw[h,sM k m]at e;by_cases c:k<=7;have a:=hn.1 c;have b:=d.1 c;grind[Int.emod_eq_of_lt];have:k=8:=o!
 have a:=hn.2;have b:=d.2;grind
def rd(l:BW):Int:=wi (ox l:Int)
def AIi{k:Nat}(h:k<=7):(256:Int)^k<=72057594037927936:=by
 have:k=0\/k=1\/k=2\/k=3\/k=4\/k=5\/k=6\/k=7:=o!
 grind
theorem AAq{l:BW}(h:l.length<=8):ej l.length (rd l):=by have b:=uJ l;have d:rd l=((ox l:Int)+9223372036854775808)%18446744073709551616-9223372036854775808:=AEr _;refine⟨λa=>?_,o!⟩;have c:=AIi a;grind
theorem xP{l:BW}(h:l.length<=8):C5 (rd l) l.length=l:=by
 rw[show C5 (rd l) l.length=C5 (ox l:Int) l.length from ?_,ABh];apply vv;by_cases a:l.length<=7;have c:=AIi a;have b:(ox l:Int)<256^l.length:=by grind[uJ]
 have:rd l=(ox l:Int):=by unfold rd;exact AX
 rw[this];have:l.length=8:=o!
 rw[this,show(256:Int)^8=18446744073709551616 by decide];unfold rd;rw[AEr];omega
theorem qh{k:Nat}{n:Int}(a:k<=8)(h:ej k n):rd (C5 n k)=n:=by grind[Aw,aD,AAq,C5,xP]
def AAm(k:Nat):(2:Int)^(8*k)=256^k:=by grind[Int.pow_mul]
def AEO{n:Int}{i:Int}(c:0<=i)(d:i<8):GX ([IntKind.wrap .u8 (Int.fdiv (IntKind.wrap .u64 n) (2^(min (Int.toNat (IntKind.wrap .u64 (wi (8*i)))) 64)))]:List Int)=[UInt8.ofNat (n/256^i.toNat%256).toNat]:=by
 have a:wi (8*i)=8*i:=AX;have b:IntKind.wrap .u64 (8*i)=8*i:=by rw[XB];omega
 rw[a,b,show min (8*i).toNat 64=8*i.toNat by omega,AAm];have e:=AFo i.toNat
 rw[lL _ o!,XB,AIw];have:n%18446744073709551616/256^i.toNat%256=n/256^i.toNat%256:=by
  have:i.toNat=0\/i.toNat=1\/i.toNat=2\/i.toNat=3\/i.toNat=4\/i.toNat=5\/i.toNat=6\/i.toNat=7:=o!
  rcases this with h|h|h|h|h|h|h|h<;>rw[h];rw[show(256:Int)^0=1 by decide];omega;rw[show(256:Int)^1=256 by decide];omega;rw[show(256:Int)^2=65536 by decide];omega;rw[show(256:Int)^3=16777216 by decide];omega;rw[show(256:Int)^4=4294967296 by decide];omega;rw[show(256:Int)^5=1099511627776 by decide];omega;rw[show(256:Int)^6=281474976710656 by decide];omega;rw[show(256:Int)^7=72057594037927936 by decide];omega
 rw[this];rfl
theorem HZ{s:BW}{n:Int}{k:Int}(h:s.length<=1099511627776)(i:1<=k)(j:k<=8):Aj (s,(n,k))=some (s++C5 n k.toNat):=by
 have key:Ar (AZ (GL (s,(n,k))) (s,0)) λr=>r=s++C5 n k.toNat:=by refine AV (λ(t:BW×Int)=>0<=t.2/\t.2<=k/\t.1=s++C5 n t.2.toNat) (λt=>(k-t.2).toNat) ⟨Ad _,d!,by simp[C5]⟩ ?_;rintro⟨l,a⟩ ⟨b,g,c⟩;dsimp only at b g c;subst c;unfold GL;dsimp only;refine AC (λd=>?_) (λd=>AB (by rw[show a=k by omega]));refine AC (λe=>absurd e (by have:=sT (wi (8*a));omega)) (λ_=>?_);rw[AEO b o!];refine AA (Cm (by rw[Aa,Aw];simp;omega)) λv f=>AB ?_;rw[(AX)];refine⟨⟨o!,o!,?_⟩,o!⟩;rw[f.1,show(a+1).toNat=a.toNat+1 by omega,uI,A6]
 obtain⟨r,hr,rfl⟩:=key;unfold Aj;grind
def ze{a t:BW}{i:Int}(c:0<=i)(d:i<t.length)(e:(a.length:Int)<=2199023255552)(f:(t.length:Int)<=2199023255552): ∃b:UInt8,six (a++t) (wi ((a.length:Int)+i))=some (b.toNat:Int)/\t.take (i+1).toNat=t.take i.toNat++[b]:=by obtain⟨k,rfl⟩:=FF c;refine⟨t[k],?_,?_⟩;grind[AX,six];simp_all
theorem AHa{a b k:Nat}(h:a<256^k)(f:b<256)(g:k<8):BitVec.toNat (BitVec.ofInt 64 (a:Int)|||BitVec.ofInt 64 ((b:Int)*256^k))=a+b*256^k:=by
 have e:(256:Nat)^k=2^(8*k):=by rw[Nat.pow_mul]
 have d:a+b*256^k<256^(k+1):=by
  have:b*256^k+256^k<=256*256^k:=by rw[<-Nat.succ_mul];exact O6 _ o!
  omega
 have c:(256:Nat)^(k+1)<=2^64:=by rw[show(2:Nat)^64=256^8 by decide];exact fH g! o!
 rw[AIh];rw[BitVec.toNat_or,pN,pN,pO,pO,WM o!,WM o!];grind[Nat.mul_comm,Nat.two_pow_add_eq_or_of_lt]
theorem ABY{a:Nat}{b:UInt8}{i:Int}(g:0<=i)(h:i<8)(k:a<256^i.toNat)(j:Int)(d:j=8*i):IntKind.wrap .u64 (((BitVec.toNat ((BitVec.ofInt 64 (a:Int))|||(BitVec.ofInt 64 (IntKind.wrap .u64 ((IntKind.wrap .u64 (b.toNat:Int))*(2^(min (Int.toNat j) 64))))))):Nat):Int)=((a+b.toNat*256^i.toNat:Nat):Int):=by
 have l:=b.toNat_lt;have c:(256:Nat)^(i.toNat+1)<=2^64:=by rw[show(2:Nat)^64=256^8 by decide];exact fH g! o!
 have e:a+b.toNat*256^i.toNat<256^(i.toNat+1):=by
  have:b.toNat*256^i.toNat+256^i.toNat<=256*256^i.toNat:=by rw[<-Nat.succ_mul];exact O6 _ o!
  omega
 rw[d,(by rw[XB];omega:IntKind.wrap .u64 (b.toNat:Int)=b.toNat),show min (8*i).toNat 64=8*i.toNat by omega,AAm];have f:IntKind.wrap .u64 ((b.toNat:Int)*256^i.toNat)=(b.toNat:Int)*256^i.toNat:=by rw[XB,AIh];omega
 grind[AHa,XB]
theorem js{a t:BW}{k:Int}(h:(a.length:Int)+t.length<=2199023255552)(v:1<=k)(w:k<=8):Av (a++t,((a.length:Int),k))=if k<=t.length then some (rd (t.take k.toNat),0)else some (0,5):=by
 unfold Av;dsimp only;have d:len (a++t)=(a.length:Int)+t.length:=by unfold len;rw[List.length_append];omega
 rw[decide_eq_false o!,cond_false,decide_eq_false o!,cond_false,decide_eq_false o!,cond_false,decide_eq_false o!,cond_false];have q:wi (len (a++t)-(a.length:Int))=t.length:=by rw[d,AX];omega
 by_cases g:k<=t.length;rw[decide_eq_false o!,cond_false,if_pos g];have key:Ar (AZ (GK (a++t,((a.length:Int),k))) (0,0)) λr=>r=(ox (t.take k.toNat):Int):=by
  refine AV (λ(s:Int×Int)=>0<=s.2/\s.2<=k/\s.1=(ox (t.take s.2.toNat):Int)) (λs=>(k-s.2).toNat) ⟨Ad _,d!,by simp[ox]⟩ ?_;rintro⟨x,c⟩ ⟨f,u,l⟩;dsimp only at f u l;subst l;unfold GK;dsimp only;refine AC (λo=>?_) (λo=>AB (by rw[show c=k by omega]));obtain⟨b,q1,q2⟩:=ze (a:=a) (t:=t) (i:=c) f o! o! o!;rw[q1,AD];refine AC (λp=>absurd p (by have:=sT (wi (8*c));omega)) (λ_=>AB ?_);have e:wi (c+1)=c+1:=AX;have m:wi (8*c)=8*c:=AX;have n:IntKind.wrap .u64 (8*c)=8*c:=by rw[XB];omega
  have j:(t.take c.toNat).length=c.toNat:=by rw[BM];omega
  dsimp only;rw[e,ABY f o! (by have:=uJ (t.take c.toNat);rwa [j]at this) _ (by rw[m,n])];refine⟨⟨o!,o!,?_⟩,o!⟩;rw[q2,uK,j]
 obtain⟨r,hr,rfl⟩:=key;rw[hr];rfl;rw[decide_eq_true o!,cond_true,if_neg g]
theorem YF{a t:BW}{k:Int}(h:(a.length:Int)+t.length<=2199023255552)(p:1<=k)(q:k<=8):Bq (a++t,((a.length:Int),k))=if k<=t.length then some (rd (t.take k.toNat),0)else some (0,5):=by
 unfold Bq;dsimp only;have f:len (a++t)=(a.length:Int)+t.length:=q!
 rw[decide_eq_false o!,cond_false,decide_eq_false o!,cond_false,decide_eq_false o!,cond_false,decide_eq_false o!,cond_false];have m:wi (len (a++t)-(a.length:Int))=t.length:=by grind[AX]
 by_cases l:k<=t.length;rw[decide_eq_false o!,cond_false,if_pos l];have key:Ar (AZ (VI (a++t,((a.length:Int),k))) (0,0)) λr=>r=(ox (t.take k.toNat):Int):=by refine AV (λ(s:Int×Int)=>0<=s.2/\s.2<=k/\s.1=(ox (t.take s.2.toNat):Int)) (λs=>(k-s.2).toNat) ⟨Ad _,d!,by simp[ox]⟩ ?_;rintro⟨u,c⟩ ⟨d,n,e⟩;dsimp only at d n e;subst e;unfold VI;dsimp only;refine AC (λg=>?_) (λg=>AB (by rw[show c=k by omega]));have⟨b,q1,q2⟩:=ze (a:=a) (t:=t) (i:=c) d o! o! o!;have o:wi (8*c)=8*c:=AX;rw[q1,AD];refine AC (λj=>absurd j o!) (λ_=>AB ?_);grind[AX,ABY,uJ,uK]
 obtain⟨r,hr,rfl⟩:=key;rw[hr];rfl;grind
def Om(x:BW×Int×Int):Option BW:=
 bif decide (x.1.length<=1099511627776)&&(decide (1<=x.2.2)&&decide (x.2.2<=8))then some (x.1++C5 x.2.1 x.2.2.toNat)else none
def Kj(x:BW×Int):Option BW:=
 bif (x.1==[0])&&(decide (0<=x.2)&&decide (x.2<=8000))then some (List.replicate x.2.toNat 0)else none
end Go.Pm
