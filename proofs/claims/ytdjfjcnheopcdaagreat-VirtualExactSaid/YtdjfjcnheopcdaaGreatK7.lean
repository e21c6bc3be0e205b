/- Texts of wip, joined and shortened by wip/tools/pack.py; nothing is assumed. -/
import Derived.Test.YtdjfjcnheopcdaaGreatK6
noncomputable section
set_option linter.all false
namespace Go.Pm
open Go Go.Ab
set_option maxHeartbeats 400000
def FA(x:Cc):Prop:=x.2.length<=12/\(x.1=true\/x.2=[])
def OQ(x:Dd):Prop:=0<=x.1/\x.1<64/\0<=x.2.1/\x.2.1<16/\FA x.2.2.1/\FA x.2.2.2
def KF{x:Cc}:As (DQ x) λr=>r=true↔FA x:=by
 unfold DQ FA
 exact x!
def Np{x:Dd}:As (IW x) λr=>r=true↔OQ x:=by
 unfold IW OQ
 exact x!
def Pd:Dd:=(0,0,(false,[]),(false,[]))
def UA(x:AE):Prop:=
 (x.2.1=1/\x.2.2.2.2.2.1=0/\x.2.2.2.2.2.2.2=[]/\1<=x.2.2.1/\x.2.2.1<=1073741824/\OQ x.2.2.2.2.2.2.1)\/
 (x.2.1=2/\0<x.2.2.2.1/\1<=x.2.2.2.2.2.1/\x.2.2.2.2.2.1<=x.2.2.2.1/\x.2.2.2.2.2.2.2=[]/\1<=x.2.2.1/\x.2.2.1<=1073741824/\OQ x.2.2.2.2.2.2.1)\/
 ((x.2.1=3\/x.2.1=4\/x.2.1=5)/\0<x.2.2.2.1/\x.2.2.2.2.1=0/\x.2.2.2.2.2.1=0/\x.2.2.2.2.2.2.1=Pd/\x.2.2.2.2.2.2.2=[]/\1<=x.2.2.1/\x.2.2.1<=1073741824)\/
 ((x.2.1=6\/x.2.1=8)/\x.2.2.1=0/\x.2.2.2.1=0/\x.2.2.2.2.1=0/\x.2.2.2.2.2.1=0/\x.2.2.2.2.2.2.1=Pd/\x.2.2.2.2.2.2.2.length<=8192)\/
 (x.2.1=7/\x.2.2.1=0/\x.2.2.2.1=0/\x.2.2.2.2.1=0/\0<=x.2.2.2.2.2.2.1.1/\x.2.2.2.2.2.2.1.1<64/\x.2.2.2.2.2.2.1.2=Pd.2/\x.2.2.2.2.2.2.2=[])
def Io(x:AE):Prop:=1<=x.1/\x.1<=1099511627776/\0<=x.2.2.2.1/\x.2.2.2.1<x.1/\0<=x.2.2.2.2.1/\x.2.2.2.2.1<x.1/\0<=x.2.2.2.2.2.1/\x.2.2.2.2.2.1<x.1/\UA x
def ZG{x:Int×Int}:As (GU x) λr=>r=true↔0<=x.1/\x.1<x.2:=by
 unfold GU;exact x!
def ay{x:AE}:As (LK x) λr=>(r.2=true/\r.1=x)↔UA x:=by
 obtain⟨a,b,c,d,e,f,⟨g,h,⟨i,j⟩,k,l⟩,m⟩:=x;unfold LK UA Pd;dsimp only
 repeat' first
   |with_reducible apply AC<;>intro n
   |with_reducible apply AQ<;>intro n
   |with_reducible apply AL<;>intro n
   |(with_reducible apply A9;try dsimp only)
   |with_reducible apply Bf
   |with_reducible apply Bw
   |with_reducible apply AB
   |(with_reducible apply AA (Np);intro r hr)
 all_goals grind
def CL{x:AE}:As (Cp x) λr=>r=true↔Io x:=by
 unfold Cp;refine AA ay λn A=>?_;have e:((n.1.1==x.1)&&((n.1.2.1==x.2.1)&&((n.1.2.2.1==x.2.2.1)&&((n.1.2.2.2.1==x.2.2.2.1)&&((n.1.2.2.2.2.1==x.2.2.2.2.1)&&((n.1.2.2.2.2.2.1==x.2.2.2.2.2.1)&&((n.1.2.2.2.2.2.2.1.1==x.2.2.2.2.2.2.1.1)&&((n.1.2.2.2.2.2.2.1.2.1==x.2.2.2.2.2.2.1.2.1)&&((n.1.2.2.2.2.2.2.1.2.2.1.1==x.2.2.2.2.2.2.1.2.2.1.1)&&((n.1.2.2.2.2.2.2.1.2.2.1.2==x.2.2.2.2.2.2.1.2.2.1.2)&&((n.1.2.2.2.2.2.2.1.2.2.2.1==x.2.2.2.2.2.2.1.2.2.2.1)&&((n.1.2.2.2.2.2.2.1.2.2.2.2==x.2.2.2.2.2.2.1.2.2.2.2)&&((n.1.2.2.2.2.2.2.2==x.2.2.2.2.2.2.2)&&true)))))))))))))=true↔n.1=x:=by obtain⟨⟨a,b,c,d,e,f,⟨g,h,⟨i,j⟩,k,l⟩,m⟩,z⟩:=n;obtain⟨p,q,s,t,u,v,⟨w,y,⟨B,C⟩,D,E⟩,F⟩:=x;simp[and_assoc]
 generalize ((n.1.1==x.1)&&_)=bb at e⊢;unfold Io
 repeat' first
   |with_reducible apply AC<;>intro o
   |with_reducible apply AQ<;>intro o
   |with_reducible apply AL<;>intro o
   |(with_reducible apply A9;try dsimp only)
   |with_reducible apply Bf
   |with_reducible apply Bw
   |with_reducible apply AB
   |(with_reducible apply AA (ZG);intro r hr)
 all_goals grind
def ES{x:Af}:As (Cg x) λr=>r=wi (wi (x.1+len x.2.1)-1):=by
 unfold Cg;exact x!
def Dg(x:Af):Prop:=1<=x.1/\x.1<=1099511627776/\x.2.1.length<=4096/\x.1-1<=x.2.2/\x.2.2<=x.1+x.2.1.length-1/\ ∀(i:Nat) (e:AE),x.2.1[i]? =some e->e.1=x.1+i/\Io e
def Wz{x:Af}{s:Int}(h:0<=s/\s<=x.2.1.length/\x.2.1.length<=4096/\1<=x.1/\x.1<=1099511627776/\ ∀(i:Nat) (e:AE),i<s->x.2.1[i]? =some e->e.1=x.1+i/\Io e):As (Aj (Mu x) s) λr=>(r= .inl false/\ ¬Dg x)\/(r= .inr ()/\ ∀(i:Nat) (e:AE),x.2.1[i]? =some e->e.1=x.1+i/\Io e):=by
 refine AV (λ(s:Int)=>0<=s/\s<=x.2.1.length/\x.2.1.length<=4096/\1<=x.1/\x.1<=1099511627776/\ ∀(i:Nat) (e:AE),i<s->x.2.1[i]? =some e->e.1=x.1+i/\Io e) (λ(s:Int)=>((x.2.1.length:Int)-s).toNat) h (λs b=>?_);unfold Mu;obtain⟨c,d,f,g,j,k⟩:=b;repeat' with_reducible first|intro a|apply AC|apply AP|apply AM|apply AL|apply AB|(apply AA (CL);intro r hr)|(refine AO ?_ (AI ?_ ?_);rintro r ⟨hr,l⟩)
 all_goals try (first|omega|grind[Aa,Dg])
theorem BS{x:Af}:As (B6 x) λr=>r=true↔Dg x:=by
 unfold B6;repeat' with_reducible first|intro a|apply AC|apply AL|(apply BK;try dsimp only)|(apply A4;try dsimp only)|(apply A6<;>(intro u b;try subst b))|apply AB|(apply AA (ES);intro r hr)|(refine AO ?_ (Wz ?_);intro r hr)
 all_goals try (first|omega|grind[Aa,Dg])
def Ex(x:AT):Prop:=0<=x.1/\x.1<64/\0<=x.2.1/\x.2.1<=1099511627776/\ ∀i,FA (x.2.2 i)/\(x.2.1=0->(x.2.2 i).1=false)
def II{x:AT}:As (HN x) λr=>r=true↔0<=x.1/\x.1<64/\0<=x.2.1/\x.2.1<=1099511627776:=by
 unfold HN;exact x!
def Wv{x:AT}{s:Int}(h:0<=s/\s<=16/\ ∀i:Fin 16,(i.val:Int)<s->FA (x.2.2 i)/\(x.2.1=0->(x.2.2 i).1=false)):As (Aj (Mm x) s) λr=>(r= .inl false/\ ¬ ∀i,FA (x.2.2 i)/\(x.2.1=0->(x.2.2 i).1=false))\/(r= .inr ()/\ ∀i,FA (x.2.2 i)/\(x.2.1=0->(x.2.2 i).1=false)):=by
 refine AV (λ(s:Int)=>0<=s/\s<=16/\ ∀i:Fin 16,(i.val:Int)<s->FA (x.2.2 i)/\(x.2.1=0->(x.2.2 i).1=false)) (λ(s:Int)=>(16-s).toNat) h (λs b=>?_);unfold Mm;exact x!
def JX{x:AT}:As (IV x) λr=>r=true↔ ∀i,FA (x.2.2 i)/\(x.2.1=0->(x.2.2 i).1=false):=by
 unfold IV;exact x!
def aq{x:AT}:As (LG x) λr=>r=true↔Ex x:=by
 unfold LG Ex
 exact x!
def No{x:AT}:As (CW x) λr=>r=0->Ex x:=by
 unfold CW Ex
 exact x!
def lY(f:BA):Prop:=Ex f.1/\(f.2.1=true->1<=f.2.2.1/\f.2.2.1<=f.1.2.1)/\(f.2.1=false->f.2.2.1=0)
def J8(l:List BA)(n:Int):Prop:=(∀(i:Nat) (f:BA),i<n->l[i]? =some f->lY f)/\ ∀(i j:Nat) (f g:BA),i<j->j<n->l[i]? =some f->l[j]? =some g->f.1.1≠g.1.1
def O4(x:Br):Prop:=1<=x.1/\x.1<=64/\x.2.1.length<=x.1/\0<=x.2.2/\(x.2.1.length=0/\x.2.2=0\/x.2.2<x.2.1.length)/\J8 x.2.1 x.2.1.length
theorem J8.step{l:List BA}{n:Int}{f:BA}(e:0<=n)(h:J8 l n)(o:l[n.toNat]? =some f)(r:lY f)(m: ∀(j:Nat) (g:BA),j<n->l[j]? =some g->g.1.1≠f.1.1):J8 l (n+1):=by
 refine⟨λi g p b=>?_,λi j g k c q b d=>?_⟩;rcases gp i n with a|a;exact h.1 i g a b;grind;rcases gp j n with a|a;exact h.2 i j g k c a b d;have:j=n.toNat:=o!
 grind
theorem mS{l:List BA}{n:Int}{f:BA}(c:0<=n)(d:n<l.length)(a:l[n.toNat]? =some f)(b: ¬lY f): ¬J8 l l.length:=λh=>b (h.1 n.toNat f o! a)
theorem mT{l:List BA}{n:Int}{f:BA}(e:0<=n)(i:n<l.length)(d:l[n.toNat]? =some f)(c: ∃(j:Nat) (g:BA),j<n/\l[j]? =some g/\g.1.1=f.1.1): ¬J8 l l.length:=λh=>by have⟨j,g,k,a,b⟩:=c;exact h.2 j n.toNat g f o! o! a d b
def Hq{x:Br}{a:Int}{b:BA}{s:Int}(h:0<=s/\s<=a/\a<=x.2.1.length/\(x.2.1.length:Int)<=16777216/\ ∀(j:Nat) (g:BA),j<s->x.2.1[j]? =some g->g.1.1≠b.1.1):As (Aj (Fh x a b) s) λr=>(r= .inl false/\ ∃(j:Nat) (g:BA),j<a/\x.2.1[j]? =some g/\g.1.1=b.1.1)\/(r= .inr ()/\ ∀(j:Nat) (g:BA),j<a->x.2.1[j]? =some g->g.1.1≠b.1.1):=by
 refine AV (λ(s:Int)=>0<=s/\s<=a/\a<=x.2.1.length/\(x.2.1.length:Int)<=16777216/\ ∀(j:Nat) (g:BA),j<s->x.2.1[j]? =some g->g.1.1≠b.1.1) (λ(s:Int)=>(a-s).toNat) h (λs d=>?_);unfold Fh;exact x!
def W9{x:Br}{s:Int}(h:0<=s/\s<=x.2.1.length/\(x.2.1.length:Int)<=16777216/\J8 x.2.1 s):As (Aj (Mz x) s) λr=>(r= .inl false/\ ¬J8 x.2.1 x.2.1.length)\/(r= .inr ()/\J8 x.2.1 x.2.1.length):=by
 refine AV (λ(s:Int)=>0<=s/\s<=x.2.1.length/\(x.2.1.length:Int)<=16777216/\J8 x.2.1 s) (λ(s:Int)=>((x.2.1.length:Int)-s).toNat) h (λs d=>?_);unfold Mz;repeat' with_reducible first|intro a|apply AC|apply AP|apply AM|apply AL|(apply BK;try dsimp only)|(apply A4;try dsimp only)|(apply A6<;>(intro u c;try subst c))|apply AB|(apply AA (aq);intro r hr)|(refine AO ?_ (Hq ?_);intro r hr)|(refine AO ?_ (Hq ?_);intro r hr)|(refine AO ?_ (Hq ?_);intro r hr)|(refine AO ?_ (Hq ?_);intro r hr)|(refine AO ?_ (AI ?_ ?_);rintro r ⟨hr,f⟩)
 all_goals try (have e:=Aa (x:=s+1))
 all_goals first|omega|(exact⟨o!,o!,o!,o!,λj g b=>absurd b o!⟩)|grind[J8.step,mS,mT,lY]
def J8.zero(l:List BA):J8 l 0:=⟨λi f h=>absurd h o!,λi j f g h a=>absurd a o!⟩
def AFu(n h:Int)(a:0<=n)(b:n<=64):(h>if wi (n-1)>0 then wi (n-1)else 0)↔ ¬(n=0/\h<=0\/h<n):=by grind[Aa]
def EF{x:Br}:As (DW x) λr=>r=true↔O4 x:=by
 unfold DW O4
 repeat' first
   |with_reducible apply AC<;>intro b
   |(with_reducible apply A6<;>(intro u a;try subst a))
   |with_reducible apply AB
   |(with_reducible refine AO ?_ (W9 ?_);intro r hr)
 all_goals try dsimp[len]at*
 all_goals first
  |(exact⟨o!,o!,o!,J8.zero _⟩)
  |(have c:=AFu (x.2.1.length) x.2.2 o! o!;grind)
  |grind
def Nv{x:Ar}:As (Gs x) λr=>True:=by
 unfold Gs;exact x!
def Tm{x:Ar×Ar}:As (FG x) λr=>True:=by
 unfold FG;exact x!
def GD{x:Ar×Ar}:As (D3 x) λr=>True:=by
 unfold D3;exact x!
def Xv{x:A5×Int×Cs}{s:Int}(h:0<=s/\s<=x.1.1.length/\(x.1.1.length:Int)<=16777216):As (Aj (Ny x) s) λr=>True:=by
 refine AV (λ(s:Int)=>0<=s/\s<=x.1.1.length/\(x.1.1.length:Int)<=16777216) (λ(s:Int)=>((x.1.1.length:Int)-s).toNat) h (λs b=>?_);unfold Ny;exact x!
def Hp{x:A5×Int×Cs}(h:x.1.1.length<=16777216):As (D4 x) λr=>True:=by
 unfold D4;exact x!
def F9(x:A5):Prop:=x.1.length<=16777216/\x.2.length<=16777216
def QC{x:A5}{a:Int}{s:Int}(h:s<a/\ -1<=s/\0<=a/\a<x.1.length/\x.1.length<=16777216):As (Aj (I2 x a) s) λr=>r≠ .inl true:=by
 refine AV (λ(s:Int)=>s<a/\ -1<=s/\0<=a/\a<x.1.length/\x.1.length<=16777216) (λ(s:Int)=>(s+1).toNat) h (λs c=>?_);unfold I2;exact x!
def W5{x:A5}{s:Int}(h:0<=s/\s<=x.1.length/\(x.1.length:Int)<=16777216):As (Aj (Mv x) s) λr=>r≠ .inl true:=by
 refine AV (λ(s:Int)=>0<=s/\s<=x.1.length/\(x.1.length:Int)<=16777216) (λ(s:Int)=>((x.1.length:Int)-s).toNat) h (λs c=>?_);unfold Mv;repeat' with_reducible first|intro a|apply AC|apply AP|apply AL|(apply BK;try dsimp only)|(apply A4;try dsimp only)|(apply A6<;>(intro u b;try subst b))|apply AB|(apply AA (Nv);intro r hr)|(apply AA (Tm);intro r hr)|(refine AO ?_ (QC ?_);intro r hr)|(refine AO ?_ (QC ?_);intro r hr)|(refine AO ?_ (AI ?_ ?_);rintro r ⟨hr,d⟩)
 all_goals ((try dsimp[len]at*);(try first|omega|assumption|grind[Aa]|((try simp (disch:=omega) only[Aa,len]at*)<;>(try intros)<;>(try and_intros)<;>(try intros)<;>(first|omega|assumption|grind))))
def W7{x:A5}{a:Int}{b:Ar}{s:Int}(h:0<=s/\s<=a/\(a:Int)<=16777216/\a<=x.2.length):As (Aj (Mx x a b) s) λr=>r≠ .inl true:=by
 refine AV (λ(s:Int)=>0<=s/\s<=a/\(a:Int)<=16777216/\a<=x.2.length) (λ(s:Int)=>((a:Int)-s).toNat) h (λs d=>?_);unfold Mx;exact x!
def W6{x:A5}{s:Int}(h:0<=s/\s<=x.2.length/\(x.2.length:Int)<=16777216/\x.1.length<=16777216):As (Aj (Mw x) s) λr=>r≠ .inl true:=by
 refine AV (λ(s:Int)=>0<=s/\s<=x.2.length/\(x.2.length:Int)<=16777216/\x.1.length<=16777216) (λ(s:Int)=>((x.2.length:Int)-s).toNat) h (λs c=>?_);unfold Mw;exact x!
def YW(x:A5):Prop:=x.1.length+x.2.length<=1024
def E4{x:A5}(h:F9 x):As (Dp x) λr=>r=true->YW x:=by
 unfold Dp YW;unfold F9 at h
 exact x!
def VTx(x:Al):Prop:=x.2.2.2.2.1.length<=4096/\x.2.2.2.2.2.length<=8/\1<=x.1
def Xc(x:List Al):Prop:=x.length<=64/\ ∀(i:Nat) (t:Al),x[i]? =some t->VTx t
def QD{x:Al}{s:Int}(h:0<=s/\s<=x.2.2.2.2.1.length/\(x.2.2.2.2.1.length:Int)<=16777216):As (Aj (I6 x) s) λr=>r≠ .inl true:=by
 refine AV (λ(s:Int)=>0<=s/\s<=x.2.2.2.2.1.length/\(x.2.2.2.2.1.length:Int)<=16777216) (λ(s:Int)=>((x.2.2.2.2.1.length:Int)-s).toNat) h (λs b=>?_);unfold I6;repeat' with_reducible first|intro a|apply AC|apply AL|apply AB|(refine AO ?_ (AI ?_ ?_);rintro r ⟨hr,c⟩)
 all_goals ((try dsimp[len]at*);(try first|omega|assumption|grind[Aa]|((try simp (disch:=omega) only[Aa,len]at*)<;>(try intros)<;>(try and_intros)<;>(try intros)<;>(first|omega|assumption|grind))))
def QE{x:Al}{s:Int}(h:0<=s/\s<=x.2.2.2.2.2.length/\(x.2.2.2.2.2.length:Int)<=16777216):As (Aj (I7 x) s) λr=>r≠ .inl true:=by
 refine AV (λ(s:Int)=>0<=s/\s<=x.2.2.2.2.2.length/\(x.2.2.2.2.2.length:Int)<=16777216) (λ(s:Int)=>((x.2.2.2.2.2.length:Int)-s).toNat) h (λs b=>?_);unfold I7;repeat' with_reducible first|intro a|apply AC|apply AL|apply AB|(refine AO ?_ (AI ?_ ?_);rintro r ⟨hr,c⟩)
 all_goals ((try dsimp[len]at*);(try first|omega|assumption|grind[Aa]|((try simp (disch:=omega) only[Aa,len]at*)<;>(try intros)<;>(try and_intros)<;>(try intros)<;>(first|omega|assumption|grind))))
def bF{x:Al}:As (LU x) λr=>r=true->VTx x:=by
 unfold LU VTx
 exact x!
def XC{x:List Al}{s:Int}(h:0<=s/\s<=x.length/\(x.length:Int)<=16777216/\ ∀(i:Nat) (t:Al),i<s->x[i]? =some t->VTx t):As (Aj (M1 x) s) λr=>r= .inl false\/(r= .inr ()/\ ∀(i:Nat) (t:Al),x[i]? =some t->VTx t):=by
 refine AV (λ(s:Int)=>0<=s/\s<=x.length/\(x.length:Int)<=16777216/\ ∀(i:Nat) (t:Al),i<s->x[i]? =some t->VTx t) (λ(s:Int)=>((x.length:Int)-s).toNat) h (λs b=>?_);unfold M1;repeat' with_reducible first|intro a|apply AC|apply AP|apply AL|apply AB|(apply AA (bF);intro r hr)|(refine AO ?_ (AI ?_ ?_);rintro r ⟨hr,c⟩)
 all_goals ((try dsimp[len]at*);(try first|omega|assumption|grind[Aa]|((try simp (disch:=omega) only[Aa,len]at*)<;>(try intros)<;>(try and_intros)<;>(try intros)<;>(first|omega|assumption|grind))))
def Do{x:List Al}:As (Dr x) λr=>r=true->Xc x:=by
 unfold Dr Xc
 exact x!
def jO(x:Bq):Prop:=1<=x.length/\x.length<=64
def fF{x:Int}:As (Gg x) λr=>True:=by
 unfold Gg;exact x!
def XA{x:Bq}{s:Int}(h:0<=s/\s<=x.length/\(x.length:Int)<=16777216):As (Aj (I4 x) s) λr=>r≠ .inl true:=by
 refine AV (λ(s:Int)=>0<=s/\s<=x.length/\(x.length:Int)<=16777216) (λ(s:Int)=>((x.length:Int)-s).toNat) h (λs b=>?_);unfold I4;exact x!
def F5{x:Bq}:As (Dq x) λr=>r=true->jO x:=by
 unfold Dq jO
 exact x!
def T7{x:List Ah×Int}{s:Int}(h:0<=s/\s<=x.1.length/\(x.1.length:Int)<=16777216):As (Aj (Gl x) s) λr=>r≠ .inl true:=by
 refine AV (λ(s:Int)=>0<=s/\s<=x.1.length/\(x.1.length:Int)<=16777216) (λ(s:Int)=>((x.1.length:Int)-s).toNat) h (λs b=>?_);unfold Gl;repeat' with_reducible first|intro a|apply AC|apply AL|apply AB|(refine AO ?_ (AI ?_ ?_);rintro r ⟨hr,c⟩)
 all_goals ((try dsimp[len]at*);(try first|omega|assumption|grind[Aa]|((try simp (disch:=omega) only[Aa,len]at*)<;>(try intros)<;>(try and_intros)<;>(try intros)<;>(first|omega|assumption|grind))))
def PC{x:List Ah×Int}(h:x.1.length<=16777216):As (E6 x) λr=>True:=by
 unfold E6;exact x!
theorem C0{b:Type}{l:List b}{i:Nat}{a:b}(h:l[i]? =some a):i<l.length:=q!
def af(p:Int)(e:AE):Bool:=((e.2.1==1)||(e.2.1==2))&&(e.2.2.2.2.2.2.1.1==p)
def B0(L:List AE)(p:Int):Int:=L.foldl (λa e=>if af p e then e.1 else a) 0
theorem O2(L:List AE)(e:AE)(p:Int):B0 (L++[e]) p=if af p e then e.1 else B0 L p:=by simp[B0,WU,WV,List.foldl_nil]
def upd(x:AT)(e:AE):AT:=(x.1,(e.1,T2 x.2.2 e.2.2.2.2.2.2.1.2.1 e.2.2.2.2.2.2.1.2.2.2))
def st(L:List AE)(p:Int):AT:=(L.filter (af p)).foldl upd (p,(0,Hf.all (false,[])))
def yW(L M:List AE)(p:Int):st (L++M) p=(M.filter (af p)).foldl upd (st L p):=by unfold st;rw[Ip,WU]
theorem xW(L:List AE)(e:AE)(p:Int):st (L++[e]) p=if af p e then upd (st L p) e else st L p:=by rw[yW,Ug,gu];split<;>rfl
def zK(L:List AE)(x:AT):(L.foldl upd x).1=x.1:=by
 induction L generalizing x with
 |nil=>rfl
 |cons e L a=>exact a (upd x e)
theorem TF(L:List AE)(p:Int):(st L p).1=p:=zK _ _
def Pb(L:List AE)(p:Int):(st L p).2.1=B0 L p:=by
 suffices h: ∀(L:List AE) (x:AT),((L.filter (af p)).foldl upd x).2.1=L.foldl (λa e=>if af p e then e.1 else a) x.2.1 from h L _
 intro L;induction L with
 |nil=>exact λx=>rfl
 |cons e L b=>intro x;rw[Ug,WV];split;exact b (upd x e);exact b x
def uR(n:Int)(L:List AE)(D:List Ah)(R:List Dh):Prop:=
 ∀p,0<=p->p<n->(∀d∈D,d.1=p->d.2.2=B0 L p)/\ ∀r,R[p.toNat]? =some r->r.1<=B0 L p/\((∀d∈D,d.1≠p)->r.1=B0 L p)
def KP(n:Int)(L:List AE)(F:List BA)(D:List Ah)(R:List Dh):Prop:=
 ∀p,0<=p->p<n->(∀f∈F,f.1.1=p->f.1=st L p)/\(∀d∈D,d.1=p->d.2.2=B0 L p)/\
  ∀r,R[p.toNat]? =some r->r.1<=B0 L p/\((∀d∈D,d.1≠p)->(∀f∈F,f.1.1=p->f.2.1=false)->r.1=B0 L p)
def EOK(n:Int)(M:List AE)(e:AE):Prop:=
 (e.2.1=1\/e.2.1=2->e.2.2.2.2.1=B0 M e.2.2.2.2.2.2.1.1/\GA (st M e.2.2.2.2.2.2.1.1).2.2 e.2.2.2.2.2.2.1.2.1=some e.2.2.2.2.2.2.1.2.2.1)/\(e.2.1=7->e.2.2.2.2.2.1=B0 M e.2.2.2.2.2.2.1.1)/\
  (e.2.1=6-> ∀c,DB e.2.2.2.2.2.2.2=some (c,0)->c.1=n->uR n M c.2.2.2.1 c.2.2.2.2)
def LI(n:Int)(L:List AE):Prop:= ∀(i:Nat) (e:AE),L[i]? =some e->EOK n (L.take i) e
def LI.nil(n:Int):LI n []:=λi e h=>by simp at h
def LI.app{n:Int}{L:List AE}{e:AE}(h:LI n L)(c:EOK n L e):LI n (L++[e]):=by intro i f b;rcases P1 i L.length with a|a|a;rw[CO a]at b;rw[bj o!];exact h i f b;grind;grind[List.getElem?_eq_none]
def LI.pre{n:Int}{L T:List AE}(h:LI n (L++T)):LI n L:=by intro i f a;have:=h i f q!;grind
def FD(B:Int->Prop)(n:Int)(F:List BA)(D:List Ah):Prop:= ∀f∈F,0<=f.1.1/\f.1.1<n/\(∀d∈D,d.1≠f.1.1)/\B f.1.1
variable {B:Int->Prop}
def KI(B:Int->Prop)(k:AU):Prop:=LI k.1 k.2.2.1.2.1/\KP k.1 k.2.2.1.2.1 k.2.2.2.1.2.1 k.2.2.2.2.2.2.2 k.2.2.2.2.2.2.1/\FD B k.1 k.2.2.2.1.2.1 k.2.2.2.2.2.2.2
def FD.sub{n:Int}{F G:List BA}{D:List Ah}(h:FD B n F D)(a: ∀g∈G,∃f∈F,f.1.1=g.1.1/\f.1=g.1):FD B n G D:=by intro g c;have⟨f,b,e,_⟩:=a g c;rw[<-e];exact h f b
def km{p b:Int}: ∀(L:List AE) (a:Int),a<b->(∀e∈L,e.1<b)->L.foldl (λa e=>if af p e then e.1 else a) a<b
 |[],a,ha,_=>ha
 |e::L,a,ha,h=>by refine km L _ ?_ λf c=>h f (Cd _ c);show(if af p e=true then e.1 else a)<b;split;exact h e Jp;exact ha
def iH{l:Af}(h:Dg l)(p:Int):B0 l.2.1 p<l.1+l.2.1.length:=by have⟨a,_,_,_,_,b⟩:=h;refine km _ _ o! λe c=>?_;grind[List.getElem?_of_mem]
def KP.app{n:Int}{L:List AE}{F:List BA}{D:List Ah}{R:List Dh}{e:AE}(h:KP n L F D R)(c:e.2.1≠1/\e.2.1≠2):KP n (L++[e]) F D R:=by intro p a b;rw[(by grind[O2,af]:B0 (L++[e]) p=B0 L p),(by grind[xW,af]:st (L++[e]) p=st L p)];exact h p a b
def KP.frames{n:Int}{L:List AE}{F G:List BA}{D:List Ah}{R:List Dh}(h:KP n L F D R)
  (m: ∀g∈G,∃f∈F,f.1.1=g.1.1/\f.1=g.1) (o: ∀f∈F,f.2.1=true-> ∃g∈G,g.1.1=f.1.1/\g.2.1=true):KP n L G D R:=by
 intro p w x;obtain⟨a,b,c⟩:=h p w x;refine⟨λg v e=>?_,b,λr hr=>⟨(c r hr).1,λt u=>(c r hr).2 t λf d e=>?_⟩⟩;obtain⟨f,d,j,k⟩:=m g v;rw[<-k];exact a f d (j.trans e);cases s:f.2.1 with
 |false=>rfl
 |true=>obtain⟨g,q,l,i⟩:=o f d s;rw[u g q (l.trans e)]at i;cases i
def KP.written{n:Int}{L:List AE}{F G:List BA}{D:List Ah}{R:List Dh}{q d:Int}{w:Dh}(h:KP n L F D R)(q0:0≤q)(A:d=B0 L q)(B:q<n)
  (s: ∀g∈G,∃f∈F,f.1.1=g.1.1/\f.1=g.1) (t: ∀f∈F,f.1.1≠q->f∈G) (l:R[q.toNat]? =some w):
  KP n L G D (R.set q.toNat ((if d>w.1 then d else w.1),w.2)):=by
 intro p y z;obtain⟨a,b,c⟩:=h p y z;refine⟨λg x e=>?_,b,λr hr=>?_⟩;obtain⟨f,i,m,o⟩:=s g x;rw[<-o];exact a f i (m.trans e);by_cases k:p=q;subst k;have j:p.toNat<R.length:=by rcases Aw p.toNat R.length with h|h;exact h;rw[Cn h]at l;cases l
 rw[H8 j]at hr;have:=(c w l).1;have e:r.1=B0 L p:=by rw[<-BV hr];dsimp only;split<;>omega
 exact⟨o!,λ_ _=>e⟩;rw[Dy o!]at hr;refine⟨(c r hr).1,λu v=>(c r hr).2 u λf i e=>?_⟩;exact v f (t f i o!) e
def yV{F:List BA}{i:Nat}{f n:BA}(a:F[i]? =some f)(hn:n.1=f.1): ∀g∈F.set i n,∃f∈F,f.1.1=g.1.1/\f.1=g.1:=q!
def uJ{F:List BA}{i:Nat}{f n:BA}(c:F[i]? =some f): ∀g∈F,g.1.1≠f.1.1->g∈F.set i n:=by intro g a b;have⟨j,d⟩:=Dm a;apply BP (i:=j);grind
def KP.change{n:Int}{L:List AE}{F:List BA}{D:List Ah}{R:List Dh}{e:AE}{i:Nat}{f g:BA}(h:KP n L F D R)(G:FD B n F D)
  (t:e.2.1=1\/e.2.1=2) (u:F[i]? =some f) (I:f.1.1=e.2.2.2.2.2.2.1.1) (v:g.1=upd f.1 e) (y:g.2.1=true)
  (J: ∀j k,F[j]? =some k->k.1.1=f.1.1->j=i) (H:B0 L f.1.1<e.1):KP n (L++[e]) (F.set i g) D R:=by
 have w:i<F.length:=by rcases Aw i F.length with h|h;exact h;rw[Cn h]at u;cases u
 have A:g∈F.set i g:=BP (i:=i) (H8 w);have C:g.1.1=f.1.1:=by rw[v];rfl
 intro p K M;obtain⟨a,b,c⟩:=h p K M;have E:af p e=(f.1.1==p):=by rw[I];unfold af;rcases t with h|h<;>simp[h]
 rw[O2,xW,E];by_cases l:f.1.1=p;subst l;rw[beq_self_eq_true,if_pos rfl,if_pos rfl];refine⟨λk t m=>?_,λd o m=>absurd m ((G f (BP u)).2.2.1 d o),λr hr=>⟨by have:=(c r hr).1;omega,λ_ q=>?_⟩⟩;obtain⟨j,x⟩:=Dm t;by_cases s:j=i;subst s;rw[H8 w]at x;rw[<-BV x,v];exact congrArg (λz=>upd z e) (a f (BP u) rfl);rw[Dy (λh=>s h.symm)]at x;exact absurd (J j k x m) s;have:=q g A C;rw[y]at this;cases this;rw[if_neg (by simpa using l),if_neg (by simpa using l)];refine⟨λk t m=>?_,b,λr hr=>⟨(c r hr).1,λo q=>(c r hr).2 o λk t m=>?_⟩⟩;rcases Px t with h|h;exact a k h m;subst h;exact absurd (C.symm.trans m) l;exact q k (uJ u k t o!) m
def FD.set{n:Int}{F:List BA}{D:List Ah}{i:Nat}{f g:BA}(h:FD B n F D)(b:F[i]? =some f)(c:g.1.1=f.1.1):FD B n (F.set i g) D:=by intro k d;rcases Px d with a|a;exact h k a;subst a;rw[c];exact h f (BP b)
def KP.supply{n:Int}{L:List AE}{F:List BA}{D l:List Ah}{R:List Dh}{x:AT}{g:BA}(h:KP n L F D R)(y:x=st L x.1)
  (w: ∀f∈F,f.1.1≠x.1) (t:g.1=x) (i:(g.2.1=true/\l=D.filter λd=>d.1 !=x.1)\/(g.2.1=false/\(∀d∈D,d.1≠x.1)/\l=D)):KP n L (F++[g]) l R:=by
 intro p z A;obtain⟨a,b,c⟩:=h p z A;have v: ∀d∈l,d∈D:=by rcases i with⟨_,e⟩|⟨_,_,e⟩<;>subst e;exact λd i=>(BM.1 i).1;exact λd i=>i
 refine⟨λf j e=>?_,λd i=>b d (v d i),λr hr=>⟨(c r hr).1,λq s=>(c r hr).2 ?_ λf j=>s f (Gc _ j)⟩⟩;rcases Ao.1 j with j|j;exact a f j e;rw[BC]at j;subst j;rw[t]at e⊢;rw[<-e];exact y;intro d k e;rcases i with⟨u,o⟩|⟨_,_,o⟩<;>subst o;by_cases m:p=x.1;have:=s g k! (by rw[t,m]);rw[u]at this;cases this;exact q d (BM.2 ⟨k,w!⟩) e;exact q d k e
def FD.supply{n:Int}{F:List BA}{D b:List Ah}{p:Int}{g:BA}(h:FD B n F D)(k:0<=p)(l:p<n)(i:B p)(j:g.1.1=p)(e: ∀d∈b,d∈D)(hn: ∀d∈b,d.1≠p):FD B n (F++[g]) b:=by intro f a;rcases Ao.1 a with a|a;exact⟨(h f a).1,(h f a).2.1,λd c=>(h f a).2.2.1 d (e d c),(h f a).2.2.2⟩;grind
end Go.Pm
namespace Go.Pm
open Go Go.Ab
set_option maxHeartbeats 400000
variable {B:Int->Prop}
def SB(k:AU):Prop:=F9 k.2.2.2.2.1/\k.2.2.2.2.2.1.length<=16777216/\k.2.2.2.2.2.2.2.length<=16777216
def SK(B:Int->Prop)(k:AU):Prop:=F9 k.2.2.2.2.1/\k.2.2.2.2.2.1.length<=16777216/\k.2.2.2.2.2.2.2.length<=16777216/\KI B k
def SK.sb{k:AU}(h:SK B k):SB k:=⟨h.1,h.2.1,h.2.2.1⟩
def SK.ki{k:AU}(h:SK B k):KI B k:=h.2.2.2
def SB.sk{k:AU}(h:SB k)(g:KI B k):SK B k:=⟨h.1,h.2.1,h.2.2,g⟩
def VK(k:AU):Prop:=1<=k.1/\k.1<=64/\Dg k.2.2.1/\O4 k.2.2.2.1/\YW k.2.2.2.2.1/\Xc k.2.2.2.2.2.1/\jO k.2.2.2.2.2.2.1/\k.2.2.2.2.2.2.1.length=k.1
def bK{x:AU}(h:SB x):As (LZ x) λr=>r=true->VK x:=by
 unfold LZ VK;unfold SB at h
 exact x!
def XD{x:AU×Int}{s:Int×Ah}(h:0<=s.1/\s.1<=x.1.2.2.2.2.2.2.2.length/\x.1.2.2.2.2.2.2.2.length<=16777216/\ ∀(i:Nat) (d:Ah),i<s.1->x.1.2.2.2.2.2.2.2[i]? =some d->d.1≠x.2):As (Aj (M3 x) s) λr=>(∃d∈x.1.2.2.2.2.2.2.2,r= .inl (true,d)/\d.1=x.2)\/ ∃z,r= .inr z/\ ∀d∈x.1.2.2.2.2.2.2.2,d.1≠x.2:=by
 refine AV (λ(s:Int×Ah)=>0<=s.1/\s.1<=x.1.2.2.2.2.2.2.2.length/\x.1.2.2.2.2.2.2.2.length<=16777216/\ ∀(i:Nat) (d:Ah),i<s.1->x.1.2.2.2.2.2.2.2[i]? =some d->d.1≠x.2) (λ(s:Int×Ah)=>((x.1.2.2.2.2.2.2.2.length:Int)-s.1).toNat) h (λs j=>?_);have⟨c,m,f,g⟩:=j;unfold M3;refine AC (λa=>?_) (λa=>AB (.inr ⟨_,rfl,λd b=>?_⟩));simp[len]at a;refine AA (AI c a) λv o=>?_;apply AQ<;>intro n;grind[AA,AI,AB,Option.some.inj];have e:=Aa (x:=s.1+1);refine AB ⟨⟨d!,d!,f,λi d k b=>?_⟩,d!⟩;dsimp only at k;by_cases l:(i:Int)<s.1;exact g i d l b;have:i=s.1.toNat:=o!
 grind[Option.some.inj];grind[List.getElem?_of_mem,Nat.lt_or_ge,List.getElem?_eq_none]
def Jd{x:AU×Int}(h:SB x.1):As (Ej x) λr=>(r.2=true->r.1∈x.1.2.2.2.2.2.2.2/\r.1.1=x.2)/\(r.2=false-> ∀d∈x.1.2.2.2.2.2.2.2,d.1≠x.2):=by unfold Ej;refine AA (XD ⟨o!,d!,h.2.2,λi d a=>absurd a d!⟩) λv b=>?_;grind[BK,AB,A4]
def XE{x:AU}{s:Int}(h:0<=s/\s<=x.2.2.2.2.2.1.length/\(x.2.2.2.2.2.1.length:Int)<=16777216):As (Aj (M4 x) s) λr=>r≠ .inl true:=by
 refine AV (λ(s:Int)=>0<=s/\s<=x.2.2.2.2.2.1.length/\(x.2.2.2.2.2.1.length:Int)<=16777216) (λ(s:Int)=>((x.2.2.2.2.2.1.length:Int)-s).toNat) h (λs b=>?_);unfold M4;exact x!
def XF{x:AU}{s:Int}(h:0<=s/\s<=x.2.2.2.1.2.1.length/\(x.2.2.2.1.2.1.length:Int)<=16777216/\SB x):As (Aj (M5 x) s) λr=>r≠ .inl true:=by
 refine AV (λ(s:Int)=>0<=s/\s<=x.2.2.2.1.2.1.length/\(x.2.2.2.1.2.1.length:Int)<=16777216/\SB x) (λ(s:Int)=>((x.2.2.2.1.2.1.length:Int)-s).toNat) h (λs b=>?_);unfold M5;exact x!
def XG{x:AU}{s:Int}(h:0<=s/\s<=x.2.2.2.2.1.1.length/\(x.2.2.2.2.1.1.length:Int)<=16777216):As (Aj (M6 x) s) λr=>r≠ .inl true:=by
 refine AV (λ(s:Int)=>0<=s/\s<=x.2.2.2.2.1.1.length/\(x.2.2.2.2.1.1.length:Int)<=16777216) (λ(s:Int)=>((x.2.2.2.2.1.1.length:Int)-s).toNat) h (λs b=>?_);unfold M6;exact x!
def XH{x:AU}{s:Int}(h:0<=s/\s<=x.2.2.2.2.1.2.length/\(x.2.2.2.2.1.2.length:Int)<=16777216):As (Aj (M7 x) s) λr=>r≠ .inl true:=by
 refine AV (λ(s:Int)=>0<=s/\s<=x.2.2.2.2.1.2.length/\(x.2.2.2.2.1.2.length:Int)<=16777216) (λ(s:Int)=>((x.2.2.2.2.1.2.length:Int)-s).toNat) h (λs b=>?_);unfold M7;exact x!
def B9{x:AU}(h:SB x):As (Bg x) λr=>r=true->VK x:=by
 unfold Bg;repeat' with_reducible first|intro a|apply AP|apply AL|(apply BK;try dsimp only)|(apply A4;try dsimp only)|(apply A6<;>(intro u b;try subst b))|apply AB|(refine AO ?_ (bK ?_);intro r hr)|(refine AO ?_ (XE ?_);intro r hr)|(refine AO ?_ (XF ?_);intro r hr)|(refine AO ?_ (XG ?_);intro r hr)|(refine AO ?_ (XH ?_);intro r hr)
 all_goals ((try dsimp[len]at*);(try first|omega|assumption|grind[SB,VK,F9,O4]))
def Xz{x:List Al×Int}{s:Int}(h:0<=s/\s<=x.1.length/\(x.1.length:Int)<=16777216):As (Aj (Jb x) s) λr=> ∀u,r= .inl u->0<=u/\u<x.1.length/\ ∃t,x.1[u.toNat]? =some t/\t.1=x.2:=by
 refine AV (λ(s:Int)=>0<=s/\s<=x.1.length/\(x.1.length:Int)<=16777216) (λ(s:Int)=>((x.1.length:Int)-s).toNat) h (λs b=>?_);unfold Jb;exact x!
def Ht{x:List Al×Int}(h:x.1.length<=16777216):As (EU x) λr=> -1<=r/\r<x.1.length/\(0<=r-> ∃t,x.1[r.toNat]? =some t/\t.1=x.2):=by
 unfold EU;exact x!
def FW{x:List Al×Int}(h:x.1.length<=16777216):As (CV x) λr=> -1<=r/\r<x.1.length/\(0<=r-> ∃t,x.1[r.toNat]? =some t/\t.1=x.2):=by
 unfold CV;exact x!
def j9(p:Br)(id:Int):Prop:= ∃(i:Nat) (f:BA),p.2.1[i]? =some f/\f.1.1=id
def Xy{x:Br×Int}{s:Int}(h:0<=s/\s<=x.1.2.1.length/\(x.1.2.1.length:Int)<=16777216/\ ∀(i:Nat) (f:BA),i<s->x.1.2.1[i]? =some f->f.1.1≠x.2):As (Aj (Nz x) s) λr=>(∃u,r= .inl u/\0<=u/\u<x.1.2.1.length/\ ∃f,x.1.2.1[u.toNat]? =some f/\f.1.1=x.2)\/(r= .inr ()/\ ¬j9 x.1 x.2):=by
 refine AV (λ(s:Int)=>0<=s/\s<=x.1.2.1.length/\(x.1.2.1.length:Int)<=16777216/\ ∀(i:Nat) (f:BA),i<s->x.1.2.1[i]? =some f->f.1.1≠x.2) (λ(s:Int)=>((x.1.2.1.length:Int)-s).toNat) h (λs b=>?_);unfold Nz;repeat' with_reducible first|intro a|apply AC|apply AQ|apply AL|apply AB|(refine AO ?_ (AI ?_ ?_);rintro r ⟨hr,c⟩)
 all_goals try (have e:=Aa (x:=s+1))
 all_goals first|omega|grind[j9]
def GV{x:Br×Int}(h:x.1.2.1.length<=16777216):As (FH x) λr=> -1<=r/\r<x.1.2.1.length/\(0<=r-> ∃f,x.1.2.1[r.toNat]? =some f/\f.1.1=x.2)/\(r<0-> ¬j9 x.1 x.2):=by refine AA (Xy (by refine⟨o!,o!,o!,λi f a=>absurd a o!⟩)) λs b=>?_;grind[BK,AB,A4]
def FV{x:Br×Int}:As (D5 x) λr=> -1<=r/\r<x.1.2.1.length/\(0<=r->O4 x.1/\ ∃f,x.1.2.1[r.toNat]? =some f/\f.1.1=x.2)/\(O4 x.1->j9 x.1 x.2->0<=r):=by
 unfold D5;repeat' with_reducible first|intro b|apply AP|apply AL|apply AB|(apply AA (EF);intro r hr)|(refine AO ?_ (GV ?_);intro r hr)
 all_goals first|omega|(have a:O4 x.1:=q!;have:=a.1;have:=a.2.1;have:=a.2.2.1;omega)|grind
def IZ{x:Br×Int}:As (Fk x) λr=>(r.2=true->O4 x.1/\Ex r.1/\j9 x.1 x.2/\r.1.1=x.2/\ ∃f∈x.1.2.1,f.1=r.1)/\(r.2=false->O4 x.1-> ¬j9 x.1 x.2):=by
 unfold Fk;repeat' with_reducible first|intro a|apply AC|apply AL|apply AB|(apply AA (FV);intro r hr)|(refine AO ?_ (AI ?_ ?_);rintro r ⟨hr,b⟩)
 all_goals first|omega|(simp;grind)|grind[O4,J8,lY,j9]
theorem Dg.last{x:Af}(h:Dg x):wi (wi (x.1+len x.2.1)-1)=x.1+x.2.1.length-1:=by have⟨a,b,c,d,e,f⟩:=h;grind[Aa]
def Dg.at{x:Af}{n:Int}{e:AE}(h:Dg x)(a:x.1<=n)(b:n<=x.1+x.2.1.length-1)(c:x.2.1[(wi (n-x.1)).toNat]? =some e):Io e/\e.1=n:=by have⟨a1,a2,a3,a4,a5,a6⟩:=h;grind[Aa]
theorem Dg.append{x:Af}{e:AE}{l:List AE}(h:Dg x)(b:x.2.1.length≠4096)(d:Io e)(c:e.1=x.1+x.2.1.length)(a:l=x.2.1++[e]):Dg (x.1,l,x.2.2):=by have⟨a1,a2,a3,a4,a5,a6⟩:=h;subst a;refine⟨a1,a2,w!,a4,w!,λi f g=>?_⟩;grind[Nat.lt_or_ge,List.getElem?_append_right,List.getElem?_eq_none]
def Dg.force{x:Af}{n:Int}(h:Dg x)(a:n<=x.1+x.2.1.length-1):Dg (x.1,x.2.1,if n>x.2.2 then n else x.2.2):=by have⟨a1,a2,a3,a4,a5,a6⟩:=h;refine⟨a1,a2,a3,?_,?_,a6⟩<;>(dsimp only;split<;>omega)
def FT{x:Af}:As (ER x) λr=>Dg x->r=x.1+x.2.1.length-1:=by
 unfold ER;repeat' with_reducible first|intro a|apply AP|apply AL|apply AB|(apply AA (BS);intro r hr)|(apply AA (ES);intro r hr)
 all_goals ((try dsimp[len]at*);(try first|omega|assumption|grind[Dg.last]))
def JZ{x:Af×Int}:As (D9 x) λr=>(r.2=0->Dg r.1/\r.1.2.1=x.1.2.1/\r.1.1=x.1.1/\x.1.2.2<=r.1.2.2/\x.2<=r.1.2.2):=by
 unfold D9;repeat' with_reducible first|apply AC<;>intro a|apply AP<;>intro a|apply AL<;>intro a|apply AB|(apply AA (BS);intro r hr)|(apply AA (ES);intro r hr)
 all_goals try (intro _;have b:Dg x.1:=q!
                have c:=b.last;exact⟨b.force o!,rfl,rfl,by dsimp only;split<;>omega,by dsimp only;split<;>omega⟩)
 all_goals exact l!
theorem Gr{x:Af×Int}:As (Es x) λr=>(r.2=0->Io r.1/\r.1.1=x.2/\x.1.2.1[(x.2-x.1.1).toNat]? =some r.1/\x.1.1<=x.2)/\(Dg x.1->x.1.1<=x.2->x.2<=x.1.1+x.1.2.1.length-1->r.2=0):=by
 unfold Es;repeat' with_reducible first|intro c|apply AC|apply AP|apply AL|apply AB|(apply AA (BS);intro r hr)|(apply AA (ES);intro r hr)|(refine AO ?_ (AI ?_ ?_);rintro r ⟨hr,f⟩)
 all_goals try (have a:Dg x.1:=q!)
 all_goals try (have e:=a.last;have:=a.1;have:=a.2.1;have:=a.2.2.1)
 all_goals try (have d:wi (x.2-x.1.1)=x.2-x.1.1:=Aa)
 all_goals try (have b:=a.at (n:=x.2) o! o! hr;rw[d]at hr;exact⟨λ_=>⟨b.1,b.2,hr,o!⟩,λ_ _ _=>rfl⟩)
 all_goals exact l!
def ZH{x:Af×AE}:As (KG x) λr=>(r.2.2=0->Dg r.1/\Dg x.1/\r.1.2.1=x.1.2.1++[(r.2.1,x.2.2)]/\r.1.1=x.1.1/\r.2.1=x.1.1+x.1.2.1.length/\r.1.2.2=x.1.2.2):=by
 unfold KG;repeat' with_reducible first|intro b|apply AP|apply AQ|apply AL|apply AB|(apply AA (BS);intro r hr)|(apply AA (ES);intro r hr)|(apply AA (CL);intro r hr)|(refine AO ?_ (Ac ?_);rintro r ⟨hr,c,d⟩)
 all_goals try (have a:Dg x.1:=q!)
 all_goals try (have c:=a.last;have:=a.1;have:=a.2.1;have:=a.2.2.1)
 all_goals ((try dsimp[len]at*);(try first|omega|assumption|grind[Aa,Dg.append]))
def Bz{x:AE}:As (BF x) λr=>r=true↔x.2.1=1\/x.2.1=2:=by
 unfold BF;exact x!
end Go.Pm
namespace Go.Pm
open Go Go.Ab
set_option maxHeartbeats 400000
def oP(n:Int):0<=IntKind.wrap .u64 n:=by rw[XY];omega
theorem L9(l:List Int):(Ei l).length=l.length:=by simp[Ei]
def Y9{x:BY×Int×Int}{s:BY×Int}(h:0<=s.2/\s.2<=x.2.2/\x.2.2<=8/\(s.1.length:Int)=x.1.length+s.2/\x.1.length<=1099511627776):As (Aj (GR x) s) λr=>(r.length:Int)=x.1.length+x.2.2:=by
 refine AV (λ(s:BY×Int)=>0<=s.2/\s.2<=x.2.2/\x.2.2<=8/\(s.1.length:Int)=x.1.length+s.2/\x.1.length<=1099511627776) (λ(s:BY×Int)=>(x.2.2-s.2).toNat) h (λs b=>?_);unfold GR;repeat' with_reducible first|intro a|apply AC|apply AL|apply AB|apply Y7|(refine AO ?_ (CA ?_);rintro r ⟨hr,c⟩)
 all_goals try (have d:=oP (wi (8*s.2));omega)
 all_goals ((try dsimp[len]at*);(try first|omega|assumption|grind[Aa,L9]))
def DU{x:BY×Int×Int}(h:x.1.length<=1099511627776):As (Ak x) λr=>(1<=x.2.2->x.2.2<=8->(r.length:Int)=x.1.length+x.2.2)/\r.length<=x.1.length+8:=by
 unfold Ak;exact x!
def yP{n:Int}(h:n<=4):(2:Int)^(8*n.toNat)<=4294967296:=by
 have:n.toNat=0\/n.toNat=1\/n.toNat=2\/n.toNat=3\/n.toNat=4:=o!
 rcases this with h|h|h|h|h<;>rw[h]<;>decide
def ADN{n:Int}(h:n<=2):(2:Int)^(8*n.toNat)<=65536:=by
 have:n.toNat=0\/n.toNat=1\/n.toNat=2:=o!
 rcases this with h|h|h<;>rw[h]<;>decide
def ABT{a b:Int}{k:Nat}(e:0<=a)(c:a<2^k)(f:0<=b)(d:b<2^k)(g:k<=64):(0:Int)<=((BitVec.toNat (BitVec.ofInt 64 a|||BitVec.ofInt 64 b):Nat):Int)/\((BitVec.toNat (BitVec.ofInt 64 a|||BitVec.ofInt 64 b):Nat):Int)<2^k:=by
 refine⟨o!,?_⟩;obtain⟨n,rfl⟩:=EM e;obtain⟨m,rfl⟩:=EM f;have hn:n<2^k:=by exact_mod_cast c
 have h:m<2^k:=by exact_mod_cast d
 have i:2^k<=2^64:=bn g! g;rw[BitVec.toNat_or];simp[Zp,Zq];rw[R9 o!,R9 o!];exact_mod_cast Nat.or_lt_two_pow hn h
def vB{a v i:Int}(d:0≤i)(e:i<8)(c:0≤a)(b:a<2^(8*i.toNat))(g:0≤v)(h:v<256):
  0<=IntKind.wrap .u64 (((BitVec.toNat ((BitVec.ofInt 64 a)|||(BitVec.ofInt 64 (IntKind.wrap .u64 ((IntKind.wrap .u64 v)*(2^(min (Int.toNat (IntKind.wrap .u64 (wi (8*i)))) 64))))))):Nat):Int)/\
  IntKind.wrap .u64 (((BitVec.toNat ((BitVec.ofInt 64 a)|||(BitVec.ofInt 64 (IntKind.wrap .u64 ((IntKind.wrap .u64 v)*(2^(min (Int.toNat (IntKind.wrap .u64 (wi (8*i)))) 64))))))):Nat):Int)<2^(8*(wi (i+1)).toNat):=by
 rw[(Aa),(Aa),(by rw[XY];omega:IntKind.wrap .u64 (8*i)=8*i),(by rw[XY];omega:IntKind.wrap .u64 v=v)];obtain⟨n,rfl⟩:=EM d;obtain⟨m,rfl⟩:=EM g;rw[(by omega:min (8*(n:Int)).toNat 64=8*n)];rw[(by omega:((n:Int)+1).toNat=n+1)];rw[(by omega:((n:Int)).toNat=n)]at b;have f:(m:Int)*2^(8*n)<2^(8*(n+1)):=by
  have:(m*2^(8*n):Nat)<2^(8*(n+1)):=by rw[(by grind[Nat.mul_add,Nat.pow_add]:2^(8*(n+1))=256*2^(8*n))];exact Nat.mul_lt_mul_of_pos_right o! (Nat.pow_pos g!)
  exact_mod_cast this
 have l:(2:Int)^(8*(n+1))<=2^64:=by have:(2^(8*(n+1)):Nat)<=2^64:=bn g! o!;exact_mod_cast this
 have j:(0:Int)<=(m:Int)*2^(8*n):=by
  have:(0:Int)<=((m*2^(8*n):Nat):Int):=o!
  exact_mod_cast this
 rw[(by rw[XY];omega:IntKind.wrap .u64 ((m:Int)*2^(8*n))=(m:Int)*2^(8*n))];have⟨q1,q2⟩:=ABT (k:=8*(n+1)) c (by grind[Nat.pow_le_pow_right]) j f o!;grind[BitVec.toNat,XY]
def Y8{x:BY×Int×Int}{s:Int×Int}(h:0<=s.2/\s.2<=x.2.2/\x.2.2<=8/\0<=x.2.1/\x.2.1+x.2.2<=x.1.length/\x.1.length<=1099511627776/\0<=s.1/\s.1<2^(8*s.2.toNat)):As (Aj (GQ x) s) λr=>0<=r/\r<2^(8*x.2.2.toNat):=by
 refine AV (λ(s:Int×Int)=>0<=s.2/\s.2<=x.2.2/\x.2.2<=8/\0<=x.2.1/\x.2.1+x.2.2<=x.1.length/\x.1.length<=1099511627776/\0<=s.1/\s.1<2^(8*s.2.toNat)) (λ(s:Int×Int)=>(x.2.2-s.2).toNat) h (λs n=>?_);unfold GQ;have⟨d,q,f,g,j,k,l,m⟩:=n;repeat' with_reducible first|intro o|apply AC|apply AL|apply AB|apply Y7|(refine AO ?_ (Qd ?_ ?_);rintro r ⟨hr,p⟩)
 all_goals try (have t:=oP (wi (8*s.2));omega)
 all_goals (first|(have⟨b,c⟩:=vB (a:=s.1) (v:=r) (i:=s.2) d o! l m hr p;have e:=Aa (x:=s.2+1);exact⟨⟨o!,o!,f,g,j,k,b,c⟩,d!⟩)|skip)
 all_goals exact l!
def Cj{x:BY×Int×Int}(h:x.1.length<=1099511627776):As (Ay x) λr=>r.2=0->0<=x.2.1/\x.2.1+x.2.2<=x.1.length/\(x.2.2<=4->0<=r.1/\r.1<4294967296)/\(x.2.2<=2->r.1<65536):=by
 unfold Ay;repeat' with_reducible first|apply AC<;>intro c|apply AL<;>intro c|apply AB|(refine AO ?_ (Y8 ?_);intro r hr)
 all_goals dsimp[len]at*
 all_goals first
  |omega
  |(intro d;exact absurd d g!)
  |(have e:=Aa (x:=(x.1.length:Int)-x.2.1);exact⟨o!,o!,o!,o!,o!,h,o!,k!⟩)
  |(intro _;have e:=Aa (x:=(x.1.length:Int)-x.2.1);refine⟨o!,o!,λb=>?_,λa=>?_⟩;(have:=yP b;rw[Aa];omega);(have:=ADN a;rw[Aa];omega))
def ZB  {s:Int×Int}(h:0<=s.2/\s.2<=8):As (Aj (Ho) s) λr=>True:=by
 refine AV (λ(s:Int×Int)=>0<=s.2/\s.2<=8) (λ(s:Int×Int)=>(8-s.2).toNat) h (λs b=>?_);unfold Ho;exact x!
def ZA{x:BY}{s:Int×Int}(h:0<=s.2/\s.2<=x.length/\x.length<=1099511627776):As (Aj (Hn x) s) λr=>True:=by
 refine AV (λ(s:Int×Int)=>0<=s.2/\s.2<=x.length/\x.length<=1099511627776) (λ(s:Int×Int)=>((x.length:Int)-s.2).toNat) h (λs b=>?_);unfold Hn;exact x!
def PS{x:BY}(h:x.length<=1099511627776):As (Er x) λr=>True:=by
 unfold Er;exact x!
theorem Sq{x:BY}:As (DT x) λr=>r.length<=8408:=by
 unfold DT;repeat' with_reducible first|intro a|apply AC|apply AL|apply AB|(refine AO ?_ (DU ?_);intro r hr)|(refine AO ?_ (PS ?_);intro r hr)|(refine AO ?_ (CA ?_);rintro r ⟨hr,b⟩)
 all_goals dsimp[len]at*
 all_goals exact l!
theorem Qr{x:BY×Int}(h:x.1.length<=1099511627776):As (BZ x) λr=>r.2.2=0->r.1.length<=8392/\x.2+8+r.1.length=r.2.1/\0<=x.2/\r.2.1<=x.1.length:=by
 unfold BZ;repeat' with_reducible first|intro a|apply AC|apply AM|apply AL|apply AB|(refine AO ?_ (Cj ?_);intro r hr)|(refine AO ?_ (PS ?_);intro r hr)|(refine AO ?_ (CQ ?_ ?_ ?_);rintro r ⟨hr,b⟩)
 all_goals dsimp[len]at*
 all_goals exact l!
def dJ{x:BY×Cc}(h:x.1.length<=1099511627776)(b:x.2.2.length<=16777216):As (GC x) λr=>r.length<=x.1.length+8+x.2.2.length:=by
 unfold GC;exact x!
def UA.lens{x:AE}(h:UA x):x.2.2.2.2.2.2.1.2.2.1.2.length<=12/\x.2.2.2.2.2.2.1.2.2.2.2.length<=12/\x.2.2.2.2.2.2.2.length<=8192:=by grind[UA,OQ,FA,Pd]
theorem ZF{x:AE}:As (FQ x) λr=>r.1.length<=8400:=by
 unfold FQ;repeat' with_reducible first|intro a|apply AP|apply AL|apply AB|(apply AA (CL);intro r hr)|(refine AO ?_ (DU ?_);intro r hr)|(refine AO ?_ (dJ ?_ ?_);intro r hr)|(refine AO ?_ (CA ?_);rintro r ⟨hr,b⟩)
 all_goals try (have c:=(UA.lens (x:=x) (by unfold Io at*;grind)))
 all_goals exact l!
def ADG(k:Nat):(0:Int)<256^k:=by have:0<256^k:=Nat.pow_pos g!;grind
def AGC(b k:Nat):(b:Int)*256^k=((b*256^k:Nat):Int):=q!
def C8(n:Int):Nat->BY
 |0=>[]
 |k+1=>UInt8.ofNat (n%256).toNat::C8 (n/256) k
def lI:BY->Nat
 |[]=>0
 |b::r=>b.toNat+256*lI r
theorem A0: ∀(k:Nat) (n:Int),(C8 n k).length=k
 |0,n=>rfl
 |k+1,n=>by rw[C8,Bo,A0 k]
theorem pk: ∀l:BY,lI l<256^l.length
 |[]=>by simp[lI]
 |b::r=>by have a:=pk r;have c:=b.toNat_lt;grind[lI,List.length_cons,Nat.pow_succ]
def yM: ∀l:BY,C8 (lI l:Int) l.length=l
 |[]=>rfl
 |b::r=>by have a:=b.toNat_lt;rw[Bo,C8,(by rw[lI];omega:((lI (b::r):Nat):Int)/256=(lI r:Int)),(by rw[lI];omega:(((lI (b::r):Nat):Int)%256).toNat=b.toNat),yM r];simp
def rl: ∀(k:Nat) (n m:Int),n%256^k=m%256^k->C8 n k=C8 m k
 |0,_,_,_=>rfl
 |k+1,n,m,h=>by
  have e:(256:Int)^(k+1)=256^k*256:=Int.pow_succ ..;have b:n%256=m%256:=by have a:n%256^(k+1)%256=n%256:=Int.emod_emod_of_dvd n ⟨256^k,by rw[e,Int.mul_comm]⟩;simp_all
  have c:n/256%256^k=m/256%256^k:=by
   have g: ∀x:Int,x/256%256^k=x%256^(k+1)/256:=λx=>by have d:=lj (x/256) (256^k);have f:=lj x (256*256^k);grind[Int.ediv_ediv_of_nonneg]
   grind
  rw[C8,C8,b,rl k _ _ c]
def pj: ∀(k:Nat) (n:Int),C8 n (k+1)=C8 n k++[UInt8.ofNat (n/256^k%256).toNat]
 |0,n=>by simp[C8]
 |k+1,n=>by rw[C8,pj k (n/256),C8];grind[Int.pow_succ,Int.mul_comm,Int.ediv_ediv_of_nonneg]
theorem oK: ∀(k:Nat) (n:Int),((lI (C8 n k):Nat):Int)=n%256^k
 |0,n=>by simp[C8,lI]
 |k+1,n=>by
  rw[C8,lI];have b:(UInt8.ofNat (n%256).toNat).toNat=(n%256).toNat:=by grind[UInt8.toNat_ofNat']
  have c:=oK k (n/256);have a:=lj (n/256) (256^k);grind[Int.mul_ediv_add_emod,Int.ediv_ediv_of_nonneg]
theorem pm: ∀(l:BY) (b:UInt8),lI (l++[b])=lI l+b.toNat*256^l.length
 |[],b=>by simp[lI]
 |a::r,b=>by rw[ED,lI,pm r b,lI,Bo,Nat.pow_succ,Nat.mul_add];grind
def Zk(k:Nat)(n:Int):Prop:=(k<=7->0<=n/\n<256^k)/\ -9223372036854775808<=n/\n<=9223372036854775807
theorem WL{k:Nat}(f:k<=8){n m:Int}(hn:Zk k n)(d:Zk k m)(h:C8 n k=C8 m k):n=m:=by
 have e:=oK k n;rw[h,oK k m]at e;by_cases c:k<=7;have a:=hn.1 c;have b:=d.1 c;grind[Int.emod_eq_of_lt];have:k=8:=o!
 have a:=hn.2;have b:=d.2;grind
def rd(l:BY):Int:=wi (lI l:Int)
def AGD{k:Nat}(h:k<=7):(256:Int)^k<=72057594037927936:=by
 have:k=0\/k=1\/k=2\/k=3\/k=4\/k=5\/k=6\/k=7:=o!
 grind
theorem xK{l:BY}(h:l.length<=8):Zk l.length (rd l):=by have b:=pk l;have d:rd l=((lI l:Int)+9223372036854775808)%18446744073709551616-9223372036854775808:=AB8 _;refine⟨λa=>?_,o!⟩;have c:=AGD a;grind
theorem tX{l:BY}(h:l.length<=8):C8 (rd l) l.length=l:=by
 rw[show C8 (rd l) l.length=C8 (lI l:Int) l.length from ?_,yM];apply rl;by_cases a:l.length<=7;have c:=AGD a;have b:(lI l:Int)<256^l.length:=by grind[pk]
 have:rd l=(lI l:Int):=by unfold rd;exact Aa
 rw[this];have:l.length=8:=o!
 rw[this,show(256:Int)^8=18446744073709551616 by decide];unfold rd;rw[AB8];omega
theorem mv{k:Nat}{n:Int}(a:k<=8)(h:Zk k n):rd (C8 n k)=n:=by grind[A0,WL,xK,C8,tX]
def xH(k:Nat):(2:Int)^(8*k)=256^k:=by grind[Int.pow_mul]
def ABf{n:Int}{i:Int}(c:0<=i)(d:i<8):Ei ([IntKind.wrap .u8 (Int.fdiv (IntKind.wrap .u64 n) (2^(min (Int.toNat (IntKind.wrap .u64 (wi (8*i)))) 64)))]:List Int)=[UInt8.ofNat (n/256^i.toNat%256).toNat]:=by
 have a:wi (8*i)=8*i:=Aa;have b:IntKind.wrap .u64 (8*i)=8*i:=by rw[XY];omega
 rw[a,b,show min (8*i).toNat 64=8*i.toNat by omega,xH];have e:=ADG i.toNat
 rw[gl _ o!,XY,AFU];have:n%18446744073709551616/256^i.toNat%256=n/256^i.toNat%256:=by
  have:i.toNat=0\/i.toNat=1\/i.toNat=2\/i.toNat=3\/i.toNat=4\/i.toNat=5\/i.toNat=6\/i.toNat=7:=o!
  rcases this with h|h|h|h|h|h|h|h<;>rw[h];rw[show(256:Int)^0=1 by decide];omega;rw[show(256:Int)^1=256 by decide];omega;rw[show(256:Int)^2=65536 by decide];omega;rw[show(256:Int)^3=16777216 by decide];omega;rw[show(256:Int)^4=4294967296 by decide];omega;rw[show(256:Int)^5=1099511627776 by decide];omega;rw[show(256:Int)^6=281474976710656 by decide];omega;rw[show(256:Int)^7=72057594037927936 by decide];omega
 rw[this];rfl
theorem Ha{s:BY}{n:Int}{k:Int}(h:s.length<=1099511627776)(i:1<=k)(j:k<=8):Ak (s,(n,k))=some (s++C8 n k.toNat):=by
 have key:As (Aj (GR (s,(n,k))) (s,0)) λr=>r=s++C8 n k.toNat:=by refine AV (λ(t:BY×Int)=>0<=t.2/\t.2<=k/\t.1=s++C8 n t.2.toNat) (λt=>(k-t.2).toNat) ⟨Ae _,d!,by simp[C8]⟩ ?_;rintro⟨l,a⟩ ⟨b,g,c⟩;dsimp only at b g c;subst c;unfold GR;dsimp only;refine AC (λd=>?_) (λd=>AB (by rw[show a=k by omega]));refine AC (λe=>absurd e (by have:=oP (wi (8*a));omega)) (λ_=>?_);rw[ABf b o!];refine AA (CA (by rw[Ag,A0];simp;omega)) λv f=>AB ?_;rw[(Aa)];refine⟨⟨o!,o!,?_⟩,o!⟩;rw[f.1,show(a+1).toNat=a.toNat+1 by omega,pj,A2]
 obtain⟨r,hr,rfl⟩:=key;unfold Ak;grind
def vt{a t:BY}{i:Int}(c:0<=i)(d:i<t.length)(e:(a.length:Int)<=2199023255552)(f:(t.length:Int)<=2199023255552): ∃b:UInt8,six (a++t) (wi ((a.length:Int)+i))=some (b.toNat:Int)/\t.take (i+1).toNat=t.take i.toNat++[b]:=by obtain⟨k,rfl⟩:=EM c;refine⟨t[k],?_,?_⟩;grind[Aa,six];simp_all
theorem AE6{a b k:Nat}(h:a<256^k)(f:b<256)(g:k<8):BitVec.toNat (BitVec.ofInt 64 (a:Int)|||BitVec.ofInt 64 ((b:Int)*256^k))=a+b*256^k:=by
 have e:(256:Nat)^k=2^(8*k):=by rw[Nat.pow_mul]
 have d:a+b*256^k<256^(k+1):=by
  have:b*256^k+256^k<=256*256^k:=by rw[<-Nat.succ_mul];exact OV _ o!
  omega
 have c:(256:Nat)^(k+1)<=2^64:=by rw[show(2:Nat)^64=256^8 by decide];exact bn g! o!
 rw[AGC];rw[BitVec.toNat_or,Zp,Zp,Zq,Zq,R9 o!,R9 o!];grind[Nat.mul_comm,Nat.two_pow_add_eq_or_of_lt]
theorem yE{a:Nat}{b:UInt8}{i:Int}(g:0<=i)(h:i<8)(k:a<256^i.toNat)(j:Int)(d:j=8*i):IntKind.wrap .u64 (((BitVec.toNat ((BitVec.ofInt 64 (a:Int))|||(BitVec.ofInt 64 (IntKind.wrap .u64 ((IntKind.wrap .u64 (b.toNat:Int))*(2^(min (Int.toNat j) 64))))))):Nat):Int)=((a+b.toNat*256^i.toNat:Nat):Int):=by
 have l:=b.toNat_lt;have c:(256:Nat)^(i.toNat+1)<=2^64:=by rw[show(2:Nat)^64=256^8 by decide];exact bn g! o!
 have e:a+b.toNat*256^i.toNat<256^(i.toNat+1):=by
  have:b.toNat*256^i.toNat+256^i.toNat<=256*256^i.toNat:=by rw[<-Nat.succ_mul];exact OV _ o!
  omega
 rw[d,(by rw[XY];omega:IntKind.wrap .u64 (b.toNat:Int)=b.toNat),show min (8*i).toNat 64=8*i.toNat by omega,xH];have f:IntKind.wrap .u64 ((b.toNat:Int)*256^i.toNat)=(b.toNat:Int)*256^i.toNat:=by rw[XY,AGC];omega
 grind[AE6,XY]
theorem fQ{a t:BY}{k:Int}(h:(a.length:Int)+t.length<=2199023255552)(v:1<=k)(w:k<=8):Ay (a++t,((a.length:Int),k))=if k<=t.length then some (rd (t.take k.toNat),0)else some (0,5):=by
 unfold Ay;dsimp only;have d:len (a++t)=(a.length:Int)+t.length:=by unfold len;rw[List.length_append];omega
 rw[decide_eq_false o!,cond_false,decide_eq_false o!,cond_false,decide_eq_false o!,cond_false,decide_eq_false o!,cond_false];have q:wi (len (a++t)-(a.length:Int))=t.length:=by rw[d,Aa];omega
 by_cases g:k<=t.length;rw[decide_eq_false o!,cond_false,if_pos g];have key:As (Aj (GQ (a++t,((a.length:Int),k))) (0,0)) λr=>r=(lI (t.take k.toNat):Int):=by
  refine AV (λ(s:Int×Int)=>0<=s.2/\s.2<=k/\s.1=(lI (t.take s.2.toNat):Int)) (λs=>(k-s.2).toNat) ⟨Ae _,d!,by simp[lI]⟩ ?_;rintro⟨x,c⟩ ⟨f,u,l⟩;dsimp only at f u l;subst l;unfold GQ;dsimp only;refine AC (λo=>?_) (λo=>AB (by rw[show c=k by omega]));obtain⟨b,q1,q2⟩:=vt (a:=a) (t:=t) (i:=c) f o! o! o!;rw[q1,AD];refine AC (λp=>absurd p (by have:=oP (wi (8*c));omega)) (λ_=>AB ?_);have e:wi (c+1)=c+1:=Aa;have m:wi (8*c)=8*c:=Aa;have n:IntKind.wrap .u64 (8*c)=8*c:=by rw[XY];omega
  have j:(t.take c.toNat).length=c.toNat:=by rw[BR];omega
  dsimp only;rw[e,yE f o! (by have:=pk (t.take c.toNat);rwa [j]at this) _ (by rw[m,n])];refine⟨⟨o!,o!,?_⟩,o!⟩;rw[q2,pm,j]
 obtain⟨r,hr,rfl⟩:=key;rw[hr];rfl;rw[decide_eq_true o!,cond_true,if_neg g]
theorem YQ{a t:BY}{k:Int}(h:(a.length:Int)+t.length<=2199023255552)(p:1<=k)(q:k<=8):CU (a++t,((a.length:Int),k))=if k<=t.length then some (rd (t.take k.toNat),0)else some (0,5):=by
 unfold CU;dsimp only;have f:len (a++t)=(a.length:Int)+t.length:=q!
 rw[decide_eq_false o!,cond_false,decide_eq_false o!,cond_false,decide_eq_false o!,cond_false,decide_eq_false o!,cond_false];have m:wi (len (a++t)-(a.length:Int))=t.length:=by grind[Aa]
 by_cases l:k<=t.length;rw[decide_eq_false o!,cond_false,if_pos l];have key:As (Aj (Tf (a++t,((a.length:Int),k))) (0,0)) λr=>r=(lI (t.take k.toNat):Int):=by refine AV (λ(s:Int×Int)=>0<=s.2/\s.2<=k/\s.1=(lI (t.take s.2.toNat):Int)) (λs=>(k-s.2).toNat) ⟨Ae _,d!,by simp[lI]⟩ ?_;rintro⟨u,c⟩ ⟨d,n,e⟩;dsimp only at d n e;subst e;unfold Tf;dsimp only;refine AC (λg=>?_) (λg=>AB (by rw[show c=k by omega]));have⟨b,q1,q2⟩:=vt (a:=a) (t:=t) (i:=c) d o! o! o!;have o:wi (8*c)=8*c:=Aa;rw[q1,AD];refine AC (λj=>absurd j o!) (λ_=>AB ?_);grind[Aa,yE,pk,pm]
 obtain⟨r,hr,rfl⟩:=key;rw[hr];rfl;grind
def OI(x:BY×Int×Int):Option BY:=
 bif decide (x.1.length<=1099511627776)&&(decide (1<=x.2.2)&&decide (x.2.2<=8))then some (x.1++C8 x.2.1 x.2.2.toNat)else none
def Kf(x:BY×Int):Option BY:=
 bif (x.1==[0])&&(decide (0<=x.2)&&decide (x.2<=8000))then some (List.replicate x.2.toNat 0)else none
def ADK(a b:AT):Bool:=(a.1==b.1)&&((a.2.1==b.2.1)&&(List.finRange 16).foldr (λi r=>((a.2.2 i).1==(b.2.2 i).1)&&(((a.2.2 i).2==(b.2.2 i).2)&&r)) true)
end Go.Pm
