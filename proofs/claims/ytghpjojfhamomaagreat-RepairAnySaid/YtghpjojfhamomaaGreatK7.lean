/- Texts of wip, joined and shortened by wip/tools/pack.py; nothing is assumed. -/
import Derived.Test.YtghpjojfhamomaaGreatK6
noncomputable section
set_option linter.all false
namespace Go.Pm
open Go Go.Ab
set_option maxHeartbeats 400000
def Fo(x:Ce):Prop:=x.2.length<=12/\(x.1=true\/x.2=[])
def OR(x:Do):Prop:=0<=x.1/\x.1<64/\0<=x.2.1/\x.2.1<16/\Fo x.2.2.1/\Fo x.2.2.2
def J6{x:Ce}:Ap (DR x) λr=>r=true↔Fo x:=by
 unfold DR Fo
 repeat' first
   |with_reducible apply AC<;>intro a
   |with_reducible apply AP<;>intro a
   |with_reducible apply AK<;>intro a
   |(with_reducible apply BA;try dsimp only)
   |with_reducible apply BZ
   |with_reducible apply Bx
   |with_reducible apply AB
 all_goals grind
def TT{x:Do}:Ap (IZ x) λr=>r=true↔OR x:=by
 unfold IZ OR
 repeat' first
   |with_reducible apply AC<;>intro a
   |with_reducible apply AK<;>intro a
   |(with_reducible apply BA;try dsimp only)
   |with_reducible apply BZ
   |with_reducible apply Bx
   |with_reducible apply AB
   |(with_reducible apply AA (J6);intro r hr)
 all_goals grind
def Pt:Do:=(0,0,(false,[]),(false,[]))
def Ut(x:AE):Prop:=
 (x.2.1=1/\x.2.2.2.2.2.1=0/\x.2.2.2.2.2.2.2=[]/\1<=x.2.2.1/\x.2.2.1<=1073741824/\OR x.2.2.2.2.2.2.1)\/
 (x.2.1=2/\0<x.2.2.2.1/\1<=x.2.2.2.2.2.1/\x.2.2.2.2.2.1<=x.2.2.2.1/\x.2.2.2.2.2.2.2=[]/\1<=x.2.2.1/\x.2.2.1<=1073741824/\OR x.2.2.2.2.2.2.1)\/
 ((x.2.1=3\/x.2.1=4\/x.2.1=5)/\0<x.2.2.2.1/\x.2.2.2.2.1=0/\x.2.2.2.2.2.1=0/\x.2.2.2.2.2.2.1=Pt/\x.2.2.2.2.2.2.2=[]/\1<=x.2.2.1/\x.2.2.1<=1073741824)\/
 ((x.2.1=6\/x.2.1=8)/\x.2.2.1=0/\x.2.2.2.1=0/\x.2.2.2.2.1=0/\x.2.2.2.2.2.1=0/\x.2.2.2.2.2.2.1=Pt/\x.2.2.2.2.2.2.2.length<=8192)\/
 (x.2.1=7/\x.2.2.1=0/\x.2.2.2.1=0/\x.2.2.2.2.1=0/\0<=x.2.2.2.2.2.2.1.1/\x.2.2.2.2.2.2.1.1<64/\x.2.2.2.2.2.2.1.2=Pt.2/\x.2.2.2.2.2.2.2=[])
def Lc(x:AE):Prop:=1<=x.1/\x.1<=1099511627776/\0<=x.2.2.2.1/\x.2.2.2.1<x.1/\0<=x.2.2.2.2.1/\x.2.2.2.2.1<x.1/\0<=x.2.2.2.2.2.1/\x.2.2.2.2.2.1<x.1/\Ut x
def aA{x:Int×Int}:Ap (Ga x) λr=>r=true↔0<=x.1/\x.1<x.2:=by
 unfold Ga;repeat' with_reducible first|intro a|apply AC|apply AK|apply AB
 all_goals grind
def cJ{x:AE}:Ap (K6 x) λr=>(r.2=true/\r.1=x)↔Ut x:=by
 obtain⟨a,b,c,d,e,f,⟨g,h,⟨i,j⟩,k,l⟩,m⟩:=x;unfold K6 Ut Pt;dsimp only
 repeat' first
   |with_reducible apply AC<;>intro n
   |with_reducible apply AP<;>intro n
   |with_reducible apply AK<;>intro n
   |(with_reducible apply BA;try dsimp only)
   |with_reducible apply BZ
   |with_reducible apply Bx
   |with_reducible apply AB
   |(with_reducible apply AA (TT);intro r hr)
 all_goals grind
def CV{x:AE}:Ap (Cm x) λr=>r=true↔Lc x:=by
 unfold Cm;refine AA cJ λn A=>?_;have e:((n.1.1==x.1)&&((n.1.2.1==x.2.1)&&((n.1.2.2.1==x.2.2.1)&&((n.1.2.2.2.1==x.2.2.2.1)&&((n.1.2.2.2.2.1==x.2.2.2.2.1)&&((n.1.2.2.2.2.2.1==x.2.2.2.2.2.1)&&((n.1.2.2.2.2.2.2.1.1==x.2.2.2.2.2.2.1.1)&&((n.1.2.2.2.2.2.2.1.2.1==x.2.2.2.2.2.2.1.2.1)&&((n.1.2.2.2.2.2.2.1.2.2.1.1==x.2.2.2.2.2.2.1.2.2.1.1)&&((n.1.2.2.2.2.2.2.1.2.2.1.2==x.2.2.2.2.2.2.1.2.2.1.2)&&((n.1.2.2.2.2.2.2.1.2.2.2.1==x.2.2.2.2.2.2.1.2.2.2.1)&&((n.1.2.2.2.2.2.2.1.2.2.2.2==x.2.2.2.2.2.2.1.2.2.2.2)&&((n.1.2.2.2.2.2.2.2==x.2.2.2.2.2.2.2)&&true)))))))))))))=true↔n.1=x:=by obtain⟨⟨a,b,c,d,e,f,⟨g,h,⟨i,j⟩,k,l⟩,m⟩,z⟩:=n;obtain⟨p,q,s,t,u,v,⟨w,y,⟨B,C⟩,D,E⟩,F⟩:=x;simp[and_assoc]
 generalize ((n.1.1==x.1)&&_)=bb at e⊢;unfold Lc
 repeat' first
   |with_reducible apply AC<;>intro o
   |with_reducible apply AP<;>intro o
   |with_reducible apply AK<;>intro o
   |(with_reducible apply BA;try dsimp only)
   |with_reducible apply BZ
   |with_reducible apply Bx
   |with_reducible apply AB
   |(with_reducible apply AA (aA);intro r hr)
 all_goals grind
def Ed{x:Ae}:Ap (Cf x) λr=>r=wi (wi (x.1+len x.2.1)-1):=by
 unfold Cf;repeat' with_reducible first|apply AB
 all_goals grind
def Dj(x:Ae):Prop:=1<=x.1/\x.1<=1099511627776/\x.2.1.length<=4096/\x.1-1<=x.2.2/\x.2.2<=x.1+x.2.1.length-1/\ ∀(i:Nat) (e:AE),x.2.1[i]? =some e->e.1=x.1+i/\Lc e
def X4{x:Ae}{s:Int}(h:0<=s/\s<=x.2.1.length/\x.2.1.length<=4096/\1<=x.1/\x.1<=1099511627776/\ ∀(i:Nat) (e:AE),i<s->x.2.1[i]? =some e->e.1=x.1+i/\Lc e):Ap (Ai (Mv x) s) λr=>(r= .inl false/\ ¬Dj x)\/(r= .inr ()/\ ∀(i:Nat) (e:AE),x.2.1[i]? =some e->e.1=x.1+i/\Lc e):=by
 refine AW (λ(s:Int)=>0<=s/\s<=x.2.1.length/\x.2.1.length<=4096/\1<=x.1/\x.1<=1099511627776/\ ∀(i:Nat) (e:AE),i<s->x.2.1[i]? =some e->e.1=x.1+i/\Lc e) (λ(s:Int)=>((x.2.1.length:Int)-s).toNat) h (λs b=>?_);unfold Mv;obtain⟨c,d,f,g,j,k⟩:=b;repeat' with_reducible first|intro a|apply AC|apply AO|apply AL|apply AK|apply AB|(apply AA (CV);intro r hr)|(refine AM ?_ (AI ?_ ?_);rintro r ⟨hr,l⟩)
 all_goals try (first|omega|grind[AY,Dj])
def Bg{x:Ae}:Ap (B4 x) λr=>r=true↔Dj x:=by
 unfold B4;repeat' with_reducible first|intro a|apply AC|apply AK|(apply BK;try dsimp only)|(apply A7;try dsimp only)|(apply BB<;>(intro u b;try subst b))|apply AB|(apply AA (Ed);intro r hr)|(refine AM ?_ (X4 ?_);intro r hr)
 all_goals try (first|omega|grind[AY,Dj])
def GA(x:AU):Prop:=0<=x.1/\x.1<64/\0<=x.2.1/\x.2.1<=1099511627776/\ ∀i,Fo (x.2.2 i)/\(x.2.1=0->(x.2.2 i).1=false)
def Lg{x:AU}:Ap (HO x) λr=>r=true↔0<=x.1/\x.1<64/\0<=x.2.1/\x.2.1<=1099511627776:=by
 unfold HO;repeat' with_reducible first|intro a|apply AC|apply AK|apply AB
 all_goals grind
def X0{x:AU}{s:Int}(h:0<=s/\s<=16/\ ∀i:Fin 16,(i.val:Int)<s->Fo (x.2.2 i)/\(x.2.1=0->(x.2.2 i).1=false)):Ap (Ai (Mn x) s) λr=>(r= .inl false/\ ¬ ∀i,Fo (x.2.2 i)/\(x.2.1=0->(x.2.2 i).1=false))\/(r= .inr ()/\ ∀i,Fo (x.2.2 i)/\(x.2.1=0->(x.2.2 i).1=false)):=by
 refine AW (λ(s:Int)=>0<=s/\s<=16/\ ∀i:Fin 16,(i.val:Int)<s->Fo (x.2.2 i)/\(x.2.1=0->(x.2.2 i).1=false)) (λ(s:Int)=>(16-s).toNat) h (λs b=>?_);unfold Mn;repeat' with_reducible first|intro a|apply AC|apply AO|apply AP|apply AK|apply AB|(apply AA (J6);intro r hr)|(refine AM ?_ (Cq ?_ ?_);intro r hr)
 all_goals exact l!
def No{x:AU}:Ap (IX x) λr=>r=true↔ ∀i,Fo (x.2.2 i)/\(x.2.1=0->(x.2.2 i).1=false):=by
 unfold IX;repeat' with_reducible first|(apply BK;try dsimp only)|(apply A7;try dsimp only)|(apply BB<;>(intro u a;try subst a))|apply AB|(refine AM ?_ (X0 ?_);intro r hr)
 all_goals first|omega|grind
def cE{x:AU}:Ap (K3 x) λr=>r=true↔GA x:=by
 unfold K3 GA
 repeat' first
   |with_reducible apply AK<;>intro a
   |with_reducible apply AB
   |(with_reducible apply AA (Lg);intro r hr)
   |(with_reducible apply AA (No);intro r hr)
 all_goals grind
def Nn{x:AU}:Ap (Dw x) λr=>r=0->GA x:=by
 unfold Dw GA
 repeat' first
   |with_reducible apply AO<;>intro a
   |with_reducible apply AB
   |(with_reducible apply AA (Lg);intro r hr)
   |(with_reducible apply AA (No);intro r hr)
 all_goals grind
def nN(f:BE):Prop:=GA f.1/\(f.2.1=true->1<=f.2.2.1/\f.2.2.1<=f.1.2.1)/\(f.2.1=false->f.2.2.1=0)
def J0(l:List BE)(n:Int):Prop:=(∀(i:Nat) (f:BE),i<n->l[i]? =some f->nN f)/\ ∀(i j:Nat) (f g:BE),i<j->j<n->l[i]? =some f->l[j]? =some g->f.1.1≠g.1.1
def O9(x:Bs):Prop:=1<=x.1/\x.1<=64/\x.2.1.length<=x.1/\0<=x.2.2/\(x.2.1.length=0/\x.2.2=0\/x.2.2<x.2.1.length)/\J0 x.2.1 x.2.1.length
theorem J0.step{l:List BE}{n:Int}{f:BE}(e:0<=n)(h:J0 l n)(o:l[n.toNat]? =some f)(r:nN f)(m: ∀(j:Nat) (g:BE),j<n->l[j]? =some g->g.1.1≠f.1.1):J0 l (n+1):=by
 refine⟨λi g p b=>?_,λi j g k c q b d=>?_⟩;rcases jJ i n with a|a;exact h.1 i g a b;grind;rcases jJ j n with a|a;exact h.2 i j g k c a b d;have:j=n.toNat:=o!
 grind
theorem oF{l:List BE}{n:Int}{f:BE}(c:0<=n)(d:n<l.length)(a:l[n.toNat]? =some f)(b: ¬nN f): ¬J0 l l.length:=λh=>b (h.1 n.toNat f o! a)
theorem oG{l:List BE}{n:Int}{f:BE}(e:0<=n)(i:n<l.length)(d:l[n.toNat]? =some f)(c: ∃(j:Nat) (g:BE),j<n/\l[j]? =some g/\g.1.1=f.1.1): ¬J0 l l.length:=λh=>by have⟨j,g,k,a,b⟩:=c;exact h.2 j n.toNat g f o! o! a d b
def Hr{x:Bs}{a:Int}{b:BE}{s:Int}(h:0<=s/\s<=a/\a<=x.2.1.length/\(x.2.1.length:Int)<=16777216/\ ∀(j:Nat) (g:BE),j<s->x.2.1[j]? =some g->g.1.1≠b.1.1):Ap (Ai (Ft x a b) s) λr=>(r= .inl false/\ ∃(j:Nat) (g:BE),j<a/\x.2.1[j]? =some g/\g.1.1=b.1.1)\/(r= .inr ()/\ ∀(j:Nat) (g:BE),j<a->x.2.1[j]? =some g->g.1.1≠b.1.1):=by
 refine AW (λ(s:Int)=>0<=s/\s<=a/\a<=x.2.1.length/\(x.2.1.length:Int)<=16777216/\ ∀(j:Nat) (g:BE),j<s->x.2.1[j]? =some g->g.1.1≠b.1.1) (λ(s:Int)=>(a-s).toNat) h (λs d=>?_);unfold Ft;repeat' with_reducible first|intro c|apply AC|apply AP|apply AK|apply AB|(refine AM ?_ (AI ?_ ?_);rintro r ⟨hr,e⟩)
 all_goals exact l!
def X9{x:Bs}{s:Int}(h:0<=s/\s<=x.2.1.length/\(x.2.1.length:Int)<=16777216/\J0 x.2.1 s):Ap (Ai (M0 x) s) λr=>(r= .inl false/\ ¬J0 x.2.1 x.2.1.length)\/(r= .inr ()/\J0 x.2.1 x.2.1.length):=by
 refine AW (λ(s:Int)=>0<=s/\s<=x.2.1.length/\(x.2.1.length:Int)<=16777216/\J0 x.2.1 s) (λ(s:Int)=>((x.2.1.length:Int)-s).toNat) h (λs d=>?_);unfold M0;repeat' with_reducible first|intro a|apply AC|apply AO|apply AL|apply AK|(apply BK;try dsimp only)|(apply A7;try dsimp only)|(apply BB<;>(intro u c;try subst c))|apply AB|(apply AA (cE);intro r hr)|(refine AM ?_ (Hr ?_);intro r hr)|(refine AM ?_ (Hr ?_);intro r hr)|(refine AM ?_ (Hr ?_);intro r hr)|(refine AM ?_ (Hr ?_);intro r hr)|(refine AM ?_ (AI ?_ ?_);rintro r ⟨hr,f⟩)
 all_goals try (have e:=AY (x:=s+1))
 all_goals first|omega|(exact⟨o!,o!,o!,o!,λj g b=>absurd b o!⟩)|grind[J0.step,oF,oG,nN]
def J0.zero(l:List BE):J0 l 0:=⟨λi f h=>absurd h o!,λi j f g h a=>absurd a o!⟩
def AG8(n h:Int)(a:0<=n)(b:n<=64):(h>if wi (n-1)>0 then wi (n-1)else 0)↔ ¬(n=0/\h<=0\/h<n):=by grind[AY]
def ER{x:Bs}:Ap (DX x) λr=>r=true↔O9 x:=by
 unfold DX O9
 repeat' first
   |with_reducible apply AC<;>intro b
   |(with_reducible apply BB<;>(intro u a;try subst a))
   |with_reducible apply AB
   |(with_reducible refine AM ?_ (X9 ?_);intro r hr)
 all_goals try dsimp[len]at*
 all_goals first
  |(exact⟨o!,o!,o!,J0.zero _⟩)
  |(have c:=AG8 (x.2.1.length) x.2.2 o! o!;grind)
  |grind
def Nu{x:Ar}:Ap (Gz x) λr=>True:=by
 unfold Gz;repeat' with_reducible first|intro a|apply AC|apply AP|apply AK|apply AB
 all_goals exact l!
def US{x:Ar×Ar}:Ap (FW x) λr=>True:=by
 unfold FW;repeat' with_reducible first|intro a|apply AC|apply AL|apply AK|apply AB
 all_goals exact l!
def GL{x:Ar×Ar}:Ap (EE x) λr=>True:=by
 unfold EE;repeat' with_reducible first|intro a|apply AP|apply AL|apply AK|apply AB
 all_goals exact l!
def Yt{x:A9×Int×Co}{s:Int}(h:0<=s/\s<=x.1.1.length/\(x.1.1.length:Int)<=16777216):Ap (Ai (Nx x) s) λr=>True:=by
 refine AW (λ(s:Int)=>0<=s/\s<=x.1.1.length/\(x.1.1.length:Int)<=16777216) (λ(s:Int)=>((x.1.1.length:Int)-s).toNat) h (λs b=>?_);unfold Nx;repeat' with_reducible first|intro a|apply AC|apply AP|apply AK|apply AB|(refine AM ?_ (AI ?_ ?_);rintro r ⟨hr,c⟩)
 all_goals exact l!
def Hq{x:A9×Int×Co}(h:x.1.1.length<=16777216):Ap (EF x) λr=>True:=by
 unfold EF;repeat' with_reducible first|(apply BK;try dsimp only)|(apply A7;try dsimp only)|(apply BB<;>(intro u a;try subst a))|apply AB|(refine AM ?_ (Yt ?_);intro r hr)
 all_goals exact l!
def GI(x:A9):Prop:=x.1.length<=16777216/\x.2.length<=16777216
def QX{x:A9}{a:Int}{s:Int}(h:s<a/\ -1<=s/\0<=a/\a<x.1.length/\x.1.length<=16777216):Ap (Ai (I5 x a) s) λr=>r≠ .inl true:=by
 refine AW (λ(s:Int)=>s<a/\ -1<=s/\0<=a/\a<x.1.length/\x.1.length<=16777216) (λ(s:Int)=>(s+1).toNat) h (λs c=>?_);unfold I5;repeat' with_reducible first|intro b|apply AC|apply AP|apply AK|apply AB|(apply AA (GL);intro r hr)|(refine AM ?_ (AI ?_ ?_);rintro r ⟨hr,d⟩)
 all_goals exact l!
def X5{x:A9}{s:Int}(h:0<=s/\s<=x.1.length/\(x.1.length:Int)<=16777216):Ap (Ai (Mw x) s) λr=>r≠ .inl true:=by
 refine AW (λ(s:Int)=>0<=s/\s<=x.1.length/\(x.1.length:Int)<=16777216) (λ(s:Int)=>((x.1.length:Int)-s).toNat) h (λs c=>?_);unfold Mw;repeat' with_reducible first|intro a|apply AC|apply AO|apply AK|(apply BK;try dsimp only)|(apply A7;try dsimp only)|(apply BB<;>(intro u b;try subst b))|apply AB|(apply AA (Nu);intro r hr)|(apply AA (US);intro r hr)|(refine AM ?_ (QX ?_);intro r hr)|(refine AM ?_ (QX ?_);intro r hr)|(refine AM ?_ (AI ?_ ?_);rintro r ⟨hr,d⟩)
 all_goals ((try dsimp[len]at*);(try first|omega|assumption|grind[AY]|((try simp (disch:=omega) only[AY,len]at*)<;>(try intros)<;>(try and_intros)<;>(try intros)<;>(first|omega|assumption|grind))))
def X7{x:A9}{a:Int}{b:Ar}{s:Int}(h:0<=s/\s<=a/\(a:Int)<=16777216/\a<=x.2.length):Ap (Ai (My x a b) s) λr=>r≠ .inl true:=by
 refine AW (λ(s:Int)=>0<=s/\s<=a/\(a:Int)<=16777216/\a<=x.2.length) (λ(s:Int)=>((a:Int)-s).toNat) h (λs d=>?_);unfold My;repeat' with_reducible first|intro c|apply AC|apply AP|apply AK|apply AB|(refine AM ?_ (AI ?_ ?_);rintro r ⟨hr,e⟩)
 all_goals exact l!
def X6{x:A9}{s:Int}(h:0<=s/\s<=x.2.length/\(x.2.length:Int)<=16777216/\x.1.length<=16777216):Ap (Ai (Mx x) s) λr=>r≠ .inl true:=by
 refine AW (λ(s:Int)=>0<=s/\s<=x.2.length/\(x.2.length:Int)<=16777216/\x.1.length<=16777216) (λ(s:Int)=>((x.2.length:Int)-s).toNat) h (λs c=>?_);unfold Mx;repeat' with_reducible first|intro a|apply AC|apply AO|apply AK|(apply BK;try dsimp only)|(apply A7;try dsimp only)|(apply BB<;>(intro u b;try subst b))|apply AB|(apply AA (Nu);intro r hr)|(refine AM ?_ (Hq ?_);intro r hr)|(refine AM ?_ (X7 ?_);intro r hr)|(refine AM ?_ (AI ?_ ?_);rintro r ⟨hr,d⟩)
 all_goals exact l!
def ZU(x:A9):Prop:=x.1.length+x.2.length<=1024
def FJ{x:A9}(h:GI x):Ap (Dx x) λr=>r=true->ZU x:=by
 unfold Dx ZU;unfold GI at h
 repeat' first
   |with_reducible apply AC<;>intro b
   |(with_reducible apply BB<;>(intro u a;try subst a))
   |with_reducible apply AB
   |(with_reducible refine AM ?_ (X5 ?_);intro r hr)
   |(with_reducible refine AM ?_ (X6 ?_);intro r hr)
 all_goals exact l!
def VTx(x:Al):Prop:=x.2.2.2.2.1.length<=4096/\x.2.2.2.2.2.length<=8/\1<=x.1
def Yb(x:List Al):Prop:=x.length<=64/\ ∀(i:Nat) (t:Al),x[i]? =some t->VTx t
def QY{x:Al}{s:Int}(h:0<=s/\s<=x.2.2.2.2.1.length/\(x.2.2.2.2.1.length:Int)<=16777216):Ap (Ai (I9 x) s) λr=>r≠ .inl true:=by
 refine AW (λ(s:Int)=>0<=s/\s<=x.2.2.2.2.1.length/\(x.2.2.2.2.1.length:Int)<=16777216) (λ(s:Int)=>((x.2.2.2.2.1.length:Int)-s).toNat) h (λs b=>?_);unfold I9;repeat' with_reducible first|intro a|apply AC|apply AK|apply AB|(refine AM ?_ (AI ?_ ?_);rintro r ⟨hr,c⟩)
 all_goals ((try dsimp[len]at*);(try first|omega|assumption|grind[AY]|((try simp (disch:=omega) only[AY,len]at*)<;>(try intros)<;>(try and_intros)<;>(try intros)<;>(first|omega|assumption|grind))))
def QZ{x:Al}{s:Int}(h:0<=s/\s<=x.2.2.2.2.2.length/\(x.2.2.2.2.2.length:Int)<=16777216):Ap (Ai (JA x) s) λr=>r≠ .inl true:=by
 refine AW (λ(s:Int)=>0<=s/\s<=x.2.2.2.2.2.length/\(x.2.2.2.2.2.length:Int)<=16777216) (λ(s:Int)=>((x.2.2.2.2.2.length:Int)-s).toNat) h (λs b=>?_);unfold JA;repeat' with_reducible first|intro a|apply AC|apply AK|apply AB|(refine AM ?_ (AI ?_ ?_);rintro r ⟨hr,c⟩)
 all_goals ((try dsimp[len]at*);(try first|omega|assumption|grind[AY]|((try simp (disch:=omega) only[AY,len]at*)<;>(try intros)<;>(try and_intros)<;>(try intros)<;>(first|omega|assumption|grind))))
def cQ{x:Al}:Ap (LF x) λr=>r=true->VTx x:=by
 unfold LF VTx
 repeat' first
   |with_reducible apply AC<;>intro a
   |with_reducible apply AL<;>intro a
   |(with_reducible apply BB<;>(intro u b;try subst b))
   |with_reducible apply AB
   |(with_reducible refine AM ?_ (QY ?_);intro r hr)
   |(with_reducible refine AM ?_ (QZ ?_);intro r hr)
   |(with_reducible refine AM ?_ (QY ?_);intro r hr)
   |(with_reducible refine AM ?_ (QZ ?_);intro r hr)
 all_goals exact l!
def YC{x:List Al}{s:Int}(h:0<=s/\s<=x.length/\(x.length:Int)<=16777216/\ ∀(i:Nat) (t:Al),i<s->x[i]? =some t->VTx t):Ap (Ai (M2 x) s) λr=>r= .inl false\/(r= .inr ()/\ ∀(i:Nat) (t:Al),x[i]? =some t->VTx t):=by
 refine AW (λ(s:Int)=>0<=s/\s<=x.length/\(x.length:Int)<=16777216/\ ∀(i:Nat) (t:Al),i<s->x[i]? =some t->VTx t) (λ(s:Int)=>((x.length:Int)-s).toNat) h (λs b=>?_);unfold M2;repeat' with_reducible first|intro a|apply AC|apply AO|apply AK|apply AB|(apply AA (cQ);intro r hr)|(refine AM ?_ (AI ?_ ?_);rintro r ⟨hr,c⟩)
 all_goals ((try dsimp[len]at*);(try first|omega|assumption|grind[AY]|((try simp (disch:=omega) only[AY,len]at*)<;>(try intros)<;>(try and_intros)<;>(try intros)<;>(first|omega|assumption|grind))))
def Dt{x:List Al}:Ap (Dz x) λr=>r=true->Yb x:=by
 unfold Dz Yb
 repeat' first
   |with_reducible apply AC<;>intro b
   |(with_reducible apply BB<;>(intro u a;try subst a))
   |with_reducible apply AB
   |(with_reducible refine AM ?_ (YC ?_);intro r hr)
 all_goals exact l!
def kZ(x:Bq):Prop:=1<=x.length/\x.length<=64
def gY{x:Int}:Ap (Gp x) λr=>True:=by
 unfold Gp;repeat' with_reducible first|intro a|apply AC|apply AK|apply AB
 all_goals exact l!
def YA{x:Bq}{s:Int}(h:0<=s/\s<=x.length/\(x.length:Int)<=16777216):Ap (Ai (I7 x) s) λr=>r≠ .inl true:=by
 refine AW (λ(s:Int)=>0<=s/\s<=x.length/\(x.length:Int)<=16777216) (λ(s:Int)=>((x.length:Int)-s).toNat) h (λs b=>?_);unfold I7;repeat' with_reducible first|intro a|apply AC|apply AO|apply AP|apply AL|apply AK|apply AB|(apply AA (gY);intro r hr)|(refine AM ?_ (AI ?_ ?_);rintro r ⟨hr,c⟩)
 all_goals exact l!
def GD{x:Bq}:Ap (Dy x) λr=>r=true->kZ x:=by
 unfold Dy kZ
 repeat' first
   |with_reducible apply AC<;>intro b
   |(with_reducible apply BB<;>(intro u a;try subst a))
   |with_reducible apply AB
   |(with_reducible refine AM ?_ (YA ?_);intro r hr)
 all_goals exact l!
def Up{x:List Ag×Int}{s:Int}(h:0<=s/\s<=x.1.length/\(x.1.length:Int)<=16777216):Ap (Ai (Gt x) s) λr=>r≠ .inl true:=by
 refine AW (λ(s:Int)=>0<=s/\s<=x.1.length/\(x.1.length:Int)<=16777216) (λ(s:Int)=>((x.1.length:Int)-s).toNat) h (λs b=>?_);unfold Gt;repeat' with_reducible first|intro a|apply AC|apply AK|apply AB|(refine AM ?_ (AI ?_ ?_);rintro r ⟨hr,c⟩)
 all_goals ((try dsimp[len]at*);(try first|omega|assumption|grind[AY]|((try simp (disch:=omega) only[AY,len]at*)<;>(try intros)<;>(try and_intros)<;>(try intros)<;>(first|omega|assumption|grind))))
def PQ{x:List Ag×Int}(h:x.1.length<=16777216):Ap (FL x) λr=>True:=by
 unfold FL;repeat' with_reducible first|(apply BK;try dsimp only)|(apply A7;try dsimp only)|(apply BB<;>(intro u a;try subst a))|apply AB|(refine AM ?_ (Up ?_);intro r hr)
 all_goals exact l!
theorem Cy{b:Type}{l:List b}{i:Nat}{a:b}(h:l[i]? =some a):i<l.length:=k!
def Zx(p:Int)(e:AE):Bool:=((e.2.1==1)||(e.2.1==2))&&(e.2.2.2.2.2.2.1.1==p)
def Ba(L:List AE)(p:Int):Int:=L.foldl (λa e=>if Zx p e then e.1 else a) 0
theorem O7(L:List AE)(e:AE)(p:Int):Ba (L++[e]) p=if Zx p e then e.1 else Ba L p:=by simp[Ba,XP,XQ,List.foldl_nil]
def upd(x:AU)(e:AE):AU:=(x.1,(e.1,WF x.2.2 e.2.2.2.2.2.2.1.2.1 e.2.2.2.2.2.2.1.2.2.2))
def st(L:List AE)(p:Int):AU:=(L.filter (Zx p)).foldl upd (p,(0,G9.all (false,[])))
def AAN(L M:List AE)(p:Int):st (L++M) p=(M.filter (Zx p)).foldl upd (st L p):=by unfold st;rw[GU,XP]
theorem zR(L:List AE)(e:AE)(p:Int):st (L++[e]) p=if Zx p e then upd (st L p) e else st L p:=by rw[AAN,PW,jQ];split<;>rfl
def AAv(L:List AE)(x:AU):(L.foldl upd x).1=x.1:=by
 induction L generalizing x with
 |nil=>rfl
 |cons e L a=>exact a (upd x e)
def Uj(L:List AE)(p:Int):(st L p).1=p:=AAv _ _
def KJ(L:List AE)(p:Int):(st L p).2.1=Ba L p:=by
 suffices h: ∀(L:List AE) (x:AU),((L.filter (Zx p)).foldl upd x).2.1=L.foldl (λa e=>if Zx p e then e.1 else a) x.2.1 from h L _
 intro L;induction L with
 |nil=>exact λx=>rfl
 |cons e L b=>intro x;rw[PW,XQ];split;exact b (upd x e);exact b x
def wI(n:Int)(L:List AE)(D:List Ag)(R:List Bb):Prop:=
 ∀p,0<=p->p<n->(∀d∈D,d.1=p->d.2.2=Ba L p)/\ ∀r,R[p.toNat]? =some r->r.1<=Ba L p/\((∀d∈D,d.1≠p)->r.1=Ba L p)
def KP(n:Int)(L:List AE)(F:List BE)(D:List Ag)(R:List Bb):Prop:=
 ∀p,0<=p->p<n->(∀f∈F,f.1.1=p->f.1=st L p)/\(∀d∈D,d.1=p->d.2.2=Ba L p)/\
  ∀r,R[p.toNat]? =some r->r.1<=Ba L p/\((∀d∈D,d.1≠p)->(∀f∈F,f.1.1=p->f.2.1=false)->r.1=Ba L p)
def EOK(n:Int)(M:List AE)(e:AE):Prop:=
 (e.2.1=1\/e.2.1=2->e.2.2.2.2.1=Ba M e.2.2.2.2.2.2.1.1/\Gk (st M e.2.2.2.2.2.2.1.1).2.2 e.2.2.2.2.2.2.1.2.1=some e.2.2.2.2.2.2.1.2.2.1)/\(e.2.1=7->e.2.2.2.2.2.1=Ba M e.2.2.2.2.2.2.1.1)/\
  (e.2.1=6-> ∀c,DA e.2.2.2.2.2.2.2=some (c,0)->c.1=n->wI n M c.2.2.2.1 c.2.2.2.2)
def LI(n:Int)(L:List AE):Prop:= ∀(i:Nat) (e:AE),L[i]? =some e->EOK n (L.take i) e
def LI.nil(n:Int):LI n []:=λi e h=>by simp at h
def LI.app{n:Int}{L:List AE}{e:AE}(h:LI n L)(c:EOK n L e):LI n (L++[e]):=by intro i f b;rcases OY i L.length with a|a|a;rw[CT a]at b;rw[dL o!];exact h i f b;grind;grind[List.getElem?_eq_none]
def LI.pre{n:Int}{L T:List AE}(h:LI n (L++T)):LI n L:=by intro i f a;have:=h i f k!;grind
def FD(B:Int->Prop)(n:Int)(F:List BE)(D:List Ag):Prop:= ∀f∈F,0<=f.1.1/\f.1.1<n/\(∀d∈D,d.1≠f.1.1)/\B f.1.1
variable {B:Int->Prop}
def KI(B:Int->Prop)(k:AT):Prop:=LI k.1 k.2.2.1.2.1/\KP k.1 k.2.2.1.2.1 k.2.2.2.1.2.1 k.2.2.2.2.2.2.2 k.2.2.2.2.2.2.1/\FD B k.1 k.2.2.2.1.2.1 k.2.2.2.2.2.2.2
def FD.sub{n:Int}{F G:List BE}{D:List Ag}(h:FD B n F D)(a: ∀g∈G,∃f∈F,f.1.1=g.1.1/\f.1=g.1):FD B n G D:=by intro g c;have⟨f,b,e,_⟩:=a g c;rw[<-e];exact h f b
def mc{p b:Int}: ∀(L:List AE) (a:Int),a<b->(∀e∈L,e.1<b)->L.foldl (λa e=>if Zx p e then e.1 else a) a<b
 |[],a,ha,_=>ha
 |e::L,a,ha,h=>by refine mc L _ ?_ λf c=>h f (CZ _ c);show(if Zx p e=true then e.1 else a)<b;split;exact h e Iq;exact ha
def jh{l:Ae}(h:Dj l)(p:Int):Ba l.2.1 p<l.1+l.2.1.length:=by have⟨a,_,_,_,_,b⟩:=h;refine mc _ _ o! λe c=>?_;grind[List.getElem?_of_mem]
def KP.app{n:Int}{L:List AE}{F:List BE}{D:List Ag}{R:List Bb}{e:AE}(h:KP n L F D R)(c:e.2.1≠1/\e.2.1≠2):KP n (L++[e]) F D R:=by intro p a b;rw[(by grind[O7,Zx]:Ba (L++[e]) p=Ba L p),(by grind[zR,Zx]:st (L++[e]) p=st L p)];exact h p a b
def KP.frames{n:Int}{L:List AE}{F G:List BE}{D:List Ag}{R:List Bb}(h:KP n L F D R)
  (m: ∀g∈G,∃f∈F,f.1.1=g.1.1/\f.1=g.1) (o: ∀f∈F,f.2.1=true-> ∃g∈G,g.1.1=f.1.1/\g.2.1=true):KP n L G D R:=by
 intro p w x;obtain⟨a,b,c⟩:=h p w x;refine⟨λg v e=>?_,b,λr hr=>⟨(c r hr).1,λt u=>(c r hr).2 t λf d e=>?_⟩⟩;obtain⟨f,d,j,k⟩:=m g v;rw[<-k];exact a f d (j.trans e);cases s:f.2.1 with
 |false=>rfl
 |true=>obtain⟨g,q,l,i⟩:=o f d s;rw[u g q (l.trans e)]at i;cases i
def KP.written{n:Int}{L:List AE}{F G:List BE}{D:List Ag}{R:List Bb}{q d:Int}{w:Bb}(h:KP n L F D R)(q0:0≤q)(A:d=Ba L q)(B:q<n)
  (s: ∀g∈G,∃f∈F,f.1.1=g.1.1/\f.1=g.1) (t: ∀f∈F,f.1.1≠q->f∈G) (l:R[q.toNat]? =some w):
  KP n L G D (R.set q.toNat ((if d>w.1 then d else w.1),w.2)):=by
 intro p y z;obtain⟨a,b,c⟩:=h p y z;refine⟨λg x e=>?_,b,λr hr=>?_⟩;obtain⟨f,i,m,o⟩:=s g x;rw[<-o];exact a f i (m.trans e);by_cases k:p=q;subst k;have j:p.toNat<R.length:=by rcases Aw p.toNat R.length with h|h;exact h;rw[Cj h]at l;cases l
 rw[H7 j]at hr;have:=(c w l).1;have e:r.1=Ba L p:=by rw[<-BP hr];dsimp only;split<;>omega
 exact⟨o!,λ_ _=>e⟩;rw[D8 o!]at hr;refine⟨(c r hr).1,λu v=>(c r hr).2 u λf i e=>?_⟩;exact v f (t f i o!) e
def AAM{F:List BE}{i:Nat}{f n:BE}(a:F[i]? =some f)(hn:n.1=f.1): ∀g∈F.set i n,∃f∈F,f.1.1=g.1.1/\f.1=g.1:=k!
def wA{F:List BE}{i:Nat}{f n:BE}(c:F[i]? =some f): ∀g∈F,g.1.1≠f.1.1->g∈F.set i n:=by intro g a b;have⟨j,d⟩:=De a;apply BN (i:=j);grind
def KP.change{n:Int}{L:List AE}{F:List BE}{D:List Ag}{R:List Bb}{e:AE}{i:Nat}{f g:BE}(h:KP n L F D R)(G:FD B n F D)
  (t:e.2.1=1\/e.2.1=2) (u:F[i]? =some f) (I:f.1.1=e.2.2.2.2.2.2.1.1) (v:g.1=upd f.1 e) (y:g.2.1=true)
  (J: ∀j k,F[j]? =some k->k.1.1=f.1.1->j=i) (H:Ba L f.1.1<e.1):KP n (L++[e]) (F.set i g) D R:=by
 have w:i<F.length:=by rcases Aw i F.length with h|h;exact h;rw[Cj h]at u;cases u
 have A:g∈F.set i g:=BN (i:=i) (H7 w);have C:g.1.1=f.1.1:=by rw[v];rfl
 intro p K M;obtain⟨a,b,c⟩:=h p K M;have E:Zx p e=(f.1.1==p):=by rw[I];unfold Zx;rcases t with h|h<;>simp[h]
 rw[O7,zR,E];by_cases l:f.1.1=p;subst l;rw[beq_self_eq_true,if_pos rfl,if_pos rfl];refine⟨λk t m=>?_,λd o m=>absurd m ((G f (BN u)).2.2.1 d o),λr hr=>⟨by have:=(c r hr).1;omega,λ_ q=>?_⟩⟩;obtain⟨j,x⟩:=De t;by_cases s:j=i;subst s;rw[H7 w]at x;rw[<-BP x,v];exact congrArg (λz=>upd z e) (a f (BN u) rfl);rw[D8 (λh=>s h.symm)]at x;exact absurd (J j k x m) s;have:=q g A C;rw[y]at this;cases this;rw[if_neg (by simpa using l),if_neg (by simpa using l)];refine⟨λk t m=>?_,b,λr hr=>⟨(c r hr).1,λo q=>(c r hr).2 o λk t m=>?_⟩⟩;rcases OW t with h|h;exact a k h m;subst h;exact absurd (C.symm.trans m) l;exact q k (wA u k t o!) m
def FD.set{n:Int}{F:List BE}{D:List Ag}{i:Nat}{f g:BE}(h:FD B n F D)(b:F[i]? =some f)(c:g.1.1=f.1.1):FD B n (F.set i g) D:=by intro k d;rcases OW d with a|a;exact h k a;subst a;rw[c];exact h f (BN b)
def KP.supply{n:Int}{L:List AE}{F:List BE}{D l:List Ag}{R:List Bb}{x:AU}{g:BE}(h:KP n L F D R)(y:x=st L x.1)
  (w: ∀f∈F,f.1.1≠x.1) (t:g.1=x) (i:(g.2.1=true/\l=D.filter λd=>d.1 !=x.1)\/(g.2.1=false/\(∀d∈D,d.1≠x.1)/\l=D)):KP n L (F++[g]) l R:=by
 intro p z A;obtain⟨a,b,c⟩:=h p z A;have v: ∀d∈l,d∈D:=by rcases i with⟨_,e⟩|⟨_,_,e⟩<;>subst e;exact λd i=>(BV.1 i).1;exact λd i=>i
 refine⟨λf j e=>?_,λd i=>b d (v d i),λr hr=>⟨(c r hr).1,λq s=>(c r hr).2 ?_ λf j=>s f (HG _ j)⟩⟩;rcases An.1 j with j|j;exact a f j e;rw[BC]at j;subst j;rw[t]at e⊢;rw[<-e];exact y;intro d k e;rcases i with⟨u,o⟩|⟨_,_,o⟩<;>subst o;by_cases m:p=x.1;have:=s g q! (by rw[t,m]);rw[u]at this;cases this;exact q d (BV.2 ⟨k,w!⟩) e;exact q d k e
def FD.supply{n:Int}{F:List BE}{D b:List Ag}{p:Int}{g:BE}(h:FD B n F D)(k:0<=p)(l:p<n)(i:B p)(j:g.1.1=p)(e: ∀d∈b,d∈D)(hn: ∀d∈b,d.1≠p):FD B n (F++[g]) b:=by intro f a;rcases An.1 a with a|a;exact⟨(h f a).1,(h f a).2.1,λd c=>(h f a).2.2.1 d (e d c),(h f a).2.2.2⟩;grind
end Go.Pm
namespace Go.Pm
open Go Go.Ab
set_option maxHeartbeats 400000
variable {B:Int->Prop}
def SB(k:AT):Prop:=GI k.2.2.2.2.1/\k.2.2.2.2.2.1.length<=16777216/\k.2.2.2.2.2.2.2.length<=16777216
def SK(B:Int->Prop)(k:AT):Prop:=GI k.2.2.2.2.1/\k.2.2.2.2.2.1.length<=16777216/\k.2.2.2.2.2.2.2.length<=16777216/\KI B k
def SK.sb{k:AT}(h:SK B k):SB k:=⟨h.1,h.2.1,h.2.2.1⟩
def SK.ki{k:AT}(h:SK B k):KI B k:=h.2.2.2
def SB.sk{k:AT}(h:SB k)(g:KI B k):SK B k:=⟨h.1,h.2.1,h.2.2,g⟩
def VK(k:AT):Prop:=1<=k.1/\k.1<=64/\Dj k.2.2.1/\O9 k.2.2.2.1/\ZU k.2.2.2.2.1/\Yb k.2.2.2.2.2.1/\kZ k.2.2.2.2.2.2.1/\k.2.2.2.2.2.2.1.length=k.1
def cV{x:AT}(h:SB x):Ap (LK x) λr=>r=true->VK x:=by
 unfold LK VK;unfold SB at h
 repeat' first
   |with_reducible apply AK<;>intro a
   |with_reducible apply AB
   |(with_reducible apply AA (Bg);intro r hr)
   |(with_reducible apply AA (ER);intro r hr)
   |(with_reducible refine AM ?_ (FJ ?_);intro r hr)
   |(with_reducible apply AA (Dt);intro r hr)
   |(with_reducible apply AA (GD);intro r hr)
   |(with_reducible refine AM ?_ (PQ ?_);intro r hr)
 all_goals exact l!
def YD{x:AT×Int}{s:Int×Ag}(h:0<=s.1/\s.1<=x.1.2.2.2.2.2.2.2.length/\x.1.2.2.2.2.2.2.2.length<=16777216/\ ∀(i:Nat) (d:Ag),i<s.1->x.1.2.2.2.2.2.2.2[i]? =some d->d.1≠x.2):Ap (Ai (M4 x) s) λr=>(∃d∈x.1.2.2.2.2.2.2.2,r= .inl (true,d)/\d.1=x.2)\/ ∃z,r= .inr z/\ ∀d∈x.1.2.2.2.2.2.2.2,d.1≠x.2:=by
 refine AW (λ(s:Int×Ag)=>0<=s.1/\s.1<=x.1.2.2.2.2.2.2.2.length/\x.1.2.2.2.2.2.2.2.length<=16777216/\ ∀(i:Nat) (d:Ag),i<s.1->x.1.2.2.2.2.2.2.2[i]? =some d->d.1≠x.2) (λ(s:Int×Ag)=>((x.1.2.2.2.2.2.2.2.length:Int)-s.1).toNat) h (λs j=>?_);have⟨c,m,f,g⟩:=j;unfold M4;refine AC (λa=>?_) (λa=>AB (.inr ⟨_,rfl,λd b=>?_⟩));simp[len]at a;refine AA (AI c a) λv o=>?_;apply AP<;>intro n;grind[AA,AI,AB,Option.some.inj];have e:=AY (x:=s.1+1);refine AB ⟨⟨d!,d!,f,λi d k b=>?_⟩,d!⟩;dsimp only at k;by_cases l:(i:Int)<s.1;exact g i d l b;have:i=s.1.toNat:=o!
 grind[Option.some.inj];grind[List.getElem?_of_mem,Nat.lt_or_ge,List.getElem?_eq_none]
def Je{x:AT×Int}(h:SB x.1):Ap (Eu x) λr=>(r.2=true->r.1∈x.1.2.2.2.2.2.2.2/\r.1.1=x.2)/\(r.2=false-> ∀d∈x.1.2.2.2.2.2.2.2,d.1≠x.2):=by unfold Eu;refine AA (YD ⟨o!,d!,h.2.2,λi d a=>absurd a d!⟩) λv b=>?_;grind[BK,AB,A7]
def YE{x:AT}{s:Int}(h:0<=s/\s<=x.2.2.2.2.2.1.length/\(x.2.2.2.2.2.1.length:Int)<=16777216):Ap (Ai (M5 x) s) λr=>r≠ .inl true:=by
 refine AW (λ(s:Int)=>0<=s/\s<=x.2.2.2.2.2.1.length/\(x.2.2.2.2.2.1.length:Int)<=16777216) (λ(s:Int)=>((x.2.2.2.2.2.1.length:Int)-s).toNat) h (λs b=>?_);unfold M5;repeat' with_reducible first|intro a|apply AC|apply AK|apply AB|(refine AM ?_ (AI ?_ ?_);rintro r ⟨hr,c⟩)
 all_goals exact l!
def YF{x:AT}{s:Int}(h:0<=s/\s<=x.2.2.2.1.2.1.length/\(x.2.2.2.1.2.1.length:Int)<=16777216/\SB x):Ap (Ai (M6 x) s) λr=>r≠ .inl true:=by
 refine AW (λ(s:Int)=>0<=s/\s<=x.2.2.2.1.2.1.length/\(x.2.2.2.1.2.1.length:Int)<=16777216/\SB x) (λ(s:Int)=>((x.2.2.2.1.2.1.length:Int)-s).toNat) h (λs b=>?_);unfold M6;repeat' with_reducible first|intro a|apply AC|apply AK|apply AB|(refine AM ?_ (Je ?_);intro r hr)|(refine AM ?_ (AI ?_ ?_);rintro r ⟨hr,c⟩)
 all_goals exact l!
def YG{x:AT}{s:Int}(h:0<=s/\s<=x.2.2.2.2.1.1.length/\(x.2.2.2.2.1.1.length:Int)<=16777216):Ap (Ai (M7 x) s) λr=>r≠ .inl true:=by
 refine AW (λ(s:Int)=>0<=s/\s<=x.2.2.2.2.1.1.length/\(x.2.2.2.2.1.1.length:Int)<=16777216) (λ(s:Int)=>((x.2.2.2.2.1.1.length:Int)-s).toNat) h (λs b=>?_);unfold M7;repeat' with_reducible first|intro a|apply AC|apply AK|apply AB|(refine AM ?_ (AI ?_ ?_);rintro r ⟨hr,c⟩)
 all_goals exact l!
def YH{x:AT}{s:Int}(h:0<=s/\s<=x.2.2.2.2.1.2.length/\(x.2.2.2.2.1.2.length:Int)<=16777216):Ap (Ai (M8 x) s) λr=>r≠ .inl true:=by
 refine AW (λ(s:Int)=>0<=s/\s<=x.2.2.2.2.1.2.length/\(x.2.2.2.2.1.2.length:Int)<=16777216) (λ(s:Int)=>((x.2.2.2.2.1.2.length:Int)-s).toNat) h (λs b=>?_);unfold M8;repeat' with_reducible first|intro a|apply AC|apply AK|apply AB|(refine AM ?_ (AI ?_ ?_);rintro r ⟨hr,c⟩)
 all_goals exact l!
def B9{x:AT}(h:SB x):Ap (Bh x) λr=>r=true->VK x:=by
 unfold Bh;repeat' with_reducible first|intro a|apply AO|apply AK|(apply BK;try dsimp only)|(apply A7;try dsimp only)|(apply BB<;>(intro u b;try subst b))|apply AB|(refine AM ?_ (cV ?_);intro r hr)|(refine AM ?_ (YE ?_);intro r hr)|(refine AM ?_ (YF ?_);intro r hr)|(refine AM ?_ (YG ?_);intro r hr)|(refine AM ?_ (YH ?_);intro r hr)
 all_goals ((try dsimp[len]at*);(try first|omega|assumption|grind[SB,VK,GI,O9]))
def Yx{x:List Al×Int}{s:Int}(h:0<=s/\s<=x.1.length/\(x.1.length:Int)<=16777216):Ap (Ai (Jc x) s) λr=> ∀u,r= .inl u->0<=u/\u<x.1.length/\ ∃t,x.1[u.toNat]? =some t/\t.1=x.2:=by
 refine AW (λ(s:Int)=>0<=s/\s<=x.1.length/\(x.1.length:Int)<=16777216) (λ(s:Int)=>((x.1.length:Int)-s).toNat) h (λs b=>?_);unfold Jc;repeat' with_reducible first|intro a|apply AC|apply AP|apply AK|apply AB|(refine AM ?_ (AI ?_ ?_);rintro r ⟨hr,c⟩)
 all_goals exact l!
def Hu{x:List Al×Int}(h:x.1.length<=16777216):Ap (Ef x) λr=> -1<=r/\r<x.1.length/\(0<=r-> ∃t,x.1[r.toNat]? =some t/\t.1=x.2):=by
 unfold Ef;repeat' with_reducible first|(apply BK;try dsimp only)|(apply A7;try dsimp only)|(apply BB<;>(intro u a;try subst a))|apply AB|(refine AM ?_ (Yx ?_);intro r hr)
 all_goals exact l!
def Fi{x:List Al×Int}(h:x.1.length<=16777216):Ap (CY x) λr=> -1<=r/\r<x.1.length/\(0<=r-> ∃t,x.1[r.toNat]? =some t/\t.1=x.2):=by
 unfold CY;repeat' with_reducible first|apply AB|(refine AM ?_ (Hu ?_);intro r hr)
 all_goals exact l!
def lj(p:Bs)(id:Int):Prop:= ∃(i:Nat) (f:BE),p.2.1[i]? =some f/\f.1.1=id
def Yw{x:Bs×Int}{s:Int}(h:0<=s/\s<=x.1.2.1.length/\(x.1.2.1.length:Int)<=16777216/\ ∀(i:Nat) (f:BE),i<s->x.1.2.1[i]? =some f->f.1.1≠x.2):Ap (Ai (Ny x) s) λr=>(∃u,r= .inl u/\0<=u/\u<x.1.2.1.length/\ ∃f,x.1.2.1[u.toNat]? =some f/\f.1.1=x.2)\/(r= .inr ()/\ ¬lj x.1 x.2):=by
 refine AW (λ(s:Int)=>0<=s/\s<=x.1.2.1.length/\(x.1.2.1.length:Int)<=16777216/\ ∀(i:Nat) (f:BE),i<s->x.1.2.1[i]? =some f->f.1.1≠x.2) (λ(s:Int)=>((x.1.2.1.length:Int)-s).toNat) h (λs b=>?_);unfold Ny;repeat' with_reducible first|intro a|apply AC|apply AP|apply AK|apply AB|(refine AM ?_ (AI ?_ ?_);rintro r ⟨hr,c⟩)
 all_goals try (have e:=AY (x:=s+1))
 all_goals first|omega|grind[lj]
def Gb{x:Bs×Int}(h:x.1.2.1.length<=16777216):Ap (FX x) λr=> -1<=r/\r<x.1.2.1.length/\(0<=r-> ∃f,x.1.2.1[r.toNat]? =some f/\f.1.1=x.2)/\(r<0-> ¬lj x.1 x.2):=by refine AA (Yw (by refine⟨o!,o!,o!,λi f a=>absurd a o!⟩)) λs b=>?_;grind[BK,AB,A7]
def Fh{x:Bs×Int}:Ap (EG x) λr=> -1<=r/\r<x.1.2.1.length/\(0<=r->O9 x.1/\ ∃f,x.1.2.1[r.toNat]? =some f/\f.1.1=x.2)/\(O9 x.1->lj x.1 x.2->0<=r):=by
 unfold EG;repeat' with_reducible first|intro b|apply AO|apply AK|apply AB|(apply AA (ER);intro r hr)|(refine AM ?_ (Gb ?_);intro r hr)
 all_goals first|omega|(have a:O9 x.1:=k!;have:=a.1;have:=a.2.1;have:=a.2.2.1;omega)|grind
def Ic{x:Bs×Int}:Ap (Fw x) λr=>(r.2=true->O9 x.1/\GA r.1/\lj x.1 x.2/\r.1.1=x.2/\ ∃f∈x.1.2.1,f.1=r.1)/\(r.2=false->O9 x.1-> ¬lj x.1 x.2):=by
 unfold Fw;repeat' with_reducible first|intro a|apply AC|apply AK|apply AB|(apply AA (Fh);intro r hr)|(refine AM ?_ (AI ?_ ?_);rintro r ⟨hr,b⟩)
 all_goals first|omega|(simp;grind)|grind[O9,J0,nN,lj]
theorem Dj.last{x:Ae}(h:Dj x):wi (wi (x.1+len x.2.1)-1)=x.1+x.2.1.length-1:=by have⟨a,b,c,d,e,f⟩:=h;grind[AY]
def Dj.at{x:Ae}{n:Int}{e:AE}(h:Dj x)(a:x.1<=n)(b:n<=x.1+x.2.1.length-1)(c:x.2.1[(wi (n-x.1)).toNat]? =some e):Lc e/\e.1=n:=by have⟨a1,a2,a3,a4,a5,a6⟩:=h;grind[AY]
theorem Dj.append{x:Ae}{e:AE}{l:List AE}(h:Dj x)(b:x.2.1.length≠4096)(d:Lc e)(c:e.1=x.1+x.2.1.length)(a:l=x.2.1++[e]):Dj (x.1,l,x.2.2):=by have⟨a1,a2,a3,a4,a5,a6⟩:=h;subst a;refine⟨a1,a2,w!,a4,w!,λi f g=>?_⟩;grind[Nat.lt_or_ge,List.getElem?_append_right,List.getElem?_eq_none]
def Dj.force{x:Ae}{n:Int}(h:Dj x)(a:n<=x.1+x.2.1.length-1):Dj (x.1,x.2.1,if n>x.2.2 then n else x.2.2):=by have⟨a1,a2,a3,a4,a5,a6⟩:=h;refine⟨a1,a2,a3,?_,?_,a6⟩<;>(dsimp only;split<;>omega)
def EA{x:Ae}:Ap (Dl x) λr=>Dj x->r=x.1+x.2.1.length-1:=by
 unfold Dl;repeat' with_reducible first|intro a|apply AO|apply AK|apply AB|(apply AA (Bg);intro r hr)|(apply AA (Ed);intro r hr)
 all_goals ((try dsimp[len]at*);(try first|omega|assumption|grind[Dj.last]))
def Ja{x:Ae×Int}:Ap (EM x) λr=>(r.2=0->Dj r.1/\r.1.2.1=x.1.2.1/\r.1.1=x.1.1/\x.1.2.2<=r.1.2.2/\x.2<=r.1.2.2):=by
 unfold EM;repeat' with_reducible first|apply AC<;>intro a|apply AO<;>intro a|apply AK<;>intro a|apply AB|(apply AA (Bg);intro r hr)|(apply AA (Ed);intro r hr)
 all_goals try (intro _;have b:Dj x.1:=k!
                have c:=b.last;exact⟨b.force o!,rfl,rfl,by dsimp only;split<;>omega,by dsimp only;split<;>omega⟩)
 all_goals exact l!
theorem Gy{x:Ae×Int}:Ap (E4 x) λr=>(r.2=0->Lc r.1/\r.1.1=x.2/\x.1.2.1[(x.2-x.1.1).toNat]? =some r.1/\x.1.1<=x.2)/\(Dj x.1->x.1.1<=x.2->x.2<=x.1.1+x.1.2.1.length-1->r.2=0):=by
 unfold E4;repeat' with_reducible first|intro c|apply AC|apply AO|apply AK|apply AB|(apply AA (Bg);intro r hr)|(apply AA (Ed);intro r hr)|(refine AM ?_ (AI ?_ ?_);rintro r ⟨hr,f⟩)
 all_goals try (have a:Dj x.1:=k!)
 all_goals try (have e:=a.last;have:=a.1;have:=a.2.1;have:=a.2.2.1)
 all_goals try (have d:wi (x.2-x.1.1)=x.2-x.1.1:=AY)
 all_goals try (have b:=a.at (n:=x.2) o! o! hr;rw[d]at hr;exact⟨λ_=>⟨b.1,b.2,hr,o!⟩,λ_ _ _=>rfl⟩)
 all_goals exact l!
def aB{x:Ae×AE}:Ap (J7 x) λr=>(r.2.2=0->Dj r.1/\Dj x.1/\r.1.2.1=x.1.2.1++[(r.2.1,x.2.2)]/\r.1.1=x.1.1/\r.2.1=x.1.1+x.1.2.1.length/\r.1.2.2=x.1.2.2):=by
 unfold J7;repeat' with_reducible first|intro b|apply AO|apply AP|apply AK|apply AB|(apply AA (Bg);intro r hr)|(apply AA (Ed);intro r hr)|(apply AA (CV);intro r hr)|(refine AM ?_ (Ac ?_);rintro r ⟨hr,c,d⟩)
 all_goals try (have a:Dj x.1:=k!)
 all_goals try (have c:=a.last;have:=a.1;have:=a.2.1;have:=a.2.2.1)
 all_goals ((try dsimp[len]at*);(try first|omega|assumption|grind[AY,Dj.append]))
def CL{x:AE}:Ap (BH x) λr=>r=true↔x.2.1=1\/x.2.1=2:=by
 unfold BH;repeat' with_reducible first|intro a|apply AP|apply AK|apply AB
 all_goals exact l!
end Go.Pm
namespace Go.Pm
open Go Go.Ab
set_option maxHeartbeats 400000
def qL(n:Int):0<=IntKind.wrap .u64 n:=by rw[Wl];omega
theorem L5(l:List Int):(Es l).length=l.length:=by simp[Es]
def Z3{x:BT×Int×Int}{s:BT×Int}(h:0<=s.2/\s.2<=x.2.2/\x.2.2<=8/\(s.1.length:Int)=x.1.length+s.2/\x.1.length<=1099511627776):Ap (Ai (GY x) s) λr=>(r.length:Int)=x.1.length+x.2.2:=by
 refine AW (λ(s:BT×Int)=>0<=s.2/\s.2<=x.2.2/\x.2.2<=8/\(s.1.length:Int)=x.1.length+s.2/\x.1.length<=1099511627776) (λ(s:BT×Int)=>(x.2.2-s.2).toNat) h (λs b=>?_);unfold GY;repeat' with_reducible first|intro a|apply AC|apply AK|apply AB|apply Z1|(refine AM ?_ (CC ?_);rintro r ⟨hr,c⟩)
 all_goals try (have d:=qL (wi (8*s.2));omega)
 all_goals ((try dsimp[len]at*);(try first|omega|assumption|grind[AY,L5]))
def DW{x:BT×Int×Int}(h:x.1.length<=1099511627776):Ap (Ak x) λr=>(1<=x.2.2->x.2.2<=8->(r.length:Int)=x.1.length+x.2.2)/\r.length<=x.1.length+8:=by
 unfold Ak;repeat' with_reducible first|intro a|apply AC|apply AK|apply AB|(refine AM ?_ (Z3 ?_);intro r hr)
 all_goals exact l!
def AAG{n:Int}(h:n<=4):(2:Int)^(8*n.toNat)<=4294967296:=by
 have:n.toNat=0\/n.toNat=1\/n.toNat=2\/n.toNat=3\/n.toNat=4:=o!
 rcases this with h|h|h|h|h<;>rw[h]<;>decide
def AEj{n:Int}(h:n<=2):(2:Int)^(8*n.toNat)<=65536:=by
 have:n.toNat=0\/n.toNat=1\/n.toNat=2:=o!
 rcases this with h|h|h<;>rw[h]<;>decide
def ACs{a b:Int}{k:Nat}(e:0<=a)(c:a<2^k)(f:0<=b)(d:b<2^k)(g:k<=64):(0:Int)<=((BitVec.toNat (BitVec.ofInt 64 a|||BitVec.ofInt 64 b):Nat):Int)/\((BitVec.toNat (BitVec.ofInt 64 a|||BitVec.ofInt 64 b):Nat):Int)<2^k:=by
 refine⟨o!,?_⟩;obtain⟨n,rfl⟩:=D6 e;obtain⟨m,rfl⟩:=D6 f;have hn:n<2^k:=by exact_mod_cast c
 have h:m<2^k:=by exact_mod_cast d
 have i:2^k<=2^64:=dO g! g;rw[BitVec.toNat_or];simp[ai,aj];rw[Sm o!,Sm o!];exact_mod_cast Nat.or_lt_two_pow hn h
def w6{a v i:Int}(d:0≤i)(e:i<8)(c:0≤a)(b:a<2^(8*i.toNat))(g:0≤v)(h:v<256):
  0<=IntKind.wrap .u64 (((BitVec.toNat ((BitVec.ofInt 64 a)|||(BitVec.ofInt 64 (IntKind.wrap .u64 ((IntKind.wrap .u64 v)*(2^(min (Int.toNat (IntKind.wrap .u64 (wi (8*i)))) 64))))))):Nat):Int)/\
  IntKind.wrap .u64 (((BitVec.toNat ((BitVec.ofInt 64 a)|||(BitVec.ofInt 64 (IntKind.wrap .u64 ((IntKind.wrap .u64 v)*(2^(min (Int.toNat (IntKind.wrap .u64 (wi (8*i)))) 64))))))):Nat):Int)<2^(8*(wi (i+1)).toNat):=by
 rw[(AY),(AY),(by rw[Wl];omega:IntKind.wrap .u64 (8*i)=8*i),(by rw[Wl];omega:IntKind.wrap .u64 v=v)];obtain⟨n,rfl⟩:=D6 d;obtain⟨m,rfl⟩:=D6 g;rw[(by omega:min (8*(n:Int)).toNat 64=8*n)];rw[(by omega:((n:Int)+1).toNat=n+1)];rw[(by omega:((n:Int)).toNat=n)]at b;have f:(m:Int)*2^(8*n)<2^(8*(n+1)):=by
  have:(m*2^(8*n):Nat)<2^(8*(n+1)):=by rw[(by grind[Nat.mul_add,Nat.pow_add]:2^(8*(n+1))=256*2^(8*n))];exact Nat.mul_lt_mul_of_pos_right o! (Nat.pow_pos g!)
  exact_mod_cast this
 have l:(2:Int)^(8*(n+1))<=2^64:=by have:(2^(8*(n+1)):Nat)<=2^64:=dO g! o!;exact_mod_cast this
 have j:(0:Int)<=(m:Int)*2^(8*n):=by
  have:(0:Int)<=((m*2^(8*n):Nat):Int):=o!
  exact_mod_cast this
 rw[(by rw[Wl];omega:IntKind.wrap .u64 ((m:Int)*2^(8*n))=(m:Int)*2^(8*n))];have⟨q1,q2⟩:=ACs (k:=8*(n+1)) c (by grind[Nat.pow_le_pow_right]) j f o!;grind[BitVec.toNat,Wl]
def Z2{x:BT×Int×Int}{s:Int×Int}(h:0<=s.2/\s.2<=x.2.2/\x.2.2<=8/\0<=x.2.1/\x.2.1+x.2.2<=x.1.length/\x.1.length<=1099511627776/\0<=s.1/\s.1<2^(8*s.2.toNat)):Ap (Ai (GX x) s) λr=>0<=r/\r<2^(8*x.2.2.toNat):=by
 refine AW (λ(s:Int×Int)=>0<=s.2/\s.2<=x.2.2/\x.2.2<=8/\0<=x.2.1/\x.2.1+x.2.2<=x.1.length/\x.1.length<=1099511627776/\0<=s.1/\s.1<2^(8*s.2.toNat)) (λ(s:Int×Int)=>(x.2.2-s.2).toNat) h (λs n=>?_);unfold GX;have⟨d,q,f,g,j,k,l,m⟩:=n;repeat' with_reducible first|intro o|apply AC|apply AK|apply AB|apply Z1|(refine AM ?_ (Q2 ?_ ?_);rintro r ⟨hr,p⟩)
 all_goals try (have t:=qL (wi (8*s.2));omega)
 all_goals (first|(have⟨b,c⟩:=w6 (a:=s.1) (v:=r) (i:=s.2) d o! l m hr p;have e:=AY (x:=s.2+1);exact⟨⟨o!,o!,f,g,j,k,b,c⟩,d!⟩)|skip)
 all_goals exact l!
def Ci{x:BT×Int×Int}(h:x.1.length<=1099511627776):Ap (Ay x) λr=>r.2=0->0<=x.2.1/\x.2.1+x.2.2<=x.1.length/\(x.2.2<=4->0<=r.1/\r.1<4294967296)/\(x.2.2<=2->r.1<65536):=by
 unfold Ay;repeat' with_reducible first|apply AC<;>intro c|apply AK<;>intro c|apply AB|(refine AM ?_ (Z2 ?_);intro r hr)
 all_goals dsimp[len]at*
 all_goals first
  |omega
  |(intro d;exact absurd d g!)
  |(have e:=AY (x:=(x.1.length:Int)-x.2.1);exact⟨o!,o!,o!,o!,o!,h,o!,q!⟩)
  |(intro _;have e:=AY (x:=(x.1.length:Int)-x.2.1);refine⟨o!,o!,λb=>?_,λa=>?_⟩;(have:=AAG b;rw[AY];omega);(have:=AEj a;rw[AY];omega))
def Z5  {s:Int×Int}(h:0<=s.2/\s.2<=8):Ap (Ai (Hp) s) λr=>True:=by
 refine AW (λ(s:Int×Int)=>0<=s.2/\s.2<=8) (λ(s:Int×Int)=>(8-s.2).toNat) h (λs b=>?_);unfold Hp;repeat' with_reducible first|intro a|apply AC|apply AP|apply AK|(apply BA;try dsimp only)|apply BZ|apply Bx|apply AB
 all_goals exact l!
def Z4{x:BT}{s:Int×Int}(h:0<=s.2/\s.2<=x.length/\x.length<=1099511627776):Ap (Ai (Ho x) s) λr=>True:=by
 refine AW (λ(s:Int×Int)=>0<=s.2/\s.2<=x.length/\x.length<=1099511627776) (λ(s:Int×Int)=>((x.length:Int)-s.2).toNat) h (λs b=>?_);unfold Ho;repeat' with_reducible first|intro a|apply AC|apply AK|apply AB|(refine AM ?_ (Z5 ?_);intro r hr)|(refine AM ?_ (Q2 ?_ ?_);rintro r ⟨hr,c⟩)
 all_goals exact l!
def Pg{x:BT}(h:x.length<=1099511627776):Ap (E2 x) λr=>True:=by
 unfold E2;repeat' with_reducible first|apply AB|(refine AM ?_ (Z4 ?_);intro r hr)
 all_goals exact l!
theorem TR{x:BT}:Ap (DU x) λr=>r.length<=8408:=by
 unfold DU;repeat' with_reducible first|intro a|apply AC|apply AK|apply AB|(refine AM ?_ (DW ?_);intro r hr)|(refine AM ?_ (Pg ?_);intro r hr)|(refine AM ?_ (CC ?_);rintro r ⟨hr,b⟩)
 all_goals dsimp[len]at*
 all_goals exact l!
theorem RK{x:BT×Int}(h:x.1.length<=1099511627776):Ap (CQ x) λr=>r.2.2=0->r.1.length<=8392/\x.2+8+r.1.length=r.2.1/\0<=x.2/\r.2.1<=x.1.length:=by
 unfold CQ;repeat' with_reducible first|intro a|apply AC|apply AL|apply AK|apply AB|(refine AM ?_ (Ci ?_);intro r hr)|(refine AM ?_ (Pg ?_);intro r hr)|(refine AM ?_ (B8 ?_ ?_ ?_);rintro r ⟨hr,b⟩)
 all_goals dsimp[len]at*
 all_goals exact l!
def eZ{x:BT×Ce}(h:x.1.length<=1099511627776)(b:x.2.2.length<=16777216):Ap (GK x) λr=>r.length<=x.1.length+8+x.2.2.length:=by
 unfold GK;repeat' with_reducible first|intro a|apply AO|apply AK|apply AB|(refine AM ?_ (DW ?_);intro r hr)|(refine AM ?_ (CC ?_);rintro r ⟨hr,c⟩)
 all_goals exact l!
def Ut.lens{x:AE}(h:Ut x):x.2.2.2.2.2.2.1.2.2.1.2.length<=12/\x.2.2.2.2.2.2.1.2.2.2.2.length<=12/\x.2.2.2.2.2.2.2.length<=8192:=by grind[Ut,OR,Fo,Pt]
theorem Z9{x:AE}:Ap (Ff x) λr=>r.1.length<=8400:=by
 unfold Ff;repeat' with_reducible first|intro a|apply AO|apply AK|apply AB|(apply AA (CV);intro r hr)|(refine AM ?_ (DW ?_);intro r hr)|(refine AM ?_ (eZ ?_ ?_);intro r hr)|(refine AM ?_ (CC ?_);rintro r ⟨hr,b⟩)
 all_goals try (have c:=(Ut.lens (x:=x) (by unfold Lc at*;grind)))
 all_goals exact l!
def AEd(k:Nat):(0:Int)<256^k:=by have:0<256^k:=Nat.pow_pos g!;grind
def AHR(b k:Nat):(b:Int)*256^k=((b*256^k:Nat):Int):=k!
def C6(n:Int):Nat->BT
 |0=>[]
 |k+1=>UInt8.ofNat (n%256).toNat::C6 (n/256) k
def mz:BT->Nat
 |[]=>0
 |b::r=>b.toNat+256*mz r
theorem A2: ∀(k:Nat) (n:Int),(C6 n k).length=k
 |0,n=>rfl
 |k+1,n=>by rw[C6,Bd,A2 k]
theorem rq: ∀l:BT,mz l<256^l.length
 |[]=>by simp[mz]
 |b::r=>by have a:=rq r;have c:=b.toNat_lt;grind[mz,List.length_cons,Nat.pow_succ]
def AAE: ∀l:BT,C6 (mz l:Int) l.length=l
 |[]=>rfl
 |b::r=>by have a:=b.toNat_lt;rw[Bd,C6,(by rw[mz];omega:((mz (b::r):Nat):Int)/256=(mz r:Int)),(by rw[mz];omega:(((mz (b::r):Nat):Int)%256).toNat=b.toNat),AAE r];simp
def uM: ∀(k:Nat) (n m:Int),n%256^k=m%256^k->C6 n k=C6 m k
 |0,_,_,_=>rfl
 |k+1,n,m,h=>by
  have e:(256:Int)^(k+1)=256^k*256:=Int.pow_succ ..;have b:n%256=m%256:=by have a:n%256^(k+1)%256=n%256:=Int.emod_emod_of_dvd n ⟨256^k,by rw[e,Int.mul_comm]⟩;simp_all
  have c:n/256%256^k=m/256%256^k:=by
   have g: ∀x:Int,x/256%256^k=x%256^(k+1)/256:=λx=>by have d:=nS (x/256) (256^k);have f:=nS x (256*256^k);grind[Int.ediv_ediv_of_nonneg]
   grind
  rw[C6,C6,b,uM k _ _ c]
def rp: ∀(k:Nat) (n:Int),C6 n (k+1)=C6 n k++[UInt8.ofNat (n/256^k%256).toNat]
 |0,n=>by simp[C6]
 |k+1,n=>by rw[C6,rp k (n/256),C6];grind[Int.pow_succ,Int.mul_comm,Int.ediv_ediv_of_nonneg]
def qE: ∀(k:Nat) (n:Int),((mz (C6 n k):Nat):Int)=n%256^k
 |0,n=>by simp[C6,mz]
 |k+1,n=>by
  rw[C6,mz];have b:(UInt8.ofNat (n%256).toNat).toNat=(n%256).toNat:=by grind[UInt8.toNat_ofNat']
  have c:=qE k (n/256);have a:=nS (n/256) (256^k);grind[Int.mul_ediv_add_emod,Int.ediv_ediv_of_nonneg]
theorem sA: ∀(l:BT) (b:UInt8),mz (l++[b])=mz l+b.toNat*256^l.length
 |[],b=>by simp[mz]
 |a::r,b=>by rw[Dr,mz,sA r b,mz,Bd,Nat.pow_succ,Nat.mul_add];grind
def ae(k:Nat)(n:Int):Prop:=(k<=7->0<=n/\n<256^k)/\ -9223372036854775808<=n/\n<=9223372036854775807
theorem XF{k:Nat}(f:k<=8){n m:Int}(hn:ae k n)(d:ae k m)(h:C6 n k=C6 m k):n=m:=by
 have e:=qE k n;rw[h,qE k m]at e;by_cases c:k<=7;have a:=hn.1 c;have b:=d.1 c;grind[Int.emod_eq_of_lt];have:k=8:=o!
 have a:=hn.2;have b:=d.2;grind
def rd(l:BT):Int:=wi (mz l:Int)
def AHS{k:Nat}(h:k<=7):(256:Int)^k<=72057594037927936:=by
 have:k=0\/k=1\/k=2\/k=3\/k=4\/k=5\/k=6\/k=7:=o!
 grind
theorem zB{l:BT}(h:l.length<=8):ae l.length (rd l):=by have b:=rq l;have d:rd l=((mz l:Int)+9223372036854775808)%18446744073709551616-9223372036854775808:=ADY _;refine⟨λa=>?_,o!⟩;have c:=AHS a;grind
theorem vX{l:BT}(h:l.length<=8):C6 (rd l) l.length=l:=by
 rw[show C6 (rd l) l.length=C6 (mz l:Int) l.length from ?_,AAE];apply uM;by_cases a:l.length<=7;have c:=AHS a;have b:(mz l:Int)<256^l.length:=by grind[rq]
 have:rd l=(mz l:Int):=by unfold rd;exact AY
 rw[this];have:l.length=8:=o!
 rw[this,show(256:Int)^8=18446744073709551616 by decide];unfold rd;rw[ADY];omega
theorem og{k:Nat}{n:Int}(a:k<=8)(h:ae k n):rd (C6 n k)=n:=by grind[A2,XF,zB,C6,vX]
def y8(k:Nat):(2:Int)^(8*k)=256^k:=by grind[Int.pow_mul]
def AC4{n:Int}{i:Int}(c:0<=i)(d:i<8):Es ([IntKind.wrap .u8 (Int.fdiv (IntKind.wrap .u64 n) (2^(min (Int.toNat (IntKind.wrap .u64 (wi (8*i)))) 64)))]:List Int)=[UInt8.ofNat (n/256^i.toNat%256).toNat]:=by
 have a:wi (8*i)=8*i:=AY;have b:IntKind.wrap .u64 (8*i)=8*i:=by rw[Wl];omega
 rw[a,b,show min (8*i).toNat 64=8*i.toNat by omega,y8];have e:=AEd i.toNat
 rw[jI _ o!,Wl,AFE];have:n%18446744073709551616/256^i.toNat%256=n/256^i.toNat%256:=by
  have:i.toNat=0\/i.toNat=1\/i.toNat=2\/i.toNat=3\/i.toNat=4\/i.toNat=5\/i.toNat=6\/i.toNat=7:=o!
  rcases this with h|h|h|h|h|h|h|h<;>rw[h];rw[show(256:Int)^0=1 by decide];omega;rw[show(256:Int)^1=256 by decide];omega;rw[show(256:Int)^2=65536 by decide];omega;rw[show(256:Int)^3=16777216 by decide];omega;rw[show(256:Int)^4=4294967296 by decide];omega;rw[show(256:Int)^5=1099511627776 by decide];omega;rw[show(256:Int)^6=281474976710656 by decide];omega;rw[show(256:Int)^7=72057594037927936 by decide];omega
 rw[this];rfl
theorem Hd{s:BT}{n:Int}{k:Int}(h:s.length<=1099511627776)(i:1<=k)(j:k<=8):Ak (s,(n,k))=some (s++C6 n k.toNat):=by
 have key:Ap (Ai (GY (s,(n,k))) (s,0)) λr=>r=s++C6 n k.toNat:=by refine AW (λ(t:BT×Int)=>0<=t.2/\t.2<=k/\t.1=s++C6 n t.2.toNat) (λt=>(k-t.2).toNat) ⟨Af _,d!,by simp[C6]⟩ ?_;rintro⟨l,a⟩ ⟨b,g,c⟩;dsimp only at b g c;subst c;unfold GY;dsimp only;refine AC (λd=>?_) (λd=>AB (by rw[show a=k by omega]));refine AC (λe=>absurd e (by have:=qL (wi (8*a));omega)) (λ_=>?_);rw[AC4 b o!];refine AA (CC (by rw[Aa,A2];simp;omega)) λv f=>AB ?_;rw[(AY)];refine⟨⟨o!,o!,?_⟩,o!⟩;rw[f.1,show(a+1).toNat=a.toNat+1 by omega,rp,Ax]
 obtain⟨r,hr,rfl⟩:=key;unfold Ak;grind
def xq{a t:BT}{i:Int}(c:0<=i)(d:i<t.length)(e:(a.length:Int)<=2199023255552)(f:(t.length:Int)<=2199023255552): ∃b:UInt8,six (a++t) (wi ((a.length:Int)+i))=some (b.toNat:Int)/\t.take (i+1).toNat=t.take i.toNat++[b]:=by obtain⟨k,rfl⟩:=D6 c;refine⟨t[k],?_,?_⟩;grind[AY,six];simp_all
theorem AGP{a b k:Nat}(h:a<256^k)(f:b<256)(g:k<8):BitVec.toNat (BitVec.ofInt 64 (a:Int)|||BitVec.ofInt 64 ((b:Int)*256^k))=a+b*256^k:=by
 have e:(256:Nat)^k=2^(8*k):=by rw[Nat.pow_mul]
 have d:a+b*256^k<256^(k+1):=by
  have:b*256^k+256^k<=256*256^k:=by rw[<-Nat.succ_mul];exact OZ _ o!
  omega
 have c:(256:Nat)^(k+1)<=2^64:=by rw[show(2:Nat)^64=256^8 by decide];exact dO g! o!
 rw[AHR];rw[BitVec.toNat_or,ai,ai,aj,aj,Sm o!,Sm o!];grind[Nat.mul_comm,Nat.two_pow_add_eq_or_of_lt]
theorem zw{a:Nat}{b:UInt8}{i:Int}(g:0<=i)(h:i<8)(k:a<256^i.toNat)(j:Int)(d:j=8*i):IntKind.wrap .u64 (((BitVec.toNat ((BitVec.ofInt 64 (a:Int))|||(BitVec.ofInt 64 (IntKind.wrap .u64 ((IntKind.wrap .u64 (b.toNat:Int))*(2^(min (Int.toNat j) 64))))))):Nat):Int)=((a+b.toNat*256^i.toNat:Nat):Int):=by
 have l:=b.toNat_lt;have c:(256:Nat)^(i.toNat+1)<=2^64:=by rw[show(2:Nat)^64=256^8 by decide];exact dO g! o!
 have e:a+b.toNat*256^i.toNat<256^(i.toNat+1):=by
  have:b.toNat*256^i.toNat+256^i.toNat<=256*256^i.toNat:=by rw[<-Nat.succ_mul];exact OZ _ o!
  omega
 rw[d,(by rw[Wl];omega:IntKind.wrap .u64 (b.toNat:Int)=b.toNat),show min (8*i).toNat 64=8*i.toNat by omega,y8];have f:IntKind.wrap .u64 ((b.toNat:Int)*256^i.toNat)=(b.toNat:Int)*256^i.toNat:=by rw[Wl,AHR];omega
 grind[AGP,Wl]
theorem gh{a t:BT}{k:Int}(h:(a.length:Int)+t.length<=2199023255552)(v:1<=k)(w:k<=8):Ay (a++t,((a.length:Int),k))=if k<=t.length then some (rd (t.take k.toNat),0)else some (0,5):=by
 unfold Ay;dsimp only;have d:len (a++t)=(a.length:Int)+t.length:=by unfold len;rw[List.length_append];omega
 rw[decide_eq_false o!,cond_false,decide_eq_false o!,cond_false,decide_eq_false o!,cond_false,decide_eq_false o!,cond_false];have q:wi (len (a++t)-(a.length:Int))=t.length:=by rw[d,AY];omega
 by_cases g:k<=t.length;rw[decide_eq_false o!,cond_false,if_pos g];have key:Ap (Ai (GX (a++t,((a.length:Int),k))) (0,0)) λr=>r=(mz (t.take k.toNat):Int):=by
  refine AW (λ(s:Int×Int)=>0<=s.2/\s.2<=k/\s.1=(mz (t.take s.2.toNat):Int)) (λs=>(k-s.2).toNat) ⟨Af _,d!,by simp[mz]⟩ ?_;rintro⟨x,c⟩ ⟨f,u,l⟩;dsimp only at f u l;subst l;unfold GX;dsimp only;refine AC (λo=>?_) (λo=>AB (by rw[show c=k by omega]));obtain⟨b,q1,q2⟩:=xq (a:=a) (t:=t) (i:=c) f o! o! o!;rw[q1,AD];refine AC (λp=>absurd p (by have:=qL (wi (8*c));omega)) (λ_=>AB ?_);have e:wi (c+1)=c+1:=AY;have m:wi (8*c)=8*c:=AY;have n:IntKind.wrap .u64 (8*c)=8*c:=by rw[Wl];omega
  have j:(t.take c.toNat).length=c.toNat:=by rw[BQ];omega
  dsimp only;rw[e,zw f o! (by have:=rq (t.take c.toNat);rwa [j]at this) _ (by rw[m,n])];refine⟨⟨o!,o!,?_⟩,o!⟩;rw[q2,sA,j]
 obtain⟨r,hr,rfl⟩:=key;rw[hr];rfl;rw[decide_eq_true o!,cond_true,if_neg g]
theorem XG{a t:BT}{k:Int}(h:(a.length:Int)+t.length<=2199023255552)(p:1<=k)(q:k<=8):Bt (a++t,((a.length:Int),k))=if k<=t.length then some (rd (t.take k.toNat),0)else some (0,5):=by
 unfold Bt;dsimp only;have f:len (a++t)=(a.length:Int)+t.length:=k!
 rw[decide_eq_false o!,cond_false,decide_eq_false o!,cond_false,decide_eq_false o!,cond_false,decide_eq_false o!,cond_false];have m:wi (len (a++t)-(a.length:Int))=t.length:=by grind[AY]
 by_cases l:k<=t.length;rw[decide_eq_false o!,cond_false,if_pos l];have key:Ap (Ai (UK (a++t,((a.length:Int),k))) (0,0)) λr=>r=(mz (t.take k.toNat):Int):=by refine AW (λ(s:Int×Int)=>0<=s.2/\s.2<=k/\s.1=(mz (t.take s.2.toNat):Int)) (λs=>(k-s.2).toNat) ⟨Af _,d!,by simp[mz]⟩ ?_;rintro⟨u,c⟩ ⟨d,n,e⟩;dsimp only at d n e;subst e;unfold UK;dsimp only;refine AC (λg=>?_) (λg=>AB (by rw[show c=k by omega]));have⟨b,q1,q2⟩:=xq (a:=a) (t:=t) (i:=c) d o! o! o!;have o:wi (8*c)=8*c:=AY;rw[q1,AD];refine AC (λj=>absurd j o!) (λ_=>AB ?_);grind[AY,zw,rq,sA]
 obtain⟨r,hr,rfl⟩:=key;rw[hr];rfl;grind
def OG(x:BT×Int×Int):Option BT:=
 bif decide (x.1.length<=1099511627776)&&(decide (1<=x.2.2)&&decide (x.2.2<=8))then some (x.1++C6 x.2.1 x.2.2.toNat)else none
def KX(x:BT×Int):Option BT:=
 bif (x.1==[0])&&(decide (0<=x.2)&&decide (x.2<=8000))then some (List.replicate x.2.toNat 0)else none
def ABG(a b:AU):Bool:=(a.1==b.1)&&((a.2.1==b.2.1)&&(List.finRange 16).foldr (λi r=>((a.2.2 i).1==(b.2.2 i).1)&&(((a.2.2 i).2==(b.2.2 i).2)&&r)) true)
end Go.Pm
