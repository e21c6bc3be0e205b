/- Texts of wip, joined and shortened by wip/tools/pack.py; nothing is assumed. -/
import Derived.Test.YtimajmppopkomaaGreatK6
noncomputable section
set_option linter.all false
namespace Go.Pm
open Go Go.Ab
set_option maxHeartbeats 400000
def Ig(x:Cg):Prop:=x.2.length<=12/\(x.1=true\/x.2=[])
def OP(x:Dx):Prop:=0<=x.1/\x.1<64/\0<=x.2.1/\x.2.1<16/\Ig x.2.2.1/\Ig x.2.2.2
def KK{x:Cg}:Av (DT x) λr=>r=true↔Ig x:=by
 unfold DT Ig
 repeat' first
   |with_reducible apply AC<;>intro a
   |with_reducible apply AV<;>intro a
   |with_reducible apply AJ<;>intro a
   |(with_reducible apply A2;try dsimp only)
   |with_reducible apply BX
   |with_reducible apply Bl
   |with_reducible apply AB
 all_goals grind
def S9{x:Dx}:Av (Im x) λr=>r=true↔OP x:=by
 unfold Im OP
 repeat' first
   |with_reducible apply AC<;>intro a
   |with_reducible apply AJ<;>intro a
   |(with_reducible apply A2;try dsimp only)
   |with_reducible apply BX
   |with_reducible apply Bl
   |with_reducible apply AB
   |(with_reducible apply AA (KK);intro r hr)
 all_goals grind
def Pg:Dx:=(0,0,(false,[]),(false,[]))
def UX(x:AD):Prop:=
 (x.2.1=1/\x.2.2.2.2.2.1=0/\x.2.2.2.2.2.2.2=[]/\1<=x.2.2.1/\x.2.2.1<=1073741824/\OP x.2.2.2.2.2.2.1)\/
 (x.2.1=2/\0<x.2.2.2.1/\1<=x.2.2.2.2.2.1/\x.2.2.2.2.2.1<=x.2.2.2.1/\x.2.2.2.2.2.2.2=[]/\1<=x.2.2.1/\x.2.2.1<=1073741824/\OP x.2.2.2.2.2.2.1)\/
 ((x.2.1=3\/x.2.1=4\/x.2.1=5)/\0<x.2.2.2.1/\x.2.2.2.2.1=0/\x.2.2.2.2.2.1=0/\x.2.2.2.2.2.2.1=Pg/\x.2.2.2.2.2.2.2=[]/\1<=x.2.2.1/\x.2.2.1<=1073741824)\/
 ((x.2.1=6\/x.2.1=8)/\x.2.2.1=0/\x.2.2.2.1=0/\x.2.2.2.2.1=0/\x.2.2.2.2.2.1=0/\x.2.2.2.2.2.2.1=Pg/\x.2.2.2.2.2.2.2.length<=8192)\/
 (x.2.1=7/\x.2.2.1=0/\x.2.2.2.1=0/\x.2.2.2.2.1=0/\0<=x.2.2.2.2.2.2.1.1/\x.2.2.2.2.2.2.1.1<64/\x.2.2.2.2.2.2.1.2=Pg.2/\x.2.2.2.2.2.2.2=[])
def Lg(x:AD):Prop:=1<=x.1/\x.1<=1099511627776/\0<=x.2.2.2.1/\x.2.2.2.1<x.1/\0<=x.2.2.2.2.1/\x.2.2.2.2.1<x.1/\0<=x.2.2.2.2.2.1/\x.2.2.2.2.2.1<x.1/\UX x
def Ze{x:Int×Int}:Av (Gf x) λr=>r=true↔0<=x.1/\x.1<x.2:=by
 unfold Gf;repeat' with_reducible first|intro a|apply AC|apply AJ|apply AB
 all_goals grind
def bT{x:AD}:Av (LF x) λr=>(r.2=true/\r.1=x)↔UX x:=by
 obtain⟨a,b,c,d,e,f,⟨g,h,⟨i,j⟩,k,l⟩,m⟩:=x;unfold LF UX Pg;dsimp only
 repeat' first
   |with_reducible apply AC<;>intro n
   |with_reducible apply AV<;>intro n
   |with_reducible apply AJ<;>intro n
   |(with_reducible apply A2;try dsimp only)
   |with_reducible apply BX
   |with_reducible apply Bl
   |with_reducible apply AB
   |(with_reducible apply AA (S9);intro r hr)
 all_goals grind
def CM{x:AD}:Av (Ck x) λr=>r=true↔Lg x:=by
 unfold Ck;refine AA bT λn A=>?_;have e:((n.1.1==x.1)&&((n.1.2.1==x.2.1)&&((n.1.2.2.1==x.2.2.1)&&((n.1.2.2.2.1==x.2.2.2.1)&&((n.1.2.2.2.2.1==x.2.2.2.2.1)&&((n.1.2.2.2.2.2.1==x.2.2.2.2.2.1)&&((n.1.2.2.2.2.2.2.1.1==x.2.2.2.2.2.2.1.1)&&((n.1.2.2.2.2.2.2.1.2.1==x.2.2.2.2.2.2.1.2.1)&&((n.1.2.2.2.2.2.2.1.2.2.1.1==x.2.2.2.2.2.2.1.2.2.1.1)&&((n.1.2.2.2.2.2.2.1.2.2.1.2==x.2.2.2.2.2.2.1.2.2.1.2)&&((n.1.2.2.2.2.2.2.1.2.2.2.1==x.2.2.2.2.2.2.1.2.2.2.1)&&((n.1.2.2.2.2.2.2.1.2.2.2.2==x.2.2.2.2.2.2.1.2.2.2.2)&&((n.1.2.2.2.2.2.2.2==x.2.2.2.2.2.2.2)&&true)))))))))))))=true↔n.1=x:=by obtain⟨⟨a,b,c,d,e,f,⟨g,h,⟨i,j⟩,k,l⟩,m⟩,z⟩:=n;obtain⟨p,q,s,t,u,v,⟨w,y,⟨B,C⟩,D,E⟩,F⟩:=x;simp[and_assoc]
 generalize ((n.1.1==x.1)&&_)=bb at e⊢;unfold Lg
 repeat' first
   |with_reducible apply AC<;>intro o
   |with_reducible apply AV<;>intro o
   |with_reducible apply AJ<;>intro o
   |(with_reducible apply A2;try dsimp only)
   |with_reducible apply BX
   |with_reducible apply Bl
   |with_reducible apply AB
   |(with_reducible apply AA (Ze);intro r hr)
 all_goals grind
def Fk{x:Ah}:Av (Ci x) λr=>r=wi (wi (x.1+len x.2.1)-1):=by
 unfold Ci;repeat' with_reducible first|apply AB
 all_goals grind
def D8(x:Ah):Prop:=1<=x.1/\x.1<=1099511627776/\x.2.1.length<=4096/\x.1-1<=x.2.2/\x.2.2<=x.1+x.2.1.length-1/\ ∀(i:Nat) (e:AD),x.2.1[i]? =some e->e.1=x.1+i/\Lg e
def XN{x:Ah}{s:Int}(h:0<=s/\s<=x.2.1.length/\x.2.1.length<=4096/\1<=x.1/\x.1<=1099511627776/\ ∀(i:Nat) (e:AD),i<s->x.2.1[i]? =some e->e.1=x.1+i/\Lg e):Av (Af (Mw x) s) λr=>(r= .inl false/\ ¬D8 x)\/(r= .inr ()/\ ∀(i:Nat) (e:AD),x.2.1[i]? =some e->e.1=x.1+i/\Lg e):=by
 refine AS (λ(s:Int)=>0<=s/\s<=x.2.1.length/\x.2.1.length<=4096/\1<=x.1/\x.1<=1099511627776/\ ∀(i:Nat) (e:AD),i<s->x.2.1[i]? =some e->e.1=x.1+i/\Lg e) (λ(s:Int)=>((x.2.1.length:Int)-s).toNat) h (λs b=>?_);unfold Mw;obtain⟨c,d,f,g,j,k⟩:=b;repeat' with_reducible first|intro a|apply AC|apply AO|apply AL|apply AJ|apply AB|(apply AA (CM);intro r hr)|(refine AM ?_ (AI ?_ ?_);rintro r ⟨hr,l⟩)
 all_goals try (first|omega|grind[AZ,D8])
def Bn{x:Ah}:Av (B9 x) λr=>r=true↔D8 x:=by
 unfold B9;repeat' with_reducible first|intro a|apply AC|apply AJ|(apply BK;try dsimp only)|(apply A5;try dsimp only)|(apply A8<;>(intro u b;try subst b))|apply AB|(apply AA (Fk);intro r hr)|(refine AM ?_ (XN ?_);intro r hr)
 all_goals try (first|omega|grind[AZ,D8])
def HO(x:AW):Prop:=0<=x.1/\x.1<64/\0<=x.2.1/\x.2.1<=1099511627776/\ ∀i,Ig (x.2.2 i)/\(x.2.1=0->(x.2.2 i).1=false)
def Lk{x:AW}:Av (HX x) λr=>r=true↔0<=x.1/\x.1<64/\0<=x.2.1/\x.2.1<=1099511627776:=by
 unfold HX;repeat' with_reducible first|intro a|apply AC|apply AJ|apply AB
 all_goals grind
def XJ{x:AW}{s:Int}(h:0<=s/\s<=16/\ ∀i:Fin 16,(i.val:Int)<s->Ig (x.2.2 i)/\(x.2.1=0->(x.2.2 i).1=false)):Av (Af (Mo x) s) λr=>(r= .inl false/\ ¬ ∀i,Ig (x.2.2 i)/\(x.2.1=0->(x.2.2 i).1=false))\/(r= .inr ()/\ ∀i,Ig (x.2.2 i)/\(x.2.1=0->(x.2.2 i).1=false)):=by
 refine AS (λ(s:Int)=>0<=s/\s<=16/\ ∀i:Fin 16,(i.val:Int)<s->Ig (x.2.2 i)/\(x.2.1=0->(x.2.2 i).1=false)) (λ(s:Int)=>(16-s).toNat) h (λs b=>?_);unfold Mo;repeat' with_reducible first|intro a|apply AC|apply AO|apply AV|apply AJ|apply AB|(apply AA (KK);intro r hr)|(refine AM ?_ (DQ ?_ ?_);intro r hr)
 all_goals exact l!
def Np{x:AW}:Av (Ik x) λr=>r=true↔ ∀i,Ig (x.2.2 i)/\(x.2.1=0->(x.2.2 i).1=false):=by
 unfold Ik;repeat' with_reducible first|(apply BK;try dsimp only)|(apply A5;try dsimp only)|(apply A8<;>(intro u a;try subst a))|apply AB|(refine AM ?_ (XJ ?_);intro r hr)
 all_goals first|omega|grind
def bP{x:AW}:Av (LB x) λr=>r=true↔HO x:=by
 unfold LB HO
 repeat' first
   |with_reducible apply AJ<;>intro a
   |with_reducible apply AB
   |(with_reducible apply AA (Lk);intro r hr)
   |(with_reducible apply AA (Np);intro r hr)
 all_goals grind
def No{x:AW}:Av (D1 x) λr=>r=0->HO x:=by
 unfold D1 HO
 repeat' first
   |with_reducible apply AO<;>intro a
   |with_reducible apply AB
   |(with_reducible apply AA (Lk);intro r hr)
   |(with_reducible apply AA (Np);intro r hr)
 all_goals grind
def mN(f:A7):Prop:=HO f.1/\(f.2.1=true->1<=f.2.2.1/\f.2.2.1<=f.1.2.1)/\(f.2.1=false->f.2.2.1=0)
def KD(l:List A7)(n:Int):Prop:=(∀(i:Nat) (f:A7),i<n->l[i]? =some f->mN f)/\ ∀(i j:Nat) (f g:A7),i<j->j<n->l[i]? =some f->l[j]? =some g->f.1.1≠g.1.1
def O4(x:Bj):Prop:=1<=x.1/\x.1<=64/\x.2.1.length<=x.1/\0<=x.2.2/\(x.2.1.length=0/\x.2.2=0\/x.2.2<x.2.1.length)/\KD x.2.1 x.2.1.length
theorem KD.step{l:List A7}{n:Int}{f:A7}(e:0<=n)(h:KD l n)(o:l[n.toNat]? =some f)(r:mN f)(m: ∀(j:Nat) (g:A7),j<n->l[j]? =some g->g.1.1≠f.1.1):KD l (n+1):=by
 refine⟨λi g p b=>?_,λi j g k c q b d=>?_⟩;rcases iP i n with a|a;exact h.1 i g a b;grind;rcases iP j n with a|a;exact h.2 i j g k c a b d;have:j=n.toNat:=o!
 grind
theorem m7{l:List A7}{n:Int}{f:A7}(c:0<=n)(d:n<l.length)(a:l[n.toNat]? =some f)(b: ¬mN f): ¬KD l l.length:=λh=>b (h.1 n.toNat f o! a)
theorem m8{l:List A7}{n:Int}{f:A7}(e:0<=n)(i:n<l.length)(d:l[n.toNat]? =some f)(c: ∃(j:Nat) (g:A7),j<n/\l[j]? =some g/\g.1.1=f.1.1): ¬KD l l.length:=λh=>by have⟨j,g,k,a,b⟩:=c;exact h.2 j n.toNat g f o! o! a d b
def H8{x:Bj}{a:Int}{b:A7}{s:Int}(h:0<=s/\s<=a/\a<=x.2.1.length/\(x.2.1.length:Int)<=16777216/\ ∀(j:Nat) (g:A7),j<s->x.2.1[j]? =some g->g.1.1≠b.1.1):Av (Af (Fz x a b) s) λr=>(r= .inl false/\ ∃(j:Nat) (g:A7),j<a/\x.2.1[j]? =some g/\g.1.1=b.1.1)\/(r= .inr ()/\ ∀(j:Nat) (g:A7),j<a->x.2.1[j]? =some g->g.1.1≠b.1.1):=by
 refine AS (λ(s:Int)=>0<=s/\s<=a/\a<=x.2.1.length/\(x.2.1.length:Int)<=16777216/\ ∀(j:Nat) (g:A7),j<s->x.2.1[j]? =some g->g.1.1≠b.1.1) (λ(s:Int)=>(a-s).toNat) h (λs d=>?_);unfold Fz;repeat' with_reducible first|intro c|apply AC|apply AV|apply AJ|apply AB|(refine AM ?_ (AI ?_ ?_);rintro r ⟨hr,e⟩)
 all_goals exact l!
def XT{x:Bj}{s:Int}(h:0<=s/\s<=x.2.1.length/\(x.2.1.length:Int)<=16777216/\KD x.2.1 s):Av (Af (M3 x) s) λr=>(r= .inl false/\ ¬KD x.2.1 x.2.1.length)\/(r= .inr ()/\KD x.2.1 x.2.1.length):=by
 refine AS (λ(s:Int)=>0<=s/\s<=x.2.1.length/\(x.2.1.length:Int)<=16777216/\KD x.2.1 s) (λ(s:Int)=>((x.2.1.length:Int)-s).toNat) h (λs d=>?_);unfold M3;repeat' with_reducible first|intro a|apply AC|apply AO|apply AL|apply AJ|(apply BK;try dsimp only)|(apply A5;try dsimp only)|(apply A8<;>(intro u c;try subst c))|apply AB|(apply AA (bP);intro r hr)|(refine AM ?_ (H8 ?_);intro r hr)|(refine AM ?_ (H8 ?_);intro r hr)|(refine AM ?_ (H8 ?_);intro r hr)|(refine AM ?_ (H8 ?_);intro r hr)|(refine AM ?_ (AI ?_ ?_);rintro r ⟨hr,f⟩)
 all_goals try (have e:=AZ (x:=s+1))
 all_goals first|omega|(exact⟨o!,o!,o!,o!,λj g b=>absurd b o!⟩)|grind[KD.step,m7,m8,mN]
def KD.zero(l:List A7):KD l 0:=⟨λi f h=>absurd h o!,λi j f g h a=>absurd a o!⟩
def AFv(n h:Int)(a:0<=n)(b:n<=64):(h>if wi (n-1)>0 then wi (n-1)else 0)↔ ¬(n=0/\h<=0\/h<n):=by grind[AZ]
def EY{x:Bj}:Av (DZ x) λr=>r=true↔O4 x:=by
 unfold DZ O4
 repeat' first
   |with_reducible apply AC<;>intro b
   |(with_reducible apply A8<;>(intro u a;try subst a))
   |with_reducible apply AB
   |(with_reducible refine AM ?_ (XT ?_);intro r hr)
 all_goals try dsimp[len]at*
 all_goals first
  |(exact⟨o!,o!,o!,KD.zero _⟩)
  |(have c:=AFv (x.2.1.length) x.2.2 o! o!;grind)
  |grind
def Nv{x:Ao}:Av (G6 x) λr=>True:=by
 unfold G6;repeat' with_reducible first|intro a|apply AC|apply AV|apply AJ|apply AB
 all_goals exact l!
def T1{x:Ao×Ao}:Av (Fb x) λr=>True:=by
 unfold Fb;repeat' with_reducible first|intro a|apply AC|apply AL|apply AJ|apply AB
 all_goals exact l!
def GP{x:Ao×Ao}:Av (EI x) λr=>True:=by
 unfold EI;repeat' with_reducible first|intro a|apply AV|apply AL|apply AJ|apply AB
 all_goals exact l!
def YE{x:A1×Int×Cm}{s:Int}(h:0<=s/\s<=x.1.1.length/\(x.1.1.length:Int)<=16777216):Av (Af (Ny x) s) λr=>True:=by
 refine AS (λ(s:Int)=>0<=s/\s<=x.1.1.length/\(x.1.1.length:Int)<=16777216) (λ(s:Int)=>((x.1.1.length:Int)-s).toNat) h (λs b=>?_);unfold Ny;repeat' with_reducible first|intro a|apply AC|apply AV|apply AJ|apply AB|(refine AM ?_ (AI ?_ ?_);rintro r ⟨hr,c⟩)
 all_goals exact l!
def H7{x:A1×Int×Cm}(h:x.1.1.length<=16777216):Av (EJ x) λr=>True:=by
 unfold EJ;repeat' with_reducible first|(apply BK;try dsimp only)|(apply A5;try dsimp only)|(apply A8<;>(intro u a;try subst a))|apply AB|(refine AM ?_ (YE ?_);intro r hr)
 all_goals exact l!
def GL(x:A1):Prop:=x.1.length<=16777216/\x.2.length<=16777216
def QI{x:A1}{a:Int}{s:Int}(h:s<a/\ -1<=s/\0<=a/\a<x.1.length/\x.1.length<=16777216):Av (Af (JJ x a) s) λr=>r≠ .inl true:=by
 refine AS (λ(s:Int)=>s<a/\ -1<=s/\0<=a/\a<x.1.length/\x.1.length<=16777216) (λ(s:Int)=>(s+1).toNat) h (λs c=>?_);unfold JJ;repeat' with_reducible first|intro b|apply AC|apply AV|apply AJ|apply AB|(apply AA (GP);intro r hr)|(refine AM ?_ (AI ?_ ?_);rintro r ⟨hr,d⟩)
 all_goals exact l!
def XO{x:A1}{s:Int}(h:0<=s/\s<=x.1.length/\(x.1.length:Int)<=16777216):Av (Af (Mx x) s) λr=>r≠ .inl true:=by
 refine AS (λ(s:Int)=>0<=s/\s<=x.1.length/\(x.1.length:Int)<=16777216) (λ(s:Int)=>((x.1.length:Int)-s).toNat) h (λs c=>?_);unfold Mx;repeat' with_reducible first|intro a|apply AC|apply AO|apply AJ|(apply BK;try dsimp only)|(apply A5;try dsimp only)|(apply A8<;>(intro u b;try subst b))|apply AB|(apply AA (Nv);intro r hr)|(apply AA (T1);intro r hr)|(refine AM ?_ (QI ?_);intro r hr)|(refine AM ?_ (QI ?_);intro r hr)|(refine AM ?_ (AI ?_ ?_);rintro r ⟨hr,d⟩)
 all_goals ((try dsimp[len]at*);(try first|omega|assumption|grind[AZ]|((try simp (disch:=omega) only[AZ,len]at*)<;>(try intros)<;>(try and_intros)<;>(try intros)<;>(first|omega|assumption|grind))))
def XQ{x:A1}{a:Int}{b:Ao}{s:Int}(h:0<=s/\s<=a/\(a:Int)<=16777216/\a<=x.2.length):Av (Af (Mz x a b) s) λr=>r≠ .inl true:=by
 refine AS (λ(s:Int)=>0<=s/\s<=a/\(a:Int)<=16777216/\a<=x.2.length) (λ(s:Int)=>((a:Int)-s).toNat) h (λs d=>?_);unfold Mz;repeat' with_reducible first|intro c|apply AC|apply AV|apply AJ|apply AB|(refine AM ?_ (AI ?_ ?_);rintro r ⟨hr,e⟩)
 all_goals exact l!
def XP{x:A1}{s:Int}(h:0<=s/\s<=x.2.length/\(x.2.length:Int)<=16777216/\x.1.length<=16777216):Av (Af (My x) s) λr=>r≠ .inl true:=by
 refine AS (λ(s:Int)=>0<=s/\s<=x.2.length/\(x.2.length:Int)<=16777216/\x.1.length<=16777216) (λ(s:Int)=>((x.2.length:Int)-s).toNat) h (λs c=>?_);unfold My;repeat' with_reducible first|intro a|apply AC|apply AO|apply AJ|(apply BK;try dsimp only)|(apply A5;try dsimp only)|(apply A8<;>(intro u b;try subst b))|apply AB|(apply AA (Nv);intro r hr)|(refine AM ?_ (H7 ?_);intro r hr)|(refine AM ?_ (XQ ?_);intro r hr)|(refine AM ?_ (AI ?_ ?_);rintro r ⟨hr,d⟩)
 all_goals exact l!
def Yu(x:A1):Prop:=x.1.length+x.2.length<=1024
def FL{x:A1}(h:GL x):Av (D2 x) λr=>r=true->Yu x:=by
 unfold D2 Yu;unfold GL at h
 repeat' first
   |with_reducible apply AC<;>intro b
   |(with_reducible apply A8<;>(intro u a;try subst a))
   |with_reducible apply AB
   |(with_reducible refine AM ?_ (XO ?_);intro r hr)
   |(with_reducible refine AM ?_ (XP ?_);intro r hr)
 all_goals exact l!
def VTx(x:Ak):Prop:=x.2.2.2.2.1.length<=4096/\x.2.2.2.2.2.length<=8/\1<=x.1
def Xu(x:List Ak):Prop:=x.length<=64/\ ∀(i:Nat) (t:Ak),x[i]? =some t->VTx t
def QJ{x:Ak}{s:Int}(h:0<=s/\s<=x.2.2.2.2.1.length/\(x.2.2.2.2.1.length:Int)<=16777216):Av (Af (JN x) s) λr=>r≠ .inl true:=by
 refine AS (λ(s:Int)=>0<=s/\s<=x.2.2.2.2.1.length/\(x.2.2.2.2.1.length:Int)<=16777216) (λ(s:Int)=>((x.2.2.2.2.1.length:Int)-s).toNat) h (λs b=>?_);unfold JN;repeat' with_reducible first|intro a|apply AC|apply AJ|apply AB|(refine AM ?_ (AI ?_ ?_);rintro r ⟨hr,c⟩)
 all_goals ((try dsimp[len]at*);(try first|omega|assumption|grind[AZ]|((try simp (disch:=omega) only[AZ,len]at*)<;>(try intros)<;>(try and_intros)<;>(try intros)<;>(first|omega|assumption|grind))))
def QK{x:Ak}{s:Int}(h:0<=s/\s<=x.2.2.2.2.2.length/\(x.2.2.2.2.2.length:Int)<=16777216):Av (Af (JO x) s) λr=>r≠ .inl true:=by
 refine AS (λ(s:Int)=>0<=s/\s<=x.2.2.2.2.2.length/\(x.2.2.2.2.2.length:Int)<=16777216) (λ(s:Int)=>((x.2.2.2.2.2.length:Int)-s).toNat) h (λs b=>?_);unfold JO;repeat' with_reducible first|intro a|apply AC|apply AJ|apply AB|(refine AM ?_ (AI ?_ ?_);rintro r ⟨hr,c⟩)
 all_goals ((try dsimp[len]at*);(try first|omega|assumption|grind[AZ]|((try simp (disch:=omega) only[AZ,len]at*)<;>(try intros)<;>(try and_intros)<;>(try intros)<;>(first|omega|assumption|grind))))
def ba{x:Ak}:Av (LO x) λr=>r=true->VTx x:=by
 unfold LO VTx
 repeat' first
   |with_reducible apply AC<;>intro a
   |with_reducible apply AL<;>intro a
   |(with_reducible apply A8<;>(intro u b;try subst b))
   |with_reducible apply AB
   |(with_reducible refine AM ?_ (QJ ?_);intro r hr)
   |(with_reducible refine AM ?_ (QK ?_);intro r hr)
   |(with_reducible refine AM ?_ (QJ ?_);intro r hr)
   |(with_reducible refine AM ?_ (QK ?_);intro r hr)
 all_goals exact l!
def XW{x:List Ak}{s:Int}(h:0<=s/\s<=x.length/\(x.length:Int)<=16777216/\ ∀(i:Nat) (t:Ak),i<s->x[i]? =some t->VTx t):Av (Af (M5 x) s) λr=>r= .inl false\/(r= .inr ()/\ ∀(i:Nat) (t:Ak),x[i]? =some t->VTx t):=by
 refine AS (λ(s:Int)=>0<=s/\s<=x.length/\(x.length:Int)<=16777216/\ ∀(i:Nat) (t:Ak),i<s->x[i]? =some t->VTx t) (λ(s:Int)=>((x.length:Int)-s).toNat) h (λs b=>?_);unfold M5;repeat' with_reducible first|intro a|apply AC|apply AO|apply AJ|apply AB|(apply AA (ba);intro r hr)|(refine AM ?_ (AI ?_ ?_);rintro r ⟨hr,c⟩)
 all_goals ((try dsimp[len]at*);(try first|omega|assumption|grind[AZ]|((try simp (disch:=omega) only[AZ,len]at*)<;>(try intros)<;>(try and_intros)<;>(try intros)<;>(first|omega|assumption|grind))))
def Dz{x:List Ak}:Av (D4 x) λr=>r=true->Xu x:=by
 unfold D4 Xu
 repeat' first
   |with_reducible apply AC<;>intro b
   |(with_reducible apply A8<;>(intro u a;try subst a))
   |with_reducible apply AB
   |(with_reducible refine AM ?_ (XW ?_);intro r hr)
 all_goals exact l!
def ju(x:Bh):Prop:=1<=x.length/\x.length<=64
def fi{x:Int}:Av (Gw x) λr=>True:=by
 unfold Gw;repeat' with_reducible first|intro a|apply AC|apply AJ|apply AB
 all_goals exact l!
def XU{x:Bh}{s:Int}(h:0<=s/\s<=x.length/\(x.length:Int)<=16777216):Av (Af (JL x) s) λr=>r≠ .inl true:=by
 refine AS (λ(s:Int)=>0<=s/\s<=x.length/\(x.length:Int)<=16777216) (λ(s:Int)=>((x.length:Int)-s).toNat) h (λs b=>?_);unfold JL;repeat' with_reducible first|intro a|apply AC|apply AO|apply AV|apply AL|apply AJ|apply AB|(apply AA (fi);intro r hr)|(refine AM ?_ (AI ?_ ?_);rintro r ⟨hr,c⟩)
 all_goals exact l!
def GH{x:Bh}:Av (D3 x) λr=>r=true->ju x:=by
 unfold D3 ju
 repeat' first
   |with_reducible apply AC<;>intro b
   |(with_reducible apply A8<;>(intro u a;try subst a))
   |with_reducible apply AB
   |(with_reducible refine AM ?_ (XU ?_);intro r hr)
 all_goals exact l!
def UU{x:List Ae×Int}{s:Int}(h:0<=s/\s<=x.1.length/\(x.1.length:Int)<=16777216):Av (Af (G0 x) s) λr=>r≠ .inl true:=by
 refine AS (λ(s:Int)=>0<=s/\s<=x.1.length/\(x.1.length:Int)<=16777216) (λ(s:Int)=>((x.1.length:Int)-s).toNat) h (λs b=>?_);unfold G0;repeat' with_reducible first|intro a|apply AC|apply AJ|apply AB|(refine AM ?_ (AI ?_ ?_);rintro r ⟨hr,c⟩)
 all_goals ((try dsimp[len]at*);(try first|omega|assumption|grind[AZ]|((try simp (disch:=omega) only[AZ,len]at*)<;>(try intros)<;>(try and_intros)<;>(try intros)<;>(first|omega|assumption|grind))))
def PG{x:List Ae×Int}(h:x.1.length<=16777216):Av (FN x) λr=>True:=by
 unfold FN;repeat' with_reducible first|(apply BK;try dsimp only)|(apply A5;try dsimp only)|(apply A8<;>(intro u a;try subst a))|apply AB|(refine AM ?_ (UU ?_);intro r hr)
 all_goals exact l!
theorem DU{b:Type}{l:List b}{i:Nat}{a:b}(h:l[i]? =some a):i<l.length:=q!
def bC(p:Int)(e:AD):Bool:=((e.2.1==1)||(e.2.1==2))&&(e.2.2.2.2.2.2.1.1==p)
def Bw(L:List AD)(p:Int):Int:=L.foldl (λa e=>if bC p e then e.1 else a) 0
theorem O2(L:List AD)(e:AD)(p:Int):Bw (L++[e]) p=if bC p e then e.1 else Bw L p:=by simp[Bw,iV,iW,List.foldl_nil]
def upd(x:AW)(e:AD):AW:=(x.1,(e.1,Vq x.2.2 e.2.2.2.2.2.2.1.2.1 e.2.2.2.2.2.2.1.2.2.2))
def st(L:List AD)(p:Int):AW:=(L.filter (bC p)).foldl upd (p,(0,Ho.all (false,[])))
def yv(L M:List AD)(p:Int):st (L++M) p=(M.filter (bC p)).foldl upd (st L p):=by unfold st;rw[II,iV]
theorem xk(L:List AD)(e:AD)(p:Int):st (L++[e]) p=if bC p e then upd (st L p) e else st L p:=by rw[yv,U0,iT];split<;>rfl
def zX(L:List AD)(x:AW):(L.foldl upd x).1=x.1:=by
 induction L generalizing x with
 |nil=>rfl
 |cons e L a=>exact a (upd x e)
def UO(L:List AD)(p:Int):(st L p).1=p:=zX _ _
def Pe(L:List AD)(p:Int):(st L p).2.1=Bw L p:=by
 suffices h: ∀(L:List AD) (x:AW),((L.filter (bC p)).foldl upd x).2.1=L.foldl (λa e=>if bC p e then e.1 else a) x.2.1 from h L _
 intro L;induction L with
 |nil=>exact λx=>rfl
 |cons e L b=>intro x;rw[U0,iW];split;exact b (upd x e);exact b x
def ui(n:Int)(L:List AD)(D:List Ae)(R:List Dq):Prop:=
 ∀p,0<=p->p<n->(∀d∈D,d.1=p->d.2.2=Bw L p)/\ ∀r,R[p.toNat]? =some r->r.1<=Bw L p/\((∀d∈D,d.1≠p)->r.1=Bw L p)
def KP(n:Int)(L:List AD)(F:List A7)(D:List Ae)(R:List Dq):Prop:=
 ∀p,0<=p->p<n->(∀f∈F,f.1.1=p->f.1=st L p)/\(∀d∈D,d.1=p->d.2.2=Bw L p)/\
  ∀r,R[p.toNat]? =some r->r.1<=Bw L p/\((∀d∈D,d.1≠p)->(∀f∈F,f.1.1=p->f.2.1=false)->r.1=Bw L p)
def EOK(n:Int)(M:List AD)(e:AD):Prop:=
 (e.2.1=1\/e.2.1=2->e.2.2.2.2.1=Bw M e.2.2.2.2.2.2.1.1/\Gr (st M e.2.2.2.2.2.2.1.1).2.2 e.2.2.2.2.2.2.1.2.1=some e.2.2.2.2.2.2.1.2.2.1)/\(e.2.1=7->e.2.2.2.2.2.1=Bw M e.2.2.2.2.2.2.1.1)/\
  (e.2.1=6-> ∀c,DA e.2.2.2.2.2.2.2=some (c,0)->c.1=n->ui n M c.2.2.2.1 c.2.2.2.2)
def LI(n:Int)(L:List AD):Prop:= ∀(i:Nat) (e:AD),L[i]? =some e->EOK n (L.take i) e
def LI.nil(n:Int):LI n []:=λi e h=>by simp at h
def LI.app{n:Int}{L:List AD}{e:AD}(h:LI n L)(c:EOK n L e):LI n (L++[e]):=by intro i f b;rcases P7 i L.length with a|a|a;rw[CK a]at b;rw[cK o!];exact h i f b;grind;grind[List.getElem?_eq_none]
def LI.pre{n:Int}{L T:List AD}(h:LI n (L++T)):LI n L:=by intro i f a;have:=h i f q!;grind
def FD(B:Int->Prop)(n:Int)(F:List A7)(D:List Ae):Prop:= ∀f∈F,0<=f.1.1/\f.1.1<n/\(∀d∈D,d.1≠f.1.1)/\B f.1.1
variable {B:Int->Prop}
def KI(B:Int->Prop)(k:AQ):Prop:=LI k.1 k.2.2.1.2.1/\KP k.1 k.2.2.1.2.1 k.2.2.2.1.2.1 k.2.2.2.2.2.2.2 k.2.2.2.2.2.2.1/\FD B k.1 k.2.2.2.1.2.1 k.2.2.2.2.2.2.2
def FD.sub{n:Int}{F G:List A7}{D:List Ae}(h:FD B n F D)(a: ∀g∈G,∃f∈F,f.1.1=g.1.1/\f.1=g.1):FD B n G D:=by intro g c;have⟨f,b,e,_⟩:=a g c;rw[<-e];exact h f b
def lW{p b:Int}: ∀(L:List AD) (a:Int),a<b->(∀e∈L,e.1<b)->L.foldl (λa e=>if bC p e then e.1 else a) a<b
 |[],a,ha,_=>ha
 |e::L,a,ha,h=>by refine lW L _ ?_ λf c=>h f (CV _ c);show(if bC p e=true then e.1 else a)<b;split;exact h e Jx;exact ha
def iv{l:Ah}(h:D8 l)(p:Int):Bw l.2.1 p<l.1+l.2.1.length:=by have⟨a,_,_,_,_,b⟩:=h;refine lW _ _ o! λe c=>?_;grind[List.getElem?_of_mem]
def KP.app{n:Int}{L:List AD}{F:List A7}{D:List Ae}{R:List Dq}{e:AD}(h:KP n L F D R)(c:e.2.1≠1/\e.2.1≠2):KP n (L++[e]) F D R:=by intro p a b;rw[(by grind[O2,bC]:Bw (L++[e]) p=Bw L p),(by grind[xk,bC]:st (L++[e]) p=st L p)];exact h p a b
def KP.frames{n:Int}{L:List AD}{F G:List A7}{D:List Ae}{R:List Dq}(h:KP n L F D R)
  (m: ∀g∈G,∃f∈F,f.1.1=g.1.1/\f.1=g.1) (o: ∀f∈F,f.2.1=true-> ∃g∈G,g.1.1=f.1.1/\g.2.1=true):KP n L G D R:=by
 intro p w x;obtain⟨a,b,c⟩:=h p w x;refine⟨λg v e=>?_,b,λr hr=>⟨(c r hr).1,λt u=>(c r hr).2 t λf d e=>?_⟩⟩;obtain⟨f,d,j,k⟩:=m g v;rw[<-k];exact a f d (j.trans e);cases s:f.2.1 with
 |false=>rfl
 |true=>obtain⟨g,q,l,i⟩:=o f d s;rw[u g q (l.trans e)]at i;cases i
def KP.written{n:Int}{L:List AD}{F G:List A7}{D:List Ae}{R:List Dq}{q d:Int}{w:Dq}(h:KP n L F D R)(q0:0≤q)(A:d=Bw L q)(B:q<n)
  (s: ∀g∈G,∃f∈F,f.1.1=g.1.1/\f.1=g.1) (t: ∀f∈F,f.1.1≠q->f∈G) (l:R[q.toNat]? =some w):
  KP n L G D (R.set q.toNat ((if d>w.1 then d else w.1),w.2)):=by
 intro p y z;obtain⟨a,b,c⟩:=h p y z;refine⟨λg x e=>?_,b,λr hr=>?_⟩;obtain⟨f,i,m,o⟩:=s g x;rw[<-o];exact a f i (m.trans e);by_cases k:p=q;subst k;have j:p.toNat<R.length:=by rcases Aq p.toNat R.length with h|h;exact h;rw[Cj h]at l;cases l
 rw[IK j]at hr;have:=(c w l).1;have e:r.1=Bw L p:=by rw[<-Bg hr];dsimp only;split<;>omega
 exact⟨o!,λ_ _=>e⟩;rw[EA o!]at hr;refine⟨(c r hr).1,λu v=>(c r hr).2 u λf i e=>?_⟩;exact v f (t f i o!) e
def yr{F:List A7}{i:Nat}{f n:A7}(a:F[i]? =some f)(hn:n.1=f.1): ∀g∈F.set i n,∃f∈F,f.1.1=g.1.1/\f.1=g.1:=q!
def ua{F:List A7}{i:Nat}{f n:A7}(c:F[i]? =some f): ∀g∈F,g.1.1≠f.1.1->g∈F.set i n:=by intro g a b;have⟨j,d⟩:=Eh a;apply BM (i:=j);grind
def KP.change{n:Int}{L:List AD}{F:List A7}{D:List Ae}{R:List Dq}{e:AD}{i:Nat}{f g:A7}(h:KP n L F D R)(G:FD B n F D)
  (t:e.2.1=1\/e.2.1=2) (u:F[i]? =some f) (I:f.1.1=e.2.2.2.2.2.2.1.1) (v:g.1=upd f.1 e) (y:g.2.1=true)
  (J: ∀j k,F[j]? =some k->k.1.1=f.1.1->j=i) (H:Bw L f.1.1<e.1):KP n (L++[e]) (F.set i g) D R:=by
 have w:i<F.length:=by rcases Aq i F.length with h|h;exact h;rw[Cj h]at u;cases u
 have A:g∈F.set i g:=BM (i:=i) (IK w);have C:g.1.1=f.1.1:=by rw[v];rfl
 intro p K M;obtain⟨a,b,c⟩:=h p K M;have E:bC p e=(f.1.1==p):=by rw[I];unfold bC;rcases t with h|h<;>simp[h]
 rw[O2,xk,E];by_cases l:f.1.1=p;subst l;rw[beq_self_eq_true,if_pos rfl,if_pos rfl];refine⟨λk t m=>?_,λd o m=>absurd m ((G f (BM u)).2.2.1 d o),λr hr=>⟨by have:=(c r hr).1;omega,λ_ q=>?_⟩⟩;obtain⟨j,x⟩:=Eh t;by_cases s:j=i;subst s;rw[IK w]at x;rw[<-Bg x,v];exact congrArg (λz=>upd z e) (a f (BM u) rfl);rw[EA (λh=>s h.symm)]at x;exact absurd (J j k x m) s;have:=q g A C;rw[y]at this;cases this;rw[if_neg (by simpa using l),if_neg (by simpa using l)];refine⟨λk t m=>?_,b,λr hr=>⟨(c r hr).1,λo q=>(c r hr).2 o λk t m=>?_⟩⟩;rcases Ux t with h|h;exact a k h m;subst h;exact absurd (C.symm.trans m) l;exact q k (ua u k t o!) m
def FD.set{n:Int}{F:List A7}{D:List Ae}{i:Nat}{f g:A7}(h:FD B n F D)(b:F[i]? =some f)(c:g.1.1=f.1.1):FD B n (F.set i g) D:=by intro k d;rcases Ux d with a|a;exact h k a;subst a;rw[c];exact h f (BM b)
def KP.supply{n:Int}{L:List AD}{F:List A7}{D l:List Ae}{R:List Dq}{x:AW}{g:A7}(h:KP n L F D R)(y:x=st L x.1)
  (w: ∀f∈F,f.1.1≠x.1) (t:g.1=x) (i:(g.2.1=true/\l=D.filter λd=>d.1 !=x.1)\/(g.2.1=false/\(∀d∈D,d.1≠x.1)/\l=D)):KP n L (F++[g]) l R:=by
 intro p z A;obtain⟨a,b,c⟩:=h p z A;have v: ∀d∈l,d∈D:=by rcases i with⟨_,e⟩|⟨_,_,e⟩<;>subst e;exact λd i=>(Bc.1 i).1;exact λd i=>i
 refine⟨λf j e=>?_,λd i=>b d (v d i),λr hr=>⟨(c r hr).1,λq s=>(c r hr).2 ?_ λf j=>s f (HQ _ j)⟩⟩;rcases An.1 j with j|j;exact a f j e;rw[BA]at j;subst j;rw[t]at e⊢;rw[<-e];exact y;intro d k e;rcases i with⟨u,o⟩|⟨_,_,o⟩<;>subst o;by_cases m:p=x.1;have:=s g k! (by rw[t,m]);rw[u]at this;cases this;exact q d (Bc.2 ⟨k,w!⟩) e;exact q d k e
def FD.supply{n:Int}{F:List A7}{D b:List Ae}{p:Int}{g:A7}(h:FD B n F D)(k:0<=p)(l:p<n)(i:B p)(j:g.1.1=p)(e: ∀d∈b,d∈D)(hn: ∀d∈b,d.1≠p):FD B n (F++[g]) b:=by intro f a;rcases An.1 a with a|a;exact⟨(h f a).1,(h f a).2.1,λd c=>(h f a).2.2.1 d (e d c),(h f a).2.2.2⟩;grind
end Go.Pm
namespace Go.Pm
open Go Go.Ab
set_option maxHeartbeats 400000
variable {B:Int->Prop}
def SB(k:AQ):Prop:=GL k.2.2.2.2.1/\k.2.2.2.2.2.1.length<=16777216/\k.2.2.2.2.2.2.2.length<=16777216
def SK(B:Int->Prop)(k:AQ):Prop:=GL k.2.2.2.2.1/\k.2.2.2.2.2.1.length<=16777216/\k.2.2.2.2.2.2.2.length<=16777216/\KI B k
def SK.sb{k:AQ}(h:SK B k):SB k:=⟨h.1,h.2.1,h.2.2.1⟩
def SK.ki{k:AQ}(h:SK B k):KI B k:=h.2.2.2
def SB.sk{k:AQ}(h:SB k)(g:KI B k):SK B k:=⟨h.1,h.2.1,h.2.2,g⟩
def VK(k:AQ):Prop:=1<=k.1/\k.1<=64/\D8 k.2.2.1/\O4 k.2.2.2.1/\Yu k.2.2.2.2.1/\Xu k.2.2.2.2.2.1/\ju k.2.2.2.2.2.2.1/\k.2.2.2.2.2.2.1.length=k.1
def bf{x:AQ}(h:SB x):Av (LU x) λr=>r=true->VK x:=by
 unfold LU VK;unfold SB at h
 repeat' first
   |with_reducible apply AJ<;>intro a
   |with_reducible apply AB
   |(with_reducible apply AA (Bn);intro r hr)
   |(with_reducible apply AA (EY);intro r hr)
   |(with_reducible refine AM ?_ (FL ?_);intro r hr)
   |(with_reducible apply AA (Dz);intro r hr)
   |(with_reducible apply AA (GH);intro r hr)
   |(with_reducible refine AM ?_ (PG ?_);intro r hr)
 all_goals exact l!
def XX{x:AQ×Int}{s:Int×Ae}(h:0<=s.1/\s.1<=x.1.2.2.2.2.2.2.2.length/\x.1.2.2.2.2.2.2.2.length<=16777216/\ ∀(i:Nat) (d:Ae),i<s.1->x.1.2.2.2.2.2.2.2[i]? =some d->d.1≠x.2):Av (Af (M7 x) s) λr=>(∃d∈x.1.2.2.2.2.2.2.2,r= .inl (true,d)/\d.1=x.2)\/ ∃z,r= .inr z/\ ∀d∈x.1.2.2.2.2.2.2.2,d.1≠x.2:=by
 refine AS (λ(s:Int×Ae)=>0<=s.1/\s.1<=x.1.2.2.2.2.2.2.2.length/\x.1.2.2.2.2.2.2.2.length<=16777216/\ ∀(i:Nat) (d:Ae),i<s.1->x.1.2.2.2.2.2.2.2[i]? =some d->d.1≠x.2) (λ(s:Int×Ae)=>((x.1.2.2.2.2.2.2.2.length:Int)-s.1).toNat) h (λs j=>?_);have⟨c,m,f,g⟩:=j;unfold M7;refine AC (λa=>?_) (λa=>AB (.inr ⟨_,rfl,λd b=>?_⟩));simp[len]at a;refine AA (AI c a) λv o=>?_;apply AV<;>intro n;grind[AA,AI,AB,Option.some.inj];have e:=AZ (x:=s.1+1);refine AB ⟨⟨d!,d!,f,λi d k b=>?_⟩,d!⟩;dsimp only at k;by_cases l:(i:Int)<s.1;exact g i d l b;have:i=s.1.toNat:=o!
 grind[Option.some.inj];grind[List.getElem?_of_mem,Nat.lt_or_ge,List.getElem?_eq_none]
def Jp{x:AQ×Int}(h:SB x.1):Av (Ez x) λr=>(r.2=true->r.1∈x.1.2.2.2.2.2.2.2/\r.1.1=x.2)/\(r.2=false-> ∀d∈x.1.2.2.2.2.2.2.2,d.1≠x.2):=by unfold Ez;refine AA (XX ⟨o!,d!,h.2.2,λi d a=>absurd a d!⟩) λv b=>?_;grind[BK,AB,A5]
def XY{x:AQ}{s:Int}(h:0<=s/\s<=x.2.2.2.2.2.1.length/\(x.2.2.2.2.2.1.length:Int)<=16777216):Av (Af (M8 x) s) λr=>r≠ .inl true:=by
 refine AS (λ(s:Int)=>0<=s/\s<=x.2.2.2.2.2.1.length/\(x.2.2.2.2.2.1.length:Int)<=16777216) (λ(s:Int)=>((x.2.2.2.2.2.1.length:Int)-s).toNat) h (λs b=>?_);unfold M8;repeat' with_reducible first|intro a|apply AC|apply AJ|apply AB|(refine AM ?_ (AI ?_ ?_);rintro r ⟨hr,c⟩)
 all_goals exact l!
def XZ{x:AQ}{s:Int}(h:0<=s/\s<=x.2.2.2.1.2.1.length/\(x.2.2.2.1.2.1.length:Int)<=16777216/\SB x):Av (Af (M9 x) s) λr=>r≠ .inl true:=by
 refine AS (λ(s:Int)=>0<=s/\s<=x.2.2.2.1.2.1.length/\(x.2.2.2.1.2.1.length:Int)<=16777216/\SB x) (λ(s:Int)=>((x.2.2.2.1.2.1.length:Int)-s).toNat) h (λs b=>?_);unfold M9;repeat' with_reducible first|intro a|apply AC|apply AJ|apply AB|(refine AM ?_ (Jp ?_);intro r hr)|(refine AM ?_ (AI ?_ ?_);rintro r ⟨hr,c⟩)
 all_goals exact l!
def Xa{x:AQ}{s:Int}(h:0<=s/\s<=x.2.2.2.2.1.1.length/\(x.2.2.2.2.1.1.length:Int)<=16777216):Av (Af (NA x) s) λr=>r≠ .inl true:=by
 refine AS (λ(s:Int)=>0<=s/\s<=x.2.2.2.2.1.1.length/\(x.2.2.2.2.1.1.length:Int)<=16777216) (λ(s:Int)=>((x.2.2.2.2.1.1.length:Int)-s).toNat) h (λs b=>?_);unfold NA;repeat' with_reducible first|intro a|apply AC|apply AJ|apply AB|(refine AM ?_ (AI ?_ ?_);rintro r ⟨hr,c⟩)
 all_goals exact l!
def Xb{x:AQ}{s:Int}(h:0<=s/\s<=x.2.2.2.2.1.2.length/\(x.2.2.2.2.1.2.length:Int)<=16777216):Av (Af (NB x) s) λr=>r≠ .inl true:=by
 refine AS (λ(s:Int)=>0<=s/\s<=x.2.2.2.2.1.2.length/\(x.2.2.2.2.1.2.length:Int)<=16777216) (λ(s:Int)=>((x.2.2.2.2.1.2.length:Int)-s).toNat) h (λs b=>?_);unfold NB;repeat' with_reducible first|intro a|apply AC|apply AJ|apply AB|(refine AM ?_ (AI ?_ ?_);rintro r ⟨hr,c⟩)
 all_goals exact l!
def Bz{x:AQ}(h:SB x):Av (BZ x) λr=>r=true->VK x:=by
 unfold BZ;repeat' with_reducible first|intro a|apply AO|apply AJ|(apply BK;try dsimp only)|(apply A5;try dsimp only)|(apply A8<;>(intro u b;try subst b))|apply AB|(refine AM ?_ (bf ?_);intro r hr)|(refine AM ?_ (XY ?_);intro r hr)|(refine AM ?_ (XZ ?_);intro r hr)|(refine AM ?_ (Xa ?_);intro r hr)|(refine AM ?_ (Xb ?_);intro r hr)
 all_goals ((try dsimp[len]at*);(try first|omega|assumption|grind[SB,VK,GL,O4]))
def YI{x:List Ak×Int}{s:Int}(h:0<=s/\s<=x.1.length/\(x.1.length:Int)<=16777216):Av (Af (Jn x) s) λr=> ∀u,r= .inl u->0<=u/\u<x.1.length/\ ∃t,x.1[u.toNat]? =some t/\t.1=x.2:=by
 refine AS (λ(s:Int)=>0<=s/\s<=x.1.length/\(x.1.length:Int)<=16777216) (λ(s:Int)=>((x.1.length:Int)-s).toNat) h (λs b=>?_);unfold Jn;repeat' with_reducible first|intro a|apply AC|apply AV|apply AJ|apply AB|(refine AM ?_ (AI ?_ ?_);rintro r ⟨hr,c⟩)
 all_goals exact l!
def IB{x:List Ak×Int}(h:x.1.length<=16777216):Av (El x) λr=> -1<=r/\r<x.1.length/\(0<=r-> ∃t,x.1[r.toNat]? =some t/\t.1=x.2):=by
 unfold El;repeat' with_reducible first|(apply BK;try dsimp only)|(apply A5;try dsimp only)|(apply A8<;>(intro u a;try subst a))|apply AB|(refine AM ?_ (YI ?_);intro r hr)
 all_goals exact l!
def Fo{x:List Ak×Int}(h:x.1.length<=16777216):Av (CR x) λr=> -1<=r/\r<x.1.length/\(0<=r-> ∃t,x.1[r.toNat]? =some t/\t.1=x.2):=by
 unfold CR;repeat' with_reducible first|apply AB|(refine AM ?_ (IB ?_);intro r hr)
 all_goals exact l!
def kf(p:Bj)(id:Int):Prop:= ∃(i:Nat) (f:A7),p.2.1[i]? =some f/\f.1.1=id
def YH{x:Bj×Int}{s:Int}(h:0<=s/\s<=x.1.2.1.length/\(x.1.2.1.length:Int)<=16777216/\ ∀(i:Nat) (f:A7),i<s->x.1.2.1[i]? =some f->f.1.1≠x.2):Av (Af (Nz x) s) λr=>(∃u,r= .inl u/\0<=u/\u<x.1.2.1.length/\ ∃f,x.1.2.1[u.toNat]? =some f/\f.1.1=x.2)\/(r= .inr ()/\ ¬kf x.1 x.2):=by
 refine AS (λ(s:Int)=>0<=s/\s<=x.1.2.1.length/\(x.1.2.1.length:Int)<=16777216/\ ∀(i:Nat) (f:A7),i<s->x.1.2.1[i]? =some f->f.1.1≠x.2) (λ(s:Int)=>((x.1.2.1.length:Int)-s).toNat) h (λs b=>?_);unfold Nz;repeat' with_reducible first|intro a|apply AC|apply AV|apply AJ|apply AB|(refine AM ?_ (AI ?_ ?_);rintro r ⟨hr,c⟩)
 all_goals try (have e:=AZ (x:=s+1))
 all_goals first|omega|grind[kf]
def Gi{x:Bj×Int}(h:x.1.2.1.length<=16777216):Av (Fc x) λr=> -1<=r/\r<x.1.2.1.length/\(0<=r-> ∃f,x.1.2.1[r.toNat]? =some f/\f.1.1=x.2)/\(r<0-> ¬kf x.1 x.2):=by refine AA (YH (by refine⟨o!,o!,o!,λi f a=>absurd a o!⟩)) λs b=>?_;grind[BK,AB,A5]
def Fm{x:Bj×Int}:Av (EK x) λr=> -1<=r/\r<x.1.2.1.length/\(0<=r->O4 x.1/\ ∃f,x.1.2.1[r.toNat]? =some f/\f.1.1=x.2)/\(O4 x.1->kf x.1 x.2->0<=r):=by
 unfold EK;repeat' with_reducible first|intro b|apply AO|apply AJ|apply AB|(apply AA (EY);intro r hr)|(refine AM ?_ (Gi ?_);intro r hr)
 all_goals first|omega|(have a:O4 x.1:=q!;have:=a.1;have:=a.2.1;have:=a.2.2.1;omega)|grind
def Iq{x:Bj×Int}:Av (F4 x) λr=>(r.2=true->O4 x.1/\HO r.1/\kf x.1 x.2/\r.1.1=x.2/\ ∃f∈x.1.2.1,f.1=r.1)/\(r.2=false->O4 x.1-> ¬kf x.1 x.2):=by
 unfold F4;repeat' with_reducible first|intro a|apply AC|apply AJ|apply AB|(apply AA (Fm);intro r hr)|(refine AM ?_ (AI ?_ ?_);rintro r ⟨hr,b⟩)
 all_goals first|omega|(simp;grind)|grind[O4,KD,mN,kf]
theorem D8.last{x:Ah}(h:D8 x):wi (wi (x.1+len x.2.1)-1)=x.1+x.2.1.length-1:=by have⟨a,b,c,d,e,f⟩:=h;grind[AZ]
def D8.at{x:Ah}{n:Int}{e:AD}(h:D8 x)(a:x.1<=n)(b:n<=x.1+x.2.1.length-1)(c:x.2.1[(wi (n-x.1)).toNat]? =some e):Lg e/\e.1=n:=by have⟨a1,a2,a3,a4,a5,a6⟩:=h;grind[AZ]
theorem D8.append{x:Ah}{e:AD}{l:List AD}(h:D8 x)(b:x.2.1.length≠4096)(d:Lg e)(c:e.1=x.1+x.2.1.length)(a:l=x.2.1++[e]):D8 (x.1,l,x.2.2):=by have⟨a1,a2,a3,a4,a5,a6⟩:=h;subst a;refine⟨a1,a2,w!,a4,w!,λi f g=>?_⟩;grind[Nat.lt_or_ge,List.getElem?_append_right,List.getElem?_eq_none]
def D8.force{x:Ah}{n:Int}(h:D8 x)(a:n<=x.1+x.2.1.length-1):D8 (x.1,x.2.1,if n>x.2.2 then n else x.2.2):=by have⟨a1,a2,a3,a4,a5,a6⟩:=h;refine⟨a1,a2,a3,?_,?_,a6⟩<;>(dsimp only;split<;>omega)
def Gg{x:Ah}:Av (Fa x) λr=>D8 x->r=x.1+x.2.1.length-1:=by
 unfold Fa;repeat' with_reducible first|intro a|apply AO|apply AJ|apply AB|(apply AA (Bn);intro r hr)|(apply AA (Fk);intro r hr)
 all_goals ((try dsimp[len]at*);(try first|omega|assumption|grind[D8.last]))
def Jl{x:Ah×Int}:Av (ET x) λr=>(r.2=0->D8 r.1/\r.1.2.1=x.1.2.1/\r.1.1=x.1.1/\x.1.2.2<=r.1.2.2/\x.2<=r.1.2.2):=by
 unfold ET;repeat' with_reducible first|apply AC<;>intro a|apply AO<;>intro a|apply AJ<;>intro a|apply AB|(apply AA (Bn);intro r hr)|(apply AA (Fk);intro r hr)
 all_goals try (intro _;have b:D8 x.1:=q!
                have c:=b.last;exact⟨b.force o!,rfl,rfl,by dsimp only;split<;>omega,by dsimp only;split<;>omega⟩)
 all_goals exact l!
theorem G5{x:Ah×Int}:Av (E8 x) λr=>(r.2=0->Lg r.1/\r.1.1=x.2/\x.1.2.1[(x.2-x.1.1).toNat]? =some r.1/\x.1.1<=x.2)/\(D8 x.1->x.1.1<=x.2->x.2<=x.1.1+x.1.2.1.length-1->r.2=0):=by
 unfold E8;repeat' with_reducible first|intro c|apply AC|apply AO|apply AJ|apply AB|(apply AA (Bn);intro r hr)|(apply AA (Fk);intro r hr)|(refine AM ?_ (AI ?_ ?_);rintro r ⟨hr,f⟩)
 all_goals try (have a:D8 x.1:=q!)
 all_goals try (have e:=a.last;have:=a.1;have:=a.2.1;have:=a.2.2.1)
 all_goals try (have d:wi (x.2-x.1.1)=x.2-x.1.1:=AZ)
 all_goals try (have b:=a.at (n:=x.2) o! o! hr;rw[d]at hr;exact⟨λ_=>⟨b.1,b.2,hr,o!⟩,λ_ _ _=>rfl⟩)
 all_goals exact l!
def Zf{x:Ah×AD}:Av (KM x) λr=>(r.2.2=0->D8 r.1/\D8 x.1/\r.1.2.1=x.1.2.1++[(r.2.1,x.2.2)]/\r.1.1=x.1.1/\r.2.1=x.1.1+x.1.2.1.length/\r.1.2.2=x.1.2.2):=by
 unfold KM;repeat' with_reducible first|intro b|apply AO|apply AV|apply AJ|apply AB|(apply AA (Bn);intro r hr)|(apply AA (Fk);intro r hr)|(apply AA (CM);intro r hr)|(refine AM ?_ (Ac ?_);rintro r ⟨hr,c,d⟩)
 all_goals try (have a:D8 x.1:=q!)
 all_goals try (have c:=a.last;have:=a.1;have:=a.2.1;have:=a.2.2.1)
 all_goals ((try dsimp[len]at*);(try first|omega|assumption|grind[AZ,D8.append]))
def B7{x:AD}:Av (BB x) λr=>r=true↔x.2.1=1\/x.2.1=2:=by
 unfold BB;repeat' with_reducible first|intro a|apply AV|apply AJ|apply AB
 all_goals exact l!
end Go.Pm
namespace Go.Pm
open Go Go.Ab
set_option maxHeartbeats 400000
def oy(n:Int):0<=IntKind.wrap .u64 n:=by rw[TZ];omega
theorem cU(l:List Int):(Gn l).length=l.length:=by simp[Gn]
def ZX{x:BY×Int×Int}{s:BY×Int}(h:0<=s.2/\s.2<=x.2.2/\x.2.2<=8/\(s.1.length:Int)=x.1.length+s.2/\x.1.length<=1099511627776):Av (Af (Gd x) s) λr=>(r.length:Int)=x.1.length+x.2.2:=by
 refine AS (λ(s:BY×Int)=>0<=s.2/\s.2<=x.2.2/\x.2.2<=8/\(s.1.length:Int)=x.1.length+s.2/\x.1.length<=1099511627776) (λ(s:BY×Int)=>(x.2.2-s.2).toNat) h (λs b=>?_);unfold Gd;repeat' with_reducible first|intro a|apply AC|apply AJ|apply AB|apply ZV|(refine AM ?_ (Cp ?_);rintro r ⟨hr,c⟩)
 all_goals try (have d:=oy (wi (8*s.2));omega)
 all_goals ((try dsimp[len]at*);(try first|omega|assumption|grind[AZ,cU]))
def DY{x:BY×Int×Int}(h:x.1.length<=1099511627776):Av (Aj x) λr=>(1<=x.2.2->x.2.2<=8->(r.length:Int)=x.1.length+x.2.2)/\r.length<=x.1.length+8:=by
 unfold Aj;repeat' with_reducible first|intro a|apply AC|apply AJ|apply AB|(refine AM ?_ (ZX ?_);intro r hr)
 all_goals exact l!
def yk{n:Int}(h:n<=4):(2:Int)^(8*n.toNat)<=4294967296:=by
 have:n.toNat=0\/n.toNat=1\/n.toNat=2\/n.toNat=3\/n.toNat=4:=o!
 rcases this with h|h|h|h|h<;>rw[h]<;>decide
def ADP{n:Int}(h:n<=2):(2:Int)^(8*n.toNat)<=65536:=by
 have:n.toNat=0\/n.toNat=1\/n.toNat=2:=o!
 rcases this with h|h|h<;>rw[h]<;>decide
def ABW{a b:Int}{k:Nat}(e:0<=a)(c:a<2^k)(f:0<=b)(d:b<2^k)(g:k<=64):(0:Int)<=((BitVec.toNat (BitVec.ofInt 64 a|||BitVec.ofInt 64 b):Nat):Int)/\((BitVec.toNat (BitVec.ofInt 64 a|||BitVec.ofInt 64 b):Nat):Int)<2^k:=by
 refine⟨o!,?_⟩;obtain⟨n,rfl⟩:=FF e;obtain⟨m,rfl⟩:=FF f;have hn:n<2^k:=by exact_mod_cast c
 have h:m<2^k:=by exact_mod_cast d
 have i:2^k<=2^64:=cN g! g;rw[BitVec.toNat_or];simp[iL,iM];rw[Wx o!,Wx o!];exact_mod_cast Nat.or_lt_two_pow hn h
def vS{a v i:Int}(d:0≤i)(e:i<8)(c:0≤a)(b:a<2^(8*i.toNat))(g:0≤v)(h:v<256):
  0<=IntKind.wrap .u64 (((BitVec.toNat ((BitVec.ofInt 64 a)|||(BitVec.ofInt 64 (IntKind.wrap .u64 ((IntKind.wrap .u64 v)*(2^(min (Int.toNat (IntKind.wrap .u64 (wi (8*i)))) 64))))))):Nat):Int)/\
  IntKind.wrap .u64 (((BitVec.toNat ((BitVec.ofInt 64 a)|||(BitVec.ofInt 64 (IntKind.wrap .u64 ((IntKind.wrap .u64 v)*(2^(min (Int.toNat (IntKind.wrap .u64 (wi (8*i)))) 64))))))):Nat):Int)<2^(8*(wi (i+1)).toNat):=by
 rw[(AZ),(AZ),(by rw[TZ];omega:IntKind.wrap .u64 (8*i)=8*i),(by rw[TZ];omega:IntKind.wrap .u64 v=v)];obtain⟨n,rfl⟩:=FF d;obtain⟨m,rfl⟩:=FF g;rw[(by omega:min (8*(n:Int)).toNat 64=8*n)];rw[(by omega:((n:Int)+1).toNat=n+1)];rw[(by omega:((n:Int)).toNat=n)]at b;have f:(m:Int)*2^(8*n)<2^(8*(n+1)):=by
  have:(m*2^(8*n):Nat)<2^(8*(n+1)):=by rw[(by grind[Nat.mul_add,Nat.pow_add]:2^(8*(n+1))=256*2^(8*n))];exact Nat.mul_lt_mul_of_pos_right o! (Nat.pow_pos g!)
  exact_mod_cast this
 have l:(2:Int)^(8*(n+1))<=2^64:=by have:(2^(8*(n+1)):Nat)<=2^64:=cN g! o!;exact_mod_cast this
 have j:(0:Int)<=(m:Int)*2^(8*n):=by
  have:(0:Int)<=((m*2^(8*n):Nat):Int):=o!
  exact_mod_cast this
 rw[(by rw[TZ];omega:IntKind.wrap .u64 ((m:Int)*2^(8*n))=(m:Int)*2^(8*n))];have⟨q1,q2⟩:=ABW (k:=8*(n+1)) c (by grind[Nat.pow_le_pow_right]) j f o!;grind[BitVec.toNat,TZ]
def ZW{x:BY×Int×Int}{s:Int×Int}(h:0<=s.2/\s.2<=x.2.2/\x.2.2<=8/\0<=x.2.1/\x.2.1+x.2.2<=x.1.length/\x.1.length<=1099511627776/\0<=s.1/\s.1<2^(8*s.2.toNat)):Av (Af (Gc x) s) λr=>0<=r/\r<2^(8*x.2.2.toNat):=by
 refine AS (λ(s:Int×Int)=>0<=s.2/\s.2<=x.2.2/\x.2.2<=8/\0<=x.2.1/\x.2.1+x.2.2<=x.1.length/\x.1.length<=1099511627776/\0<=s.1/\s.1<2^(8*s.2.toNat)) (λ(s:Int×Int)=>(x.2.2-s.2).toNat) h (λs n=>?_);unfold Gc;have⟨d,q,f,g,j,k,l,m⟩:=n;repeat' with_reducible first|intro o|apply AC|apply AJ|apply AB|apply ZV|(refine AM ?_ (Tq ?_ ?_);rintro r ⟨hr,p⟩)
 all_goals try (have t:=oy (wi (8*s.2));omega)
 all_goals (first|(have⟨b,c⟩:=vS (a:=s.1) (v:=r) (i:=s.2) d o! l m hr p;have e:=AZ (x:=s.2+1);exact⟨⟨o!,o!,f,g,j,k,b,c⟩,d!⟩)|skip)
 all_goals exact l!
def Ca{x:BY×Int×Int}(h:x.1.length<=1099511627776):Av (As x) λr=>r.2=0->0<=x.2.1/\x.2.1+x.2.2<=x.1.length/\(x.2.2<=4->0<=r.1/\r.1<4294967296)/\(x.2.2<=2->r.1<65536):=by
 unfold As;repeat' with_reducible first|apply AC<;>intro c|apply AJ<;>intro c|apply AB|(refine AM ?_ (ZW ?_);intro r hr)
 all_goals dsimp[len]at*
 all_goals first
  |omega
  |(intro d;exact absurd d g!)
  |(have e:=AZ (x:=(x.1.length:Int)-x.2.1);exact⟨o!,o!,o!,o!,o!,h,o!,k!⟩)
  |(intro _;have e:=AZ (x:=(x.1.length:Int)-x.2.1);refine⟨o!,o!,λb=>?_,λa=>?_⟩;(have:=yk b;rw[AZ];omega);(have:=ADP a;rw[AZ];omega))
def ZZ  {s:Int×Int}(h:0<=s.2/\s.2<=8):Av (Af (H6) s) λr=>True:=by
 refine AS (λ(s:Int×Int)=>0<=s.2/\s.2<=8) (λ(s:Int×Int)=>(8-s.2).toNat) h (λs b=>?_);unfold H6;repeat' with_reducible first|intro a|apply AC|apply AV|apply AJ|(apply A2;try dsimp only)|apply BX|apply Bl|apply AB
 all_goals exact l!
def ZY{x:BY}{s:Int×Int}(h:0<=s.2/\s.2<=x.length/\x.length<=1099511627776):Av (Af (H4 x) s) λr=>True:=by
 refine AS (λ(s:Int×Int)=>0<=s.2/\s.2<=x.length/\x.length<=1099511627776) (λ(s:Int×Int)=>((x.length:Int)-s.2).toNat) h (λs b=>?_);unfold H4;repeat' with_reducible first|intro a|apply AC|apply AJ|apply AB|(refine AM ?_ (ZZ ?_);intro r hr)|(refine AM ?_ (Tq ?_ ?_);rintro r ⟨hr,c⟩)
 all_goals exact l!
def PW{x:BY}(h:x.length<=1099511627776):Av (E7 x) λr=>True:=by
 unfold E7;repeat' with_reducible first|apply AB|(refine AM ?_ (ZY ?_);intro r hr)
 all_goals exact l!
theorem S7{x:BY}:Av (DX x) λr=>r.length<=8408:=by
 unfold DX;repeat' with_reducible first|intro a|apply AC|apply AJ|apply AB|(refine AM ?_ (DY ?_);intro r hr)|(refine AM ?_ (PW ?_);intro r hr)|(refine AM ?_ (Cp ?_);rintro r ⟨hr,b⟩)
 all_goals dsimp[len]at*
 all_goals exact l!
theorem Qy{x:BY×Int}(h:x.1.length<=1099511627776):Av (BT x) λr=>r.2.2=0->r.1.length<=8392/\x.2+8+r.1.length=r.2.1/\0<=x.2/\r.2.1<=x.1.length:=by
 unfold BT;repeat' with_reducible first|intro a|apply AC|apply AL|apply AJ|apply AB|(refine AM ?_ (Ca ?_);intro r hr)|(refine AM ?_ (PW ?_);intro r hr)|(refine AM ?_ (Ch ?_ ?_ ?_);rintro r ⟨hr,b⟩)
 all_goals dsimp[len]at*
 all_goals exact l!
def dj{x:BY×Cg}(h:x.1.length<=1099511627776)(b:x.2.2.length<=16777216):Av (GO x) λr=>r.length<=x.1.length+8+x.2.2.length:=by
 unfold GO;repeat' with_reducible first|intro a|apply AO|apply AJ|apply AB|(refine AM ?_ (DY ?_);intro r hr)|(refine AM ?_ (Cp ?_);rintro r ⟨hr,c⟩)
 all_goals exact l!
def UX.lens{x:AD}(h:UX x):x.2.2.2.2.2.2.1.2.2.1.2.length<=12/\x.2.2.2.2.2.2.1.2.2.2.2.length<=12/\x.2.2.2.2.2.2.2.length<=8192:=by grind[UX,OP,Ig,Pg]
theorem Zd{x:AD}:Av (Fj x) λr=>r.1.length<=8400:=by
 unfold Fj;repeat' with_reducible first|intro a|apply AO|apply AJ|apply AB|(apply AA (CM);intro r hr)|(refine AM ?_ (DY ?_);intro r hr)|(refine AM ?_ (dj ?_ ?_);intro r hr)|(refine AM ?_ (Cp ?_);rintro r ⟨hr,b⟩)
 all_goals try (have c:=(UX.lens (x:=x) (by unfold Lg at*;grind)))
 all_goals exact l!
def ADH(k:Nat):(0:Int)<256^k:=by have:0<256^k:=Nat.pow_pos g!;grind
def AGD(b k:Nat):(b:Int)*256^k=((b*256^k:Nat):Int):=q!
def Df(n:Int):Nat->BY
 |0=>[]
 |k+1=>UInt8.ofNat (n%256).toNat::Df (n/256) k
def lu:BY->Nat
 |[]=>0
 |b::r=>b.toNat+256*lu r
theorem A0: ∀(k:Nat) (n:Int),(Df n k).length=k
 |0,n=>rfl
 |k+1,n=>by rw[Df,By,A0 k]
theorem qJ: ∀l:BY,lu l<256^l.length
 |[]=>by simp[lu]
 |b::r=>by have a:=qJ r;have c:=b.toNat_lt;grind[lu,List.length_cons,Nat.pow_succ]
def yb: ∀l:BY,Df (lu l:Int) l.length=l
 |[]=>rfl
 |b::r=>by have a:=b.toNat_lt;rw[By,Df,(by rw[lu];omega:((lu (b::r):Nat):Int)/256=(lu r:Int)),(by rw[lu];omega:(((lu (b::r):Nat):Int)%256).toNat=b.toNat),yb r];simp
def sR: ∀(k:Nat) (n m:Int),n%256^k=m%256^k->Df n k=Df m k
 |0,_,_,_=>rfl
 |k+1,n,m,h=>by
  have e:(256:Int)^(k+1)=256^k*256:=Int.pow_succ ..;have b:n%256=m%256:=by have a:n%256^(k+1)%256=n%256:=Int.emod_emod_of_dvd n ⟨256^k,by rw[e,Int.mul_comm]⟩;simp_all
  have c:n/256%256^k=m/256%256^k:=by
   have g: ∀x:Int,x/256%256^k=x%256^(k+1)/256:=λx=>by have d:=mS (x/256) (256^k);have f:=mS x (256*256^k);grind[Int.ediv_ediv_of_nonneg]
   grind
  rw[Df,Df,b,sR k _ _ c]
def qI: ∀(k:Nat) (n:Int),Df n (k+1)=Df n k++[UInt8.ofNat (n/256^k%256).toNat]
 |0,n=>by simp[Df]
 |k+1,n=>by rw[Df,qI k (n/256),Df];grind[Int.pow_succ,Int.mul_comm,Int.ediv_ediv_of_nonneg]
def ol: ∀(k:Nat) (n:Int),((lu (Df n k):Nat):Int)=n%256^k
 |0,n=>by simp[Df,lu]
 |k+1,n=>by
  rw[Df,lu];have b:(UInt8.ofNat (n%256).toNat).toNat=(n%256).toNat:=by grind[UInt8.toNat_ofNat']
  have c:=ol k (n/256);have a:=mS (n/256) (256^k);grind[Int.mul_ediv_add_emod,Int.ediv_ediv_of_nonneg]
theorem qK: ∀(l:BY) (b:UInt8),lu (l++[b])=lu l+b.toNat*256^l.length
 |[],b=>by simp[lu]
 |a::r,b=>by rw[aB,lu,qK r b,lu,By,Nat.pow_succ,Nat.mul_add];grind
def cF(k:Nat)(n:Int):Prop:=(k<=7->0<=n/\n<256^k)/\ -9223372036854775808<=n/\n<=9223372036854775807
theorem Yk{k:Nat}(f:k<=8){n m:Int}(hn:cF k n)(d:cF k m)(h:Df n k=Df m k):n=m:=by
 have e:=ol k n;rw[h,ol k m]at e;by_cases c:k<=7;have a:=hn.1 c;have b:=d.1 c;grind[Int.emod_eq_of_lt];have:k=8:=o!
 have a:=hn.2;have b:=d.2;grind
def rd(l:BY):Int:=wi (lu l:Int)
def AGE{k:Nat}(h:k<=7):(256:Int)^k<=72057594037927936:=by
 have:k=0\/k=1\/k=2\/k=3\/k=4\/k=5\/k=6\/k=7:=o!
 grind
theorem xX{l:BY}(h:l.length<=8):cF l.length (rd l):=by have b:=qJ l;have d:rd l=((lu l:Int)+9223372036854775808)%18446744073709551616-9223372036854775808:=ACC _;refine⟨λa=>?_,o!⟩;have c:=AGE a;grind
theorem uE{l:BY}(h:l.length<=8):Df (rd l) l.length=l:=by
 rw[show Df (rd l) l.length=Df (lu l:Int) l.length from ?_,yb];apply sR;by_cases a:l.length<=7;have c:=AGE a;have b:(lu l:Int)<256^l.length:=by grind[qJ]
 have:rd l=(lu l:Int):=by unfold rd;exact AZ
 rw[this];have:l.length=8:=o!
 rw[this,show(256:Int)^8=18446744073709551616 by decide];unfold rd;rw[ACC];omega
theorem nQ{k:Nat}{n:Int}(a:k<=8)(h:cF k n):rd (Df n k)=n:=by grind[A0,Yk,xX,Df,uE]
def xU(k:Nat):(2:Int)^(8*k)=256^k:=by grind[Int.pow_mul]
def ABh{n:Int}{i:Int}(c:0<=i)(d:i<8):Gn ([IntKind.wrap .u8 (Int.fdiv (IntKind.wrap .u64 n) (2^(min (Int.toNat (IntKind.wrap .u64 (wi (8*i)))) 64)))]:List Int)=[UInt8.ofNat (n/256^i.toNat%256).toNat]:=by
 have a:wi (8*i)=8*i:=AZ;have b:IntKind.wrap .u64 (8*i)=8*i:=by rw[TZ];omega
 rw[a,b,show min (8*i).toNat 64=8*i.toNat by omega,xU];have e:=ADH i.toNat
 rw[iO _ o!,TZ,AGR];have:n%18446744073709551616/256^i.toNat%256=n/256^i.toNat%256:=by
  have:i.toNat=0\/i.toNat=1\/i.toNat=2\/i.toNat=3\/i.toNat=4\/i.toNat=5\/i.toNat=6\/i.toNat=7:=o!
  rcases this with h|h|h|h|h|h|h|h<;>rw[h];rw[show(256:Int)^0=1 by decide];omega;rw[show(256:Int)^1=256 by decide];omega;rw[show(256:Int)^2=65536 by decide];omega;rw[show(256:Int)^3=16777216 by decide];omega;rw[show(256:Int)^4=4294967296 by decide];omega;rw[show(256:Int)^5=1099511627776 by decide];omega;rw[show(256:Int)^6=281474976710656 by decide];omega;rw[show(256:Int)^7=72057594037927936 by decide];omega
 rw[this];rfl
theorem Hl{s:BY}{n:Int}{k:Int}(h:s.length<=1099511627776)(i:1<=k)(j:k<=8):Aj (s,(n,k))=some (s++Df n k.toNat):=by
 have key:Av (Af (Gd (s,(n,k))) (s,0)) λr=>r=s++Df n k.toNat:=by refine AS (λ(t:BY×Int)=>0<=t.2/\t.2<=k/\t.1=s++Df n t.2.toNat) (λt=>(k-t.2).toNat) ⟨Ag _,d!,by simp[Df]⟩ ?_;rintro⟨l,a⟩ ⟨b,g,c⟩;dsimp only at b g c;subst c;unfold Gd;dsimp only;refine AC (λd=>?_) (λd=>AB (by rw[show a=k by omega]));refine AC (λe=>absurd e (by have:=oy (wi (8*a));omega)) (λ_=>?_);rw[ABh b o!];refine AA (Cp (by rw[Ad,A0];simp;omega)) λv f=>AB ?_;rw[(AZ)];refine⟨⟨o!,o!,?_⟩,o!⟩;rw[f.1,show(a+1).toNat=a.toNat+1 by omega,qI,Ay]
 obtain⟨r,hr,rfl⟩:=key;unfold Aj;grind
def wL{a t:BY}{i:Int}(c:0<=i)(d:i<t.length)(e:(a.length:Int)<=2199023255552)(f:(t.length:Int)<=2199023255552): ∃b:UInt8,six (a++t) (wi ((a.length:Int)+i))=some (b.toNat:Int)/\t.take (i+1).toNat=t.take i.toNat++[b]:=by obtain⟨k,rfl⟩:=FF c;refine⟨t[k],?_,?_⟩;grind[AZ,six];simp_all
theorem AE7{a b k:Nat}(h:a<256^k)(f:b<256)(g:k<8):BitVec.toNat (BitVec.ofInt 64 (a:Int)|||BitVec.ofInt 64 ((b:Int)*256^k))=a+b*256^k:=by
 have e:(256:Nat)^k=2^(8*k):=by rw[Nat.pow_mul]
 have d:a+b*256^k<256^(k+1):=by
  have:b*256^k+256^k<=256*256^k:=by rw[<-Nat.succ_mul];exact P9 _ o!
  omega
 have c:(256:Nat)^(k+1)<=2^64:=by rw[show(2:Nat)^64=256^8 by decide];exact cN g! o!
 rw[AGD];rw[BitVec.toNat_or,iL,iL,iM,iM,Wx o!,Wx o!];grind[Nat.mul_comm,Nat.two_pow_add_eq_or_of_lt]
theorem yR{a:Nat}{b:UInt8}{i:Int}(g:0<=i)(h:i<8)(k:a<256^i.toNat)(j:Int)(d:j=8*i):IntKind.wrap .u64 (((BitVec.toNat ((BitVec.ofInt 64 (a:Int))|||(BitVec.ofInt 64 (IntKind.wrap .u64 ((IntKind.wrap .u64 (b.toNat:Int))*(2^(min (Int.toNat j) 64))))))):Nat):Int)=((a+b.toNat*256^i.toNat:Nat):Int):=by
 have l:=b.toNat_lt;have c:(256:Nat)^(i.toNat+1)<=2^64:=by rw[show(2:Nat)^64=256^8 by decide];exact cN g! o!
 have e:a+b.toNat*256^i.toNat<256^(i.toNat+1):=by
  have:b.toNat*256^i.toNat+256^i.toNat<=256*256^i.toNat:=by rw[<-Nat.succ_mul];exact P9 _ o!
  omega
 rw[d,(by rw[TZ];omega:IntKind.wrap .u64 (b.toNat:Int)=b.toNat),show min (8*i).toNat 64=8*i.toNat by omega,xU];have f:IntKind.wrap .u64 ((b.toNat:Int)*256^i.toNat)=(b.toNat:Int)*256^i.toNat:=by rw[TZ,AGD];omega
 grind[AE7,TZ]
theorem fx{a t:BY}{k:Int}(h:(a.length:Int)+t.length<=2199023255552)(v:1<=k)(w:k<=8):As (a++t,((a.length:Int),k))=if k<=t.length then some (rd (t.take k.toNat),0)else some (0,5):=by
 unfold As;dsimp only;have d:len (a++t)=(a.length:Int)+t.length:=by unfold len;rw[List.length_append];omega
 rw[decide_eq_false o!,cond_false,decide_eq_false o!,cond_false,decide_eq_false o!,cond_false,decide_eq_false o!,cond_false];have q:wi (len (a++t)-(a.length:Int))=t.length:=by rw[d,AZ];omega
 by_cases g:k<=t.length;rw[decide_eq_false o!,cond_false,if_pos g];have key:Av (Af (Gc (a++t,((a.length:Int),k))) (0,0)) λr=>r=(lu (t.take k.toNat):Int):=by
  refine AS (λ(s:Int×Int)=>0<=s.2/\s.2<=k/\s.1=(lu (t.take s.2.toNat):Int)) (λs=>(k-s.2).toNat) ⟨Ag _,d!,by simp[lu]⟩ ?_;rintro⟨x,c⟩ ⟨f,u,l⟩;dsimp only at f u l;subst l;unfold Gc;dsimp only;refine AC (λo=>?_) (λo=>AB (by rw[show c=k by omega]));obtain⟨b,q1,q2⟩:=wL (a:=a) (t:=t) (i:=c) f o! o! o!;rw[q1,AE];refine AC (λp=>absurd p (by have:=oy (wi (8*c));omega)) (λ_=>AB ?_);have e:wi (c+1)=c+1:=AZ;have m:wi (8*c)=8*c:=AZ;have n:IntKind.wrap .u64 (8*c)=8*c:=by rw[TZ];omega
  have j:(t.take c.toNat).length=c.toNat:=by rw[Ba];omega
  dsimp only;rw[e,yR f o! (by have:=qJ (t.take c.toNat);rwa [j]at this) _ (by rw[m,n])];refine⟨⟨o!,o!,?_⟩,o!⟩;rw[q2,qK,j]
 obtain⟨r,hr,rfl⟩:=key;rw[hr];rfl;rw[decide_eq_true o!,cond_true,if_neg g]
theorem Yn{a t:BY}{k:Int}(h:(a.length:Int)+t.length<=2199023255552)(p:1<=k)(q:k<=8):CQ (a++t,((a.length:Int),k))=if k<=t.length then some (rd (t.take k.toNat),0)else some (0,5):=by
 unfold CQ;dsimp only;have f:len (a++t)=(a.length:Int)+t.length:=q!
 rw[decide_eq_false o!,cond_false,decide_eq_false o!,cond_false,decide_eq_false o!,cond_false,decide_eq_false o!,cond_false];have m:wi (len (a++t)-(a.length:Int))=t.length:=by grind[AZ]
 by_cases l:k<=t.length;rw[decide_eq_false o!,cond_false,if_pos l];have key:Av (Af (Ts (a++t,((a.length:Int),k))) (0,0)) λr=>r=(lu (t.take k.toNat):Int):=by refine AS (λ(s:Int×Int)=>0<=s.2/\s.2<=k/\s.1=(lu (t.take s.2.toNat):Int)) (λs=>(k-s.2).toNat) ⟨Ag _,d!,by simp[lu]⟩ ?_;rintro⟨u,c⟩ ⟨d,n,e⟩;dsimp only at d n e;subst e;unfold Ts;dsimp only;refine AC (λg=>?_) (λg=>AB (by rw[show c=k by omega]));have⟨b,q1,q2⟩:=wL (a:=a) (t:=t) (i:=c) d o! o! o!;have o:wi (8*c)=8*c:=AZ;rw[q1,AE];refine AC (λj=>absurd j o!) (λ_=>AB ?_);grind[AZ,yR,qJ,qK]
 obtain⟨r,hr,rfl⟩:=key;rw[hr];rfl;grind
def OH(x:BY×Int×Int):Option BY:=
 bif decide (x.1.length<=1099511627776)&&(decide (1<=x.2.2)&&decide (x.2.2<=8))then some (x.1++Df x.2.1 x.2.2.toNat)else none
def Kj(x:BY×Int):Option BY:=
 bif (x.1==[0])&&(decide (0<=x.2)&&decide (x.2<=8000))then some (List.replicate x.2.toNat 0)else none
end Go.Pm
