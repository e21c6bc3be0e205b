/- What these functions answer, part 8. Texts of the folder wip, laid in few files with shorter names by a program (wip/tools/pack.py); nothing is assumed. -/
import Derived.Test.YtacnadmajkjfbaaGreatK7
import Derived.KernelRfl
noncomputable section
set_option linter.unusedVariables false
set_option linter.unusedSimpArgs false
set_option linter.unusedSectionVars false
set_option linter.defProp false
set_option linter.unnecessarySimpa false
set_option linter.deprecated false
namespace Go.Pm
open Go Go.Ab
set_option maxHeartbeats 400000
def HZ(x:FG):Prop:=x.2.length<=12/\(x.1=true\/x.2=[])
def Tr(x:D7):Prop:=0<=x.1/\x.1<64/\0<=x.2.1/\x.2.1<16/\HZ x.2.2.1/\HZ x.2.2.2
def Jm{x:FG}:Ay (DH x) λr=>r=true↔HZ x:=by
 unfold DH HZ
 repeat' first
   |with_reducible apply AC<;>intro a
   |with_reducible apply AQ<;>intro a
   |with_reducible apply AI<;>intro a
   |(with_reducible apply BF;try dsimp only)
   |with_reducible apply BP
   |with_reducible apply BZ
   |with_reducible apply AA
 all_goals grind
def Rr{x:D7}:Ay (IK x) λr=>r=true↔Tr x:=by
 unfold IK Tr
 repeat' first
   |with_reducible apply AC<;>intro a
   |with_reducible apply AI<;>intro a
   |(with_reducible apply BF;try dsimp only)
   |with_reducible apply BP
   |with_reducible apply BZ
   |with_reducible apply AA
   |(with_reducible apply AB (Jm);intro r hr)
 all_goals grind
def Ox:D7:=(0,0,(false,[]),(false,[]))
def Vb(x:AD):Prop:=
 (x.2.1=1/\x.2.2.2.2.2.1=0/\x.2.2.2.2.2.2.2=[]/\1<=x.2.2.1/\x.2.2.1<=1073741824/\Tr x.2.2.2.2.2.2.1)\/
 (x.2.1=2/\0<x.2.2.2.1/\1<=x.2.2.2.2.2.1/\x.2.2.2.2.2.1<=x.2.2.2.1/\x.2.2.2.2.2.2.2=[]/\1<=x.2.2.1/\x.2.2.1<=1073741824/\Tr x.2.2.2.2.2.2.1)\/
 ((x.2.1=3\/x.2.1=4\/x.2.1=5)/\0<x.2.2.2.1/\x.2.2.2.2.1=0/\x.2.2.2.2.2.1=0/\x.2.2.2.2.2.2.1=Ox/\x.2.2.2.2.2.2.2=[]/\1<=x.2.2.1/\x.2.2.1<=1073741824)\/
 ((x.2.1=6\/x.2.1=8)/\x.2.2.1=0/\x.2.2.2.1=0/\x.2.2.2.2.1=0/\x.2.2.2.2.2.1=0/\x.2.2.2.2.2.2.1=Ox/\x.2.2.2.2.2.2.2.length<=8192)\/
 (x.2.1=7/\x.2.2.1=0/\x.2.2.2.1=0/\x.2.2.2.2.1=0/\0<=x.2.2.2.2.2.2.1.1/\x.2.2.2.2.2.2.1.1<64/\x.2.2.2.2.2.2.1.2=Ox.2/\x.2.2.2.2.2.2.2=[])
def OQ(x:AD):Prop:=1<=x.1/\x.1<=1099511627776/\0<=x.2.2.2.1/\x.2.2.2.1<x.1/\0<=x.2.2.2.2.1/\x.2.2.2.2.1<x.1/\0<=x.2.2.2.2.2.1/\x.2.2.2.2.2.1<x.1/\Vb x
def X5{x:Int×Int}:Ay (GZ x) λr=>r=true↔0<=x.1/\x.1<x.2:=by
 unfold GZ;repeat' with_reducible first|apply AC<;>intro a|apply AI<;>intro a|apply AA
 all_goals grind
def Zd{x:AD}:Ay (Kf x) λr=>(r.2=true/\r.1=x)↔Vb x:=by
 obtain⟨a,b,c,d,e,f,⟨g,h,⟨i,j⟩,k,l⟩,m⟩:=x;unfold Kf Vb Ox;dsimp only
 repeat' first
   |with_reducible apply AC<;>intro n
   |with_reducible apply AQ<;>intro n
   |with_reducible apply AI<;>intro n
   |(with_reducible apply BF;try dsimp only)
   |with_reducible apply BP
   |with_reducible apply BZ
   |with_reducible apply AA
   |(with_reducible apply AB (Rr);intro r hr)
 all_goals grind
def B8{x:AD}:Ay (Ck x) λr=>r=true↔OQ x:=by
 unfold Ck;refine AB Zd λn A=>?_;have e:((n.1.1==x.1)&&((n.1.2.1==x.2.1)&&((n.1.2.2.1==x.2.2.1)&&((n.1.2.2.2.1==x.2.2.2.1)&&((n.1.2.2.2.2.1==x.2.2.2.2.1)&&((n.1.2.2.2.2.2.1==x.2.2.2.2.2.1)&&((n.1.2.2.2.2.2.2.1.1==x.2.2.2.2.2.2.1.1)&&((n.1.2.2.2.2.2.2.1.2.1==x.2.2.2.2.2.2.1.2.1)&&((n.1.2.2.2.2.2.2.1.2.2.1.1==x.2.2.2.2.2.2.1.2.2.1.1)&&((n.1.2.2.2.2.2.2.1.2.2.1.2==x.2.2.2.2.2.2.1.2.2.1.2)&&((n.1.2.2.2.2.2.2.1.2.2.2.1==x.2.2.2.2.2.2.1.2.2.2.1)&&((n.1.2.2.2.2.2.2.1.2.2.2.2==x.2.2.2.2.2.2.1.2.2.2.2)&&((n.1.2.2.2.2.2.2.2==x.2.2.2.2.2.2.2)&&true)))))))))))))=true↔n.1=x:=by obtain⟨⟨a,b,c,d,e,f,⟨g,h,⟨i,j⟩,k,l⟩,m⟩,z⟩:=n;obtain⟨p,q,s,t,u,v,⟨w,y,⟨B,C⟩,D,E⟩,F⟩:=x;simp[and_assoc]
 generalize ((n.1.1==x.1)&&_)=bb at e⊢;unfold OQ
 repeat' first
   |with_reducible apply AC<;>intro o
   |with_reducible apply AQ<;>intro o
   |with_reducible apply AI<;>intro o
   |(with_reducible apply BF;try dsimp only)
   |with_reducible apply BP
   |with_reducible apply BZ
   |with_reducible apply AA
   |(with_reducible apply AB (X5);intro r hr)
 all_goals grind
def EQ{x:Ag}:Ay (CZ x) λr=>r=wi (wi (x.1+len x.2.1)-1):=by
 unfold CZ;repeat' with_reducible first|apply AA
 all_goals grind
def D2(x:Ag):Prop:=1<=x.1/\x.1<=1099511627776/\x.2.1.length<=4096/\x.1-1<=x.2.2/\x.2.2<=x.1+x.2.1.length-1/\ ∀(i:Nat) (e:AD),x.2.1[i]? =some e->e.1=x.1+i/\OQ e
def Vv{x:Ag}{s:Int}(h:0<=s/\s<=x.2.1.length/\x.2.1.length<=4096/\1<=x.1/\x.1<=1099511627776/\ ∀(i:Nat) (e:AD),i<s->x.2.1[i]? =some e->e.1=x.1+i/\OQ e):Ay (Ad (MO x) s) λr=>(r= .inl false/\ ¬D2 x)\/(r= .inr ()/\ ∀(i:Nat) (e:AD),x.2.1[i]? =some e->e.1=x.1+i/\OQ e):=by
 refine AM (λ(s:Int)=>0<=s/\s<=x.2.1.length/\x.2.1.length<=4096/\1<=x.1/\x.1<=1099511627776/\ ∀(i:Nat) (e:AD),i<s->x.2.1[i]? =some e->e.1=x.1+i/\OQ e) (λ(s:Int)=>((x.2.1.length:Int)-s).toNat) h (λs b=>?_);unfold MO;obtain⟨c,d,f,g,j,k⟩:=b;repeat' with_reducible first|apply AC<;>intro a|apply AO<;>intro a|apply AL<;>intro a|apply AI<;>intro a|apply AA|(apply AB (B8);intro r hr)|(refine AJ ?_ (AE ?_ ?_);rintro r ⟨hr,l⟩)
 all_goals try (first|omega|grind[AW,D2])
def Br{x:Ag}:Ay (CK x) λr=>r=true↔D2 x:=by
 unfold CK;repeat' with_reducible first|apply AC<;>intro a|apply AI<;>intro a|(apply BG;try dsimp only)|(apply BE;try dsimp only)|(apply A3<;>(intro u b;try subst b))|apply AA|(apply AB (EQ);intro r hr)|(refine AJ ?_ (Vv ?_);intro r hr)
 all_goals try (first|omega|grind[AW,D2])
def j8(x:A9):Prop:=0<=x.1/\x.1<64/\0<=x.2.1/\x.2.1<=1099511627776/\ ∀i,HZ (x.2.2 i)/\(x.2.1=0->(x.2.2 i).1=false)
def QD{x:A9}:Ay (HI x) λr=>r=true↔0<=x.1/\x.1<64/\0<=x.2.1/\x.2.1<=1099511627776:=by
 unfold HI;repeat' with_reducible first|apply AC<;>intro a|apply AI<;>intro a|apply AA
 all_goals grind
def Vr{x:A9}{s:Int}(h:0<=s/\s<=16/\ ∀i:Fin 16,(i.val:Int)<s->HZ (x.2.2 i)/\(x.2.1=0->(x.2.2 i).1=false)):Ay (Ad (MG x) s) λr=>(r= .inl false/\ ¬ ∀i,HZ (x.2.2 i)/\(x.2.1=0->(x.2.2 i).1=false))\/(r= .inr ()/\ ∀i,HZ (x.2.2 i)/\(x.2.1=0->(x.2.2 i).1=false)):=by
 refine AM (λ(s:Int)=>0<=s/\s<=16/\ ∀i:Fin 16,(i.val:Int)<s->HZ (x.2.2 i)/\(x.2.1=0->(x.2.2 i).1=false)) (λ(s:Int)=>(16-s).toNat) h (λs b=>?_);unfold MG;repeat' with_reducible first|apply AC<;>intro a|apply AO<;>intro a|apply AQ<;>intro a|apply AI<;>intro a|apply AA|(apply AB (Jm);intro r hr)|(refine AJ ?_ (Dj ?_ ?_);intro r hr)
 all_goals ((try dsimp[len]at*);(try first|omega|assumption|grind[AW]))
def Rp{x:A9}:Ay (II x) λr=>r=true↔ ∀i,HZ (x.2.2 i)/\(x.2.1=0->(x.2.2 i).1=false):=by
 unfold II;repeat' with_reducible first|(apply BG;try dsimp only)|(apply BE;try dsimp only)|(apply A3<;>(intro u a;try subst a))|apply AA|(refine AJ ?_ (Vr ?_);intro r hr)
 all_goals first|omega|grind
def ZZ{x:A9}:Ay (Kb x) λr=>r=true↔j8 x:=by
 unfold Kb j8
 repeat' first
   |with_reducible apply AI<;>intro a
   |with_reducible apply AA
   |(with_reducible apply AB (QD);intro r hr)
   |(with_reducible apply AB (Rp);intro r hr)
 all_goals grind
def HH{x:A9}:Ay (Ef x) λr=>r=0->j8 x:=by
 unfold Ef j8
 repeat' first
   |with_reducible apply AO<;>intro a
   |with_reducible apply AA
   |(with_reducible apply AB (QD);intro r hr)
   |(with_reducible apply AB (Rp);intro r hr)
 all_goals grind
def ii(f:A0):Prop:=j8 f.1/\(f.2.1=true->1<=f.2.2.1/\f.2.2.1<=f.1.2.1)/\(f.2.1=false->f.2.2.1=0)
def Jf(l:List A0)(n:Int):Prop:=(∀(i:Nat) (f:A0),i<n->l[i]? =some f->ii f)/\ ∀(i j:Nat) (f g:A0),i<j->j<n->l[i]? =some f->l[j]? =some g->f.1.1≠g.1.1
def OR(x:Ba):Prop:=1<=x.1/\x.1<=64/\x.2.1.length<=x.1/\0<=x.2.2/\(x.2.1.length=0/\x.2.2=0\/x.2.2<x.2.1.length)/\Jf x.2.1 x.2.1.length
theorem Jf.step{l:List A0}{n:Int}{f:A0}(e:0<=n)(h:Jf l n)(o:l[n.toNat]? =some f)(r:ii f)(m: ∀(j:Nat) (g:A0),j<n->l[j]? =some g->g.1.1≠f.1.1):Jf l (n+1):=by
 refine⟨λi g p b=>?_,λi j g k c q b d=>?_⟩;rcases eN i n with a|a;exact h.1 i g a b;grind;rcases eN j n with a|a;exact h.2 i j g k c a b d;have:j=n.toNat:=by omega
 grind
theorem jV{l:List A0}{n:Int}{f:A0}(c:0<=n)(d:n<l.length)(a:l[n.toNat]? =some f)(b: ¬ii f): ¬Jf l l.length:=λh=>b (h.1 n.toNat f (by omega) a)
theorem jW{l:List A0}{n:Int}{f:A0}(e:0<=n)(i:n<l.length)(d:l[n.toNat]? =some f)(c: ∃(j:Nat) (g:A0),j<n/\l[j]? =some g/\g.1.1=f.1.1): ¬Jf l l.length:=λh=>by have⟨j,g,k,a,b⟩:=c;exact h.2 j n.toNat g f (by omega) (by omega) a d b
def Hk{x:Ba}{a:Int}{b:A0}{s:Int}(h:0<=s/\s<=a/\a<=x.2.1.length/\(x.2.1.length:Int)<=16777216/\ ∀(j:Nat) (g:A0),j<s->x.2.1[j]? =some g->g.1.1≠b.1.1):Ay (Ad (Fa x a b) s) λr=>(r= .inl false/\ ∃(j:Nat) (g:A0),j<a/\x.2.1[j]? =some g/\g.1.1=b.1.1)\/(r= .inr ()/\ ∀(j:Nat) (g:A0),j<a->x.2.1[j]? =some g->g.1.1≠b.1.1):=by
 refine AM (λ(s:Int)=>0<=s/\s<=a/\a<=x.2.1.length/\(x.2.1.length:Int)<=16777216/\ ∀(j:Nat) (g:A0),j<s->x.2.1[j]? =some g->g.1.1≠b.1.1) (λ(s:Int)=>(a-s).toNat) h (λs d=>?_);unfold Fa;repeat' with_reducible first|apply AC<;>intro c|apply AQ<;>intro c|apply AI<;>intro c|apply AA|(refine AJ ?_ (AE ?_ ?_);rintro r ⟨hr,e⟩)
 all_goals ((try dsimp[len]at*);(try first|omega|assumption|grind[AW]))
def V0{x:Ba}{s:Int}(h:0<=s/\s<=x.2.1.length/\(x.2.1.length:Int)<=16777216/\Jf x.2.1 s):Ay (Ad (MU x) s) λr=>(r= .inl false/\ ¬Jf x.2.1 x.2.1.length)\/(r= .inr ()/\Jf x.2.1 x.2.1.length):=by
 refine AM (λ(s:Int)=>0<=s/\s<=x.2.1.length/\(x.2.1.length:Int)<=16777216/\Jf x.2.1 s) (λ(s:Int)=>((x.2.1.length:Int)-s).toNat) h (λs d=>?_);unfold MU;repeat' with_reducible first|apply AC<;>intro a|apply AO<;>intro a|apply AL<;>intro a|apply AI<;>intro a|(apply BG;try dsimp only)|(apply BE;try dsimp only)|(apply A3<;>(intro u c;try subst c))|apply AA|(apply AB (ZZ);intro r hr)|(refine AJ ?_ (Hk ?_);intro r hr)|(refine AJ ?_ (Hk ?_);intro r hr)|(refine AJ ?_ (Hk ?_);intro r hr)|(refine AJ ?_ (Hk ?_);intro r hr)|(refine AJ ?_ (AE ?_ ?_);rintro r ⟨hr,f⟩)
 all_goals try (have e:=AW (x:=s+1))
 all_goals first|omega|(exact⟨by omega,by omega,by omega,by omega,λj g b=>absurd b (by omega)⟩)|grind[Jf.step,jV,jW,ii]
def Jf.zero(l:List A0):Jf l 0:=⟨λi f h=>absurd h (by omega),λi j f g h a=>absurd a (by omega)⟩
def ACD(n h:Int)(a:0<=n)(b:n<=64):(h>if wi (n-1)>0 then wi (n-1)else 0)↔ ¬(n=0/\h<=0\/h<n):=by grind[AW]
def EC{x:Ba}:Ay (DJ x) λr=>r=true↔OR x:=by
 unfold DJ OR
 repeat' first
   |with_reducible apply AC<;>intro b
   |(with_reducible apply A3<;>(intro u a;try subst a))
   |with_reducible apply AA
   |(with_reducible refine AJ ?_ (V0 ?_);intro r hr)
 all_goals try dsimp[len]at*
 all_goals first
  |(exact⟨by omega,by omega,by omega,Jf.zero _⟩)
  |(have c:=ACD (x.2.1.length) x.2.2 (by omega) (by omega);grind)
  |grind
def NK{x:Ao}:Ay (Gy x) λr=>True:=by
 unfold Gy;repeat' with_reducible first|apply AC<;>intro a|apply AQ<;>intro a|apply AI<;>intro a|apply AA
 all_goals ((try dsimp[len]at*);(try first|omega|assumption|grind[AW]))
def Sf{x:Ao×Ao}:Ay (FB x) λr=>True:=by
 unfold FB;repeat' with_reducible first|apply AC<;>intro a|apply AL<;>intro a|apply AI<;>intro a|apply AA
 all_goals ((try dsimp[len]at*);(try first|omega|assumption|grind[AW]))
def GG{x:Ao×Ao}:Ay (Dx x) λr=>True:=by
 unfold Dx;repeat' with_reducible first|apply AQ<;>intro a|apply AL<;>intro a|apply AI<;>intro a|apply AA
 all_goals ((try dsimp[len]at*);(try first|omega|assumption|grind[AW]))
def Wn{x:Aw×Int×Cl}{s:Int}(h:0<=s/\s<=x.1.1.length/\(x.1.1.length:Int)<=16777216):Ay (Ad (NO x) s) λr=>True:=by
 refine AM (λ(s:Int)=>0<=s/\s<=x.1.1.length/\(x.1.1.length:Int)<=16777216) (λ(s:Int)=>((x.1.1.length:Int)-s).toNat) h (λs b=>?_);unfold NO;repeat' with_reducible first|apply AC<;>intro a|apply AQ<;>intro a|apply AI<;>intro a|apply AA|(refine AJ ?_ (AE ?_ ?_);rintro r ⟨hr,c⟩)
 all_goals ((try dsimp[len]at*);(try first|omega|assumption|grind[AW]))
def Hj{x:Aw×Int×Cl}(h:x.1.1.length<=16777216):Ay (Dy x) λr=>True:=by
 unfold Dy;repeat' with_reducible first|(apply BG;try dsimp only)|(apply BE;try dsimp only)|(apply A3<;>(intro u a;try subst a))|apply AA|(refine AJ ?_ (Wn ?_);intro r hr)
 all_goals ((try dsimp[len]at*);(try first|omega|assumption|grind[AW]))
def F9(x:Aw):Prop:=x.1.length<=16777216/\x.2.length<=16777216
def PV{x:Aw}{a:Int}{s:Int}(h:s<a/\ -1<=s/\0<=a/\a<x.1.length/\x.1.length<=16777216):Ay (Ad (Ii x a) s) λr=>r≠ .inl true:=by
 refine AM (λ(s:Int)=>s<a/\ -1<=s/\0<=a/\a<x.1.length/\x.1.length<=16777216) (λ(s:Int)=>(s+1).toNat) h (λs c=>?_);unfold Ii;repeat' with_reducible first|apply AC<;>intro b|apply AQ<;>intro b|apply AI<;>intro b|apply AA|(apply AB (GG);intro r hr)|(refine AJ ?_ (AE ?_ ?_);rintro r ⟨hr,d⟩)
 all_goals ((try dsimp[len]at*);(try first|omega|assumption|grind[AW]))
def Vw{x:Aw}{s:Int}(h:0<=s/\s<=x.1.length/\(x.1.length:Int)<=16777216):Ay (Ad (MP x) s) λr=>r≠ .inl true:=by
 refine AM (λ(s:Int)=>0<=s/\s<=x.1.length/\(x.1.length:Int)<=16777216) (λ(s:Int)=>((x.1.length:Int)-s).toNat) h (λs c=>?_);unfold MP;repeat' with_reducible first|apply AC<;>intro a|apply AO<;>intro a|apply AI<;>intro a|(apply BG;try dsimp only)|(apply BE;try dsimp only)|(apply A3<;>(intro u b;try subst b))|apply AA|(apply AB (NK);intro r hr)|(apply AB (Sf);intro r hr)|(refine AJ ?_ (PV ?_);intro r hr)|(refine AJ ?_ (PV ?_);intro r hr)|(refine AJ ?_ (AE ?_ ?_);rintro r ⟨hr,d⟩)
 all_goals ((try dsimp[len]at*);(try first|omega|assumption|grind[AW]|((try simp (disch:=omega) only[AW,len]at*)<;>(try intros)<;>(try and_intros)<;>(try intros)<;>(first|omega|assumption|grind))))
def Vy{x:Aw}{a:Int}{b:Ao}{s:Int}(h:0<=s/\s<=a/\(a:Int)<=16777216/\a<=x.2.length):Ay (Ad (MR x a b) s) λr=>r≠ .inl true:=by
 refine AM (λ(s:Int)=>0<=s/\s<=a/\(a:Int)<=16777216/\a<=x.2.length) (λ(s:Int)=>((a:Int)-s).toNat) h (λs d=>?_);unfold MR;repeat' with_reducible first|apply AC<;>intro c|apply AQ<;>intro c|apply AI<;>intro c|apply AA|(refine AJ ?_ (AE ?_ ?_);rintro r ⟨hr,e⟩)
 all_goals ((try dsimp[len]at*);(try first|omega|assumption|grind[AW]))
def Vx{x:Aw}{s:Int}(h:0<=s/\s<=x.2.length/\(x.2.length:Int)<=16777216/\x.1.length<=16777216):Ay (Ad (MQ x) s) λr=>r≠ .inl true:=by
 refine AM (λ(s:Int)=>0<=s/\s<=x.2.length/\(x.2.length:Int)<=16777216/\x.1.length<=16777216) (λ(s:Int)=>((x.2.length:Int)-s).toNat) h (λs c=>?_);unfold MQ;repeat' with_reducible first|apply AC<;>intro a|apply AO<;>intro a|apply AI<;>intro a|(apply BG;try dsimp only)|(apply BE;try dsimp only)|(apply A3<;>(intro u b;try subst b))|apply AA|(apply AB (NK);intro r hr)|(refine AJ ?_ (Hj ?_);intro r hr)|(refine AJ ?_ (Vy ?_);intro r hr)|(refine AJ ?_ (AE ?_ ?_);rintro r ⟨hr,d⟩)
 all_goals ((try dsimp[len]at*);(try first|omega|assumption|grind[AW]))
def XT(x:Aw):Prop:=x.1.length+x.2.length<=1024
def Ey{x:Aw}(h:F9 x):Ay (Dk x) λr=>r=true->XT x:=by
 unfold Dk XT;unfold F9 at h
 repeat' first
   |with_reducible apply AC<;>intro b
   |(with_reducible apply A3<;>(intro u a;try subst a))
   |with_reducible apply AA
   |(with_reducible refine AJ ?_ (Vw ?_);intro r hr)
   |(with_reducible refine AJ ?_ (Vx ?_);intro r hr)
 all_goals ((try dsimp[len]at*);(try first|omega|assumption|grind[AW]))
def ya(x:Ah):Prop:=x.2.2.2.2.1.length<=4096/\x.2.2.2.2.2.length<=8/\1<=x.1
def WT(x:List Ah):Prop:=x.length<=64/\ ∀(i:Nat) (t:Ah),x[i]? =some t->ya t
def PW{x:Ah}{s:Int}(h:0<=s/\s<=x.2.2.2.2.1.length/\(x.2.2.2.2.1.length:Int)<=16777216):Ay (Ad (Im x) s) λr=>r≠ .inl true:=by
 refine AM (λ(s:Int)=>0<=s/\s<=x.2.2.2.2.1.length/\(x.2.2.2.2.1.length:Int)<=16777216) (λ(s:Int)=>((x.2.2.2.2.1.length:Int)-s).toNat) h (λs b=>?_);unfold Im;repeat' with_reducible first|apply AC<;>intro a|apply AI<;>intro a|apply AA|(refine AJ ?_ (AE ?_ ?_);rintro r ⟨hr,c⟩)
 all_goals ((try dsimp[len]at*);(try first|omega|assumption|grind[AW]|((try simp (disch:=omega) only[AW,len]at*)<;>(try intros)<;>(try and_intros)<;>(try intros)<;>(first|omega|assumption|grind))))
def PX{x:Ah}{s:Int}(h:0<=s/\s<=x.2.2.2.2.2.length/\(x.2.2.2.2.2.length:Int)<=16777216):Ay (Ad (Io x) s) λr=>r≠ .inl true:=by
 refine AM (λ(s:Int)=>0<=s/\s<=x.2.2.2.2.2.length/\(x.2.2.2.2.2.length:Int)<=16777216) (λ(s:Int)=>((x.2.2.2.2.2.length:Int)-s).toNat) h (λs b=>?_);unfold Io;repeat' with_reducible first|apply AC<;>intro a|apply AI<;>intro a|apply AA|(refine AJ ?_ (AE ?_ ?_);rintro r ⟨hr,c⟩)
 all_goals ((try dsimp[len]at*);(try first|omega|assumption|grind[AW]|((try simp (disch:=omega) only[AW,len]at*)<;>(try intros)<;>(try and_intros)<;>(try intros)<;>(first|omega|assumption|grind))))
def Zk{x:Ah}:Ay (Kn x) λr=>r=true->ya x:=by
 unfold Kn ya
 repeat' first
   |with_reducible apply AC<;>intro a
   |with_reducible apply AL<;>intro a
   |(with_reducible apply A3<;>(intro u b;try subst b))
   |with_reducible apply AA
   |(with_reducible refine AJ ?_ (PW ?_);intro r hr)
   |(with_reducible refine AJ ?_ (PX ?_);intro r hr)
   |(with_reducible refine AJ ?_ (PW ?_);intro r hr)
   |(with_reducible refine AJ ?_ (PX ?_);intro r hr)
 all_goals ((try dsimp[len]at*);(try first|omega|assumption|grind[AW]))
def V3{x:List Ah}{s:Int}(h:0<=s/\s<=x.length/\(x.length:Int)<=16777216/\ ∀(i:Nat) (t:Ah),i<s->x[i]? =some t->ya t):Ay (Ad (MW x) s) λr=>r= .inl false\/(r= .inr ()/\ ∀(i:Nat) (t:Ah),x[i]? =some t->ya t):=by
 refine AM (λ(s:Int)=>0<=s/\s<=x.length/\(x.length:Int)<=16777216/\ ∀(i:Nat) (t:Ah),i<s->x[i]? =some t->ya t) (λ(s:Int)=>((x.length:Int)-s).toNat) h (λs b=>?_);unfold MW;repeat' with_reducible first|apply AC<;>intro a|apply AO<;>intro a|apply AI<;>intro a|apply AA|(apply AB (Zk);intro r hr)|(refine AJ ?_ (AE ?_ ?_);rintro r ⟨hr,c⟩)
 all_goals ((try dsimp[len]at*);(try first|omega|assumption|grind[AW]|((try simp (disch:=omega) only[AW,len]at*)<;>(try intros)<;>(try and_intros)<;>(try intros)<;>(first|omega|assumption|grind))))
def Dg{x:List Ah}:Ay (Dm x) λr=>r=true->WT x:=by
 unfold Dm WT
 repeat' first
   |with_reducible apply AC<;>intro b
   |(with_reducible apply A3<;>(intro u a;try subst a))
   |with_reducible apply AA
   |(with_reducible refine AJ ?_ (V3 ?_);intro r hr)
 all_goals ((try dsimp[len]at*);(try first|omega|assumption|grind[AW]))
def ff(x:BY):Prop:=1<=x.length/\x.length<=64
def cz{x:Int}:Ay (Gk x) λr=>True:=by
 unfold Gk;repeat' with_reducible first|apply AC<;>intro a|apply AI<;>intro a|apply AA
 all_goals ((try dsimp[len]at*);(try first|omega|assumption|grind[AW]))
def V1{x:BY}{s:Int}(h:0<=s/\s<=x.length/\(x.length:Int)<=16777216):Ay (Ad (Ik x) s) λr=>r≠ .inl true:=by
 refine AM (λ(s:Int)=>0<=s/\s<=x.length/\(x.length:Int)<=16777216) (λ(s:Int)=>((x.length:Int)-s).toNat) h (λs b=>?_);unfold Ik;repeat' with_reducible first|apply AC<;>intro a|apply AO<;>intro a|apply AQ<;>intro a|apply AL<;>intro a|apply AI<;>intro a|apply AA|(apply AB (cz);intro r hr)|(refine AJ ?_ (AE ?_ ?_);rintro r ⟨hr,c⟩)
 all_goals ((try dsimp[len]at*);(try first|omega|assumption|grind[AW]))
def F3{x:BY}:Ay (Dl x) λr=>r=true->ff x:=by
 unfold Dl ff
 repeat' first
   |with_reducible apply AC<;>intro b
   |(with_reducible apply A3<;>(intro u a;try subst a))
   |with_reducible apply AA
   |(with_reducible refine AJ ?_ (V1 ?_);intro r hr)
 all_goals ((try dsimp[len]at*);(try first|omega|assumption|grind[AW]))
def S0{x:List AZ×Int}{s:Int}(h:0<=s/\s<=x.1.length/\(x.1.length:Int)<=16777216):Ay (Ad (Gr x) s) λr=>r≠ .inl true:=by
 refine AM (λ(s:Int)=>0<=s/\s<=x.1.length/\(x.1.length:Int)<=16777216) (λ(s:Int)=>((x.1.length:Int)-s).toNat) h (λs b=>?_);unfold Gr;repeat' with_reducible first|apply AC<;>intro a|apply AI<;>intro a|apply AA|(refine AJ ?_ (AE ?_ ?_);rintro r ⟨hr,c⟩)
 all_goals ((try dsimp[len]at*);(try first|omega|assumption|grind[AW]|((try simp (disch:=omega) only[AW,len]at*)<;>(try intros)<;>(try and_intros)<;>(try intros)<;>(first|omega|assumption|grind))))
def Ob{x:List AZ×Int}(h:x.1.length<=16777216):Ay (E0 x) λr=>True:=by
 unfold E0;repeat' with_reducible first|(apply BG;try dsimp only)|(apply BE;try dsimp only)|(apply A3<;>(intro u a;try subst a))|apply AA|(refine AJ ?_ (S0 ?_);intro r hr)
 all_goals ((try dsimp[len]at*);(try first|omega|assumption|grind[AW]))
theorem F8{b:Type}{l:List b}{i:Nat}{a:b}(h:l[i]? =some a):i<l.length:=by grind
def wD(p:Int)(e:AD):Bool:=((e.2.1==1)||(e.2.1==2))&&(e.2.2.2.2.2.2.1.1==p)
def Gl(L:List AD)(p:Int):Int:=L.foldl (λa e=>if wD p e then e.1 else a) 0
def bn(L:List AD)(e:AD)(p:Int):Gl (L++[e]) p=if wD p e then e.1 else Gl L p:=by simp only[Gl,Yj,Yk,List.foldl_nil]
def qD(n:Int)(L:List AD)(D:List AZ)(R:List DZ):Prop:=
 ∀p,0<=p->p<n->(∀d∈D,d.1=p->d.2.2=Gl L p)/\ ∀r,R[p.toNat]? =some r->r.1<=Gl L p/\((∀d∈D,d.1≠p)->r.1=Gl L p)
def KP(n:Int)(L:List AD)(F:List A0)(D:List AZ)(R:List DZ):Prop:=
 ∀p,0<=p->p<n->(∀f∈F,f.1.1=p->f.1.2.1=Gl L p)/\(∀d∈D,d.1=p->d.2.2=Gl L p)/\
  ∀r,R[p.toNat]? =some r->r.1<=Gl L p/\((∀d∈D,d.1≠p)->(∀f∈F,f.1.1=p->f.2.1=false)->r.1=Gl L p)
def EOK(n:Int)(M:List AD)(e:AD):Prop:=
 (e.2.1=1\/e.2.1=2->e.2.2.2.2.1=Gl M e.2.2.2.2.2.2.1.1)/\(e.2.1=7->e.2.2.2.2.2.1=Gl M e.2.2.2.2.2.2.1.1)/\
  (e.2.1=6-> ∀c,C3 e.2.2.2.2.2.2.2=some (c,0)->c.1=n->qD n M c.2.2.2.1 c.2.2.2.2)
def LI(n:Int)(L:List AD):Prop:= ∀(i:Nat) (e:AD),L[i]? =some e->EOK n (L.take i) e
def LI.nil(n:Int):LI n []:=λi e h=>by simp at h
def LI.app{n:Int}{L:List AD}{e:AD}(h:LI n L)(c:EOK n L e):LI n (L++[e]):=by intro i f a;rcases PI i L.length with b|b|b;rw[CE b]at a;rw[fj (by omega)];exact h i f a;grind;rw[Cs (by simp;omega)]at a;cases a
def LI.pre{n:Int}{L T:List AD}(h:LI n (L++T)):LI n L:=by intro i f a;have:=h i f (by grind);grind
def FD(n:Int)(F:List A0)(D:List AZ):Prop:= ∀f∈F,0<=f.1.1/\f.1.1<n/\ ∀d∈D,d.1≠f.1.1
def KI(k:AP):Prop:=LI k.1 k.2.2.1.2.1/\KP k.1 k.2.2.1.2.1 k.2.2.2.1.2.1 k.2.2.2.2.2.2.2 k.2.2.2.2.2.2.1/\FD k.1 k.2.2.2.1.2.1 k.2.2.2.2.2.2.2
def FD.sub{n:Int}{F G:List A0}{D:List AZ}(h:FD n F D)(a: ∀g∈G,∃f∈F,f.1.1=g.1.1/\f.1.2.1=g.1.2.1):FD n G D:=by intro g c;obtain⟨f,b,e,_⟩:=a g c;rw[<-e];exact h f b
def mH{p b:Int}: ∀(L:List AD) (a:Int),a<b->(∀e∈L,e.1<b)->L.foldl (λa e=>if wD p e then e.1 else a) a<b
 |[],a,ha,_=>ha
 |e::L,a,ha,h=>by refine mH L _ ?_ λf c=>h f (CA _ c);show(if wD p e=true then e.1 else a)<b;split;exact h e JP;exact ha
def vQ{l:Ag}(h:D2 l)(p:Int):Gl l.2.1 p<l.1+l.2.1.length:=by obtain⟨b,_,_,_,_,c⟩:=h;refine mH _ _ (by omega) λe a=>?_;obtain⟨i,d⟩:=FF a;grind
def KP.app{n:Int}{L:List AD}{F:List A0}{D:List AZ}{R:List DZ}{e:AD}(h:KP n L F D R)(a:e.2.1≠1/\e.2.1≠2):KP n (L++[e]) F D R:=by
 intro p c d;have b:Gl (L++[e]) p=Gl L p:=by
  rw[bn];have:wD p e=false:=by simp[wD,a.1,a.2]
  grind
 rw[b];exact h p c d
def KP.frames{n:Int}{L:List AD}{F G:List A0}{D:List AZ}{R:List DZ}(h:KP n L F D R)
  (m: ∀g∈G,∃f∈F,f.1.1=g.1.1/\f.1.2.1=g.1.2.1) (o: ∀f∈F,f.2.1=true-> ∃g∈G,g.1.1=f.1.1/\g.2.1=true):KP n L G D R:=by
 intro p w x;obtain⟨a,b,c⟩:=h p w x;refine⟨λg v e=>?_,b,λr hr=>⟨(c r hr).1,λt u=>(c r hr).2 t λf d e=>?_⟩⟩;obtain⟨f,d,j,k⟩:=m g v;rw[<-k];exact a f d (j.trans e);cases s:f.2.1 with
 |false=>rfl
 |true=>obtain⟨g,q,l,i⟩:=o f d s;rw[u g q (l.trans e)]at i;cases i
def KP.written{n:Int}{L:List AD}{F G:List A0}{D:List AZ}{R:List DZ}{q d:Int}{w:DZ}(h:KP n L F D R)(q0:0≤q)(A:d=Gl L q)(B:q<n)
  (s: ∀g∈G,∃f∈F,f.1.1=g.1.1/\f.1.2.1=g.1.2.1) (t: ∀f∈F,f.1.1≠q->f∈G) (l:R[q.toNat]? =some w):
  KP n L G D (R.set q.toNat ((if d>w.1 then d else w.1),w.2)):=by
 intro p y z;obtain⟨a,b,c⟩:=h p y z;refine⟨λg x e=>?_,b,λr hr=>?_⟩;obtain⟨f,i,m,o⟩:=s g x;rw[<-o];exact a f i (m.trans e);by_cases k:p=q;subst k;have j:p.toNat<R.length:=by rcases Aq p.toNat R.length with h|h;exact h;rw[Cs h]at l;cases l
 rw[HF j]at hr;have:=(c w l).1;have e:r.1=Gl L p:=by rw[<-Cd hr];dsimp only;split<;>omega
 exact⟨by omega,λ_ _=>e⟩;rw[D3 (by omega)]at hr;refine⟨(c r hr).1,λu v=>(c r hr).2 u λf i e=>?_⟩;exact v f (t f i (by omega)) e
def un{F:List A0}{i:Nat}{f n:A0}(a:F[i]? =some f)(hn:n.1=f.1): ∀g∈F.set i n,∃f∈F,f.1.1=g.1.1/\f.1.2.1=g.1.2.1:=by grind
def pw{F:List A0}{i:Nat}{f n:A0}(c:F[i]? =some f): ∀g∈F,g.1.1≠f.1.1->g∈F.set i n:=by intro g a b;obtain⟨j,d⟩:=FF a;apply BK (i:=j);grind
def KP.change{n:Int}{L:List AD}{F:List A0}{D:List AZ}{R:List DZ}{e:AD}{i:Nat}{f g:A0}(h:KP n L F D R)(C:FD n F D)
  (s:e.2.1=1\/e.2.1=2) (v:F[i]? =some f) (G:f.1.1=e.2.2.2.2.2.2.1.1) (A:g.1.1=f.1.1) (x:g.1.2.1=e.1) (y:g.2.1=true)
  (H: ∀j k,F[j]? =some k->k.1.1=f.1.1->j=i) (E:Gl L f.1.1<e.1):KP n (L++[e]) (F.set i g) D R:=by
 have u:i<F.length:=by rcases Aq i F.length with h|h;exact h;rw[Cs h]at v;cases v
 have z:g∈F.set i g:=BK (i:=i) (HF u);intro p I J;obtain⟨a,b,c⟩:=h p I J;have B:wD p e=(f.1.1==p):=by rw[G];unfold wD;rcases s with h|h<;>simp[h]
 rw[bn,B];by_cases t:f.1.1=p;subst t;rw[beq_self_eq_true,if_pos rfl];refine⟨λk s l=>?_,λd m l=>absurd l ((C f (BK v)).2.2 d m),λr hr=>⟨by have:=(c r hr).1;omega,λ_ o=>?_⟩⟩;obtain⟨j,w⟩:=FF s;by_cases q:j=i;subst q;rw[HF u]at w;rw[<-Cd w];exact x;rw[D3 (λh=>q h.symm)]at w;exact absurd (H j k w l) q;have:=o g z A;rw[y]at this;cases this;rw[if_neg (by simpa using t)];refine⟨λk s l=>?_,b,λr hr=>⟨(c r hr).1,λm o=>(c r hr).2 m λk s l=>?_⟩⟩;rcases Nv s with h|h;exact a k h l;subst h;exact absurd (A.symm.trans l) t;exact o k (pw v k s (by omega)) l
def FD.set{n:Int}{F:List A0}{D:List AZ}{i:Nat}{f g:A0}(h:FD n F D)(b:F[i]? =some f)(c:g.1.1=f.1.1):FD n (F.set i g) D:=by intro k d;rcases Nv d with a|a;exact h k a;subst a;rw[c];exact h f (BK b)
def KP.supply{n:Int}{L:List AD}{F:List A0}{D l:List AZ}{R:List DZ}{x:A9}{g:A0}(h:KP n L F D R)(y:x.2.1=Gl L x.1)
  (w: ∀f∈F,f.1.1≠x.1) (t:g.1=x) (i:(g.2.1=true/\l=D.filter λd=>d.1 !=x.1)\/(g.2.1=false/\(∀d∈D,d.1≠x.1)/\l=D)):KP n L (F++[g]) l R:=by
 intro p z A;obtain⟨a,b,c⟩:=h p z A;have v: ∀d∈l,d∈D:=by rcases i with⟨_,e⟩|⟨_,_,e⟩<;>subst e;exact λd i=>(BX.1 i).1;exact λd i=>i
 refine⟨λf j e=>?_,λd i=>b d (v d i),λr hr=>⟨(c r hr).1,λq s=>(c r hr).2 ?_ λf j=>s f (IX _ j)⟩⟩;rcases Ap.1 j with j|j;exact a f j e;rw[A2]at j;subst j;rw[t]at e⊢;rw[y,e];intro d k e;rcases i with⟨u,o⟩|⟨_,_,o⟩<;>subst o;by_cases m:p=x.1;have:=s g (by simp) (by rw[t,m]);rw[u]at this;cases this;exact q d (BX.2 ⟨k,by simp;omega⟩) e;exact q d k e
def FD.supply{n:Int}{F:List A0}{D b:List AZ}{p:Int}{g:A0}(h:FD n F D)(j:0<=p)(k:p<n)(i:g.1.1=p)(e: ∀d∈b,d∈D)(hn: ∀d∈b,d.1≠p):FD n (F++[g]) b:=by intro f a;rcases Ap.1 a with a|a;exact⟨(h f a).1,(h f a).2.1,λd c=>(h f a).2.2 d (e d c)⟩;grind
def SB(k:AP):Prop:=F9 k.2.2.2.2.1/\k.2.2.2.2.2.1.length<=16777216/\k.2.2.2.2.2.2.2.length<=16777216
def SK(k:AP):Prop:=F9 k.2.2.2.2.1/\k.2.2.2.2.2.1.length<=16777216/\k.2.2.2.2.2.2.2.length<=16777216/\KI k
def SK.sb{k:AP}(h:SK k):SB k:=⟨h.1,h.2.1,h.2.2.1⟩
def SK.ki{k:AP}(h:SK k):KI k:=h.2.2.2
def SB.sk{k:AP}(h:SB k)(g:KI k):SK k:=⟨h.1,h.2.1,h.2.2,g⟩
def VK(k:AP):Prop:=1<=k.1/\k.1<=64/\D2 k.2.2.1/\OR k.2.2.2.1/\XT k.2.2.2.2.1/\WT k.2.2.2.2.2.1/\ff k.2.2.2.2.2.2.1/\k.2.2.2.2.2.2.1.length=k.1
def Zo{x:AP}(h:SB x):Ay (Kr x) λr=>r=true->VK x:=by
 unfold Kr VK;unfold SB at h
 repeat' first
   |with_reducible apply AI<;>intro a
   |with_reducible apply AA
   |(with_reducible apply AB (Br);intro r hr)
   |(with_reducible apply AB (EC);intro r hr)
   |(with_reducible refine AJ ?_ (Ey ?_);intro r hr)
   |(with_reducible apply AB (Dg);intro r hr)
   |(with_reducible apply AB (F3);intro r hr)
   |(with_reducible refine AJ ?_ (Ob ?_);intro r hr)
 all_goals ((try dsimp[len]at*);(try first|omega|assumption|grind[AW]))
def V4{x:AP×Int}{s:Int×AZ}(h:0<=s.1/\s.1<=x.1.2.2.2.2.2.2.2.length/\x.1.2.2.2.2.2.2.2.length<=16777216/\ ∀(i:Nat) (d:AZ),i<s.1->x.1.2.2.2.2.2.2.2[i]? =some d->d.1≠x.2):Ay (Ad (MY x) s) λr=>(∃d∈x.1.2.2.2.2.2.2.2,r= .inl (true,d)/\d.1=x.2)\/ ∃z,r= .inr z/\ ∀d∈x.1.2.2.2.2.2.2.2,d.1≠x.2:=by
 refine AM (λ(s:Int×AZ)=>0<=s.1/\s.1<=x.1.2.2.2.2.2.2.2.length/\x.1.2.2.2.2.2.2.2.length<=16777216/\ ∀(i:Nat) (d:AZ),i<s.1->x.1.2.2.2.2.2.2.2[i]? =some d->d.1≠x.2) (λ(s:Int×AZ)=>((x.1.2.2.2.2.2.2.2.length:Int)-s.1).toNat) h (λs j=>?_);have⟨c,m,f,g⟩:=j;unfold MY;refine AC (λa=>?_) (λa=>AA (.inr ⟨_,rfl,λd b=>?_⟩));simp[len]at a;refine AB (AE c a) λv o=>?_;apply AQ<;>intro n;grind[AB,AE,AA,Option.some.inj];have e:=AW (x:=s.1+1);refine AA ⟨⟨by dsimp only;omega,by dsimp only;omega,f,λi d k b=>?_⟩,by dsimp only;omega⟩;dsimp only at k;by_cases l:(i:Int)<s.1;exact g i d l b;have:i=s.1.toNat:=by omega
 grind[Option.some.inj];grind[List.getElem?_of_mem,Nat.lt_or_ge,List.getElem?_eq_none]
def JH{x:AP×Int}(h:SB x.1):Ay (Eg x) λr=>(r.2=true->r.1∈x.1.2.2.2.2.2.2.2/\r.1.1=x.2)/\(r.2=false-> ∀d∈x.1.2.2.2.2.2.2.2,d.1≠x.2):=by unfold Eg;refine AB (V4 ⟨by omega,by dsimp only;omega,h.2.2,λi d a=>absurd a (by dsimp only;omega)⟩) λv b=>?_;grind[BG,AA,BE]
def V5{x:AP}{s:Int}(h:0<=s/\s<=x.2.2.2.2.2.1.length/\(x.2.2.2.2.2.1.length:Int)<=16777216):Ay (Ad (MZ x) s) λr=>r≠ .inl true:=by
 refine AM (λ(s:Int)=>0<=s/\s<=x.2.2.2.2.2.1.length/\(x.2.2.2.2.2.1.length:Int)<=16777216) (λ(s:Int)=>((x.2.2.2.2.2.1.length:Int)-s).toNat) h (λs b=>?_);unfold MZ;repeat' with_reducible first|apply AC<;>intro a|apply AI<;>intro a|apply AA|(refine AJ ?_ (AE ?_ ?_);rintro r ⟨hr,c⟩)
 all_goals ((try dsimp[len]at*);(try first|omega|assumption|grind[AW]))
def V6{x:AP}{s:Int}(h:0<=s/\s<=x.2.2.2.1.2.1.length/\(x.2.2.2.1.2.1.length:Int)<=16777216/\SB x):Ay (Ad (Ma x) s) λr=>r≠ .inl true:=by
 refine AM (λ(s:Int)=>0<=s/\s<=x.2.2.2.1.2.1.length/\(x.2.2.2.1.2.1.length:Int)<=16777216/\SB x) (λ(s:Int)=>((x.2.2.2.1.2.1.length:Int)-s).toNat) h (λs b=>?_);unfold Ma;repeat' with_reducible first|apply AC<;>intro a|apply AI<;>intro a|apply AA|(refine AJ ?_ (JH ?_);intro r hr)|(refine AJ ?_ (AE ?_ ?_);rintro r ⟨hr,c⟩)
 all_goals ((try dsimp[len]at*);(try first|omega|assumption|grind[AW]))
def V7{x:AP}{s:Int}(h:0<=s/\s<=x.2.2.2.2.1.1.length/\(x.2.2.2.2.1.1.length:Int)<=16777216):Ay (Ad (Mb x) s) λr=>r≠ .inl true:=by
 refine AM (λ(s:Int)=>0<=s/\s<=x.2.2.2.2.1.1.length/\(x.2.2.2.2.1.1.length:Int)<=16777216) (λ(s:Int)=>((x.2.2.2.2.1.1.length:Int)-s).toNat) h (λs b=>?_);unfold Mb;repeat' with_reducible first|apply AC<;>intro a|apply AI<;>intro a|apply AA|(refine AJ ?_ (AE ?_ ?_);rintro r ⟨hr,c⟩)
 all_goals ((try dsimp[len]at*);(try first|omega|assumption|grind[AW]))
def V8{x:AP}{s:Int}(h:0<=s/\s<=x.2.2.2.2.1.2.length/\(x.2.2.2.2.1.2.length:Int)<=16777216):Ay (Ad (Mc x) s) λr=>r≠ .inl true:=by
 refine AM (λ(s:Int)=>0<=s/\s<=x.2.2.2.2.1.2.length/\(x.2.2.2.2.1.2.length:Int)<=16777216) (λ(s:Int)=>((x.2.2.2.2.1.2.length:Int)-s).toNat) h (λs b=>?_);unfold Mc;repeat' with_reducible first|apply AC<;>intro a|apply AI<;>intro a|apply AA|(refine AJ ?_ (AE ?_ ?_);rintro r ⟨hr,c⟩)
 all_goals ((try dsimp[len]at*);(try first|omega|assumption|grind[AW]))
def Bz{x:AP}(h:SB x):Ay (Be x) λr=>r=true->VK x:=by
 unfold Be;repeat' with_reducible first|apply AO<;>intro a|apply AI<;>intro a|(apply BG;try dsimp only)|(apply BE;try dsimp only)|(apply A3<;>(intro u b;try subst b))|apply AA|(refine AJ ?_ (Zo ?_);intro r hr)|(refine AJ ?_ (V5 ?_);intro r hr)|(refine AJ ?_ (V6 ?_);intro r hr)|(refine AJ ?_ (V7 ?_);intro r hr)|(refine AJ ?_ (V8 ?_);intro r hr)
 all_goals ((try dsimp[len]at*);(try first|omega|assumption|grind[SB,VK,F9,OR]))
def Wr{x:List Ah×Int}{s:Int}(h:0<=s/\s<=x.1.length/\(x.1.length:Int)<=16777216):Ay (Ad (JF x) s) λr=> ∀u,r= .inl u->0<=u/\u<x.1.length/\ ∃t,x.1[u.toNat]? =some t/\t.1=x.2:=by
 refine AM (λ(s:Int)=>0<=s/\s<=x.1.length/\(x.1.length:Int)<=16777216) (λ(s:Int)=>((x.1.length:Int)-s).toNat) h (λs b=>?_);unfold JF;repeat' with_reducible first|apply AC<;>intro a|apply AQ<;>intro a|apply AI<;>intro a|apply AA|(refine AJ ?_ (AE ?_ ?_);rintro r ⟨hr,c⟩)
 all_goals ((try dsimp[len]at*);(try first|omega|assumption|grind[AW]))
def Hn{x:List Ah×Int}(h:x.1.length<=16777216):Ay (ES x) λr=> -1<=r/\r<x.1.length/\(0<=r-> ∃t,x.1[r.toNat]? =some t/\t.1=x.2):=by
 unfold ES;repeat' with_reducible first|(apply BG;try dsimp only)|(apply BE;try dsimp only)|(apply A3<;>(intro u a;try subst a))|apply AA|(refine AJ ?_ (Wr ?_);intro r hr)
 all_goals ((try dsimp[len]at*);(try first|omega|assumption|grind[AW]))
def FM{x:List Ah×Int}(h:x.1.length<=16777216):Ay (CG x) λr=> -1<=r/\r<x.1.length/\(0<=r-> ∃t,x.1[r.toNat]? =some t/\t.1=x.2):=by
 unfold CG;repeat' with_reducible first|apply AA|(refine AJ ?_ (Hn ?_);intro r hr)
 all_goals ((try dsimp[len]at*);(try first|omega|assumption|grind[AW]))
def gY(p:Ba)(id:Int):Prop:= ∃(i:Nat) (f:A0),p.2.1[i]? =some f/\f.1.1=id
def Wq{x:Ba×Int}{s:Int}(h:0<=s/\s<=x.1.2.1.length/\(x.1.2.1.length:Int)<=16777216/\ ∀(i:Nat) (f:A0),i<s->x.1.2.1[i]? =some f->f.1.1≠x.2):Ay (Ad (NP x) s) λr=>(∃u,r= .inl u/\0<=u/\u<x.1.2.1.length/\ ∃f,x.1.2.1[u.toNat]? =some f/\f.1.1=x.2)\/(r= .inr ()/\ ¬gY x.1 x.2):=by
 refine AM (λ(s:Int)=>0<=s/\s<=x.1.2.1.length/\(x.1.2.1.length:Int)<=16777216/\ ∀(i:Nat) (f:A0),i<s->x.1.2.1[i]? =some f->f.1.1≠x.2) (λ(s:Int)=>((x.1.2.1.length:Int)-s).toNat) h (λs b=>?_);unfold NP;repeat' with_reducible first|apply AC<;>intro a|apply AQ<;>intro a|apply AI<;>intro a|apply AA|(refine AJ ?_ (AE ?_ ?_);rintro r ⟨hr,c⟩)
 all_goals try (have e:=AW (x:=s+1))
 all_goals first|omega|grind[gY]
def Gb{x:Ba×Int}(h:x.1.2.1.length<=16777216):Ay (FC x) λr=> -1<=r/\r<x.1.2.1.length/\(0<=r-> ∃f,x.1.2.1[r.toNat]? =some f/\f.1.1=x.2)/\(r<0-> ¬gY x.1 x.2):=by refine AB (Wq (by refine⟨by omega,by omega,by omega,λi f a=>absurd a (by omega)⟩)) λs b=>?_;grind[BG,AA,BE]
def FL{x:Ba×Int}:Ay (Dz x) λr=> -1<=r/\r<x.1.2.1.length/\(0<=r->OR x.1/\ ∃f,x.1.2.1[r.toNat]? =some f/\f.1.1=x.2)/\(OR x.1->gY x.1 x.2->0<=r):=by
 unfold Dz;repeat' with_reducible first|apply AO<;>intro b|apply AI<;>intro b|apply AA|(apply AB (EC);intro r hr)|(refine AJ ?_ (Gb ?_);intro r hr)
 all_goals first|omega|(have a:OR x.1:=(by grind);have:=a.1;have:=a.2.1;have:=a.2.2.1;omega)|grind
def IN{x:Ba×Int}:Ay (Fe x) λr=>(r.2=true->OR x.1/\j8 r.1/\gY x.1 x.2/\r.1.1=x.2/\ ∃f∈x.1.2.1,f.1=r.1)/\(r.2=false->OR x.1-> ¬gY x.1 x.2):=by
 unfold Fe;repeat' with_reducible first|apply AC<;>intro a|apply AI<;>intro a|apply AA|(apply AB (FL);intro r hr)|(refine AJ ?_ (AE ?_ ?_);rintro r ⟨hr,b⟩)
 all_goals first|omega|(simp;grind)|grind[OR,Jf,ii,gY]
theorem D2.last{x:Ag}(h:D2 x):wi (wi (x.1+len x.2.1)-1)=x.1+x.2.1.length-1:=by have⟨a,b,c,d,e,f⟩:=h;grind[AW]
def D2.at{x:Ag}{n:Int}{e:AD}(h:D2 x)(a:x.1<=n)(b:n<=x.1+x.2.1.length-1)(c:x.2.1[(wi (n-x.1)).toNat]? =some e):OQ e/\e.1=n:=by have⟨a1,a2,a3,a4,a5,a6⟩:=h;grind[AW]
theorem D2.append{x:Ag}{e:AD}{l:List AD}(h:D2 x)(b:x.2.1.length≠4096)(d:OQ e)(c:e.1=x.1+x.2.1.length)(a:l=x.2.1++[e]):D2 (x.1,l,x.2.2):=by have⟨a1,a2,a3,a4,a5,a6⟩:=h;subst a;refine⟨a1,a2,by simp;omega,a4,by simp;omega,λi f g=>?_⟩;grind[Nat.lt_or_ge,List.getElem?_append_right,List.getElem?_eq_none]
def D2.force{x:Ag}{n:Int}(h:D2 x)(a:n<=x.1+x.2.1.length-1):D2 (x.1,x.2.1,if n>x.2.2 then n else x.2.2):=by have⟨a1,a2,a3,a4,a5,a6⟩:=h;refine⟨a1,a2,a3,?_,?_,a6⟩<;>(dsimp only;split<;>omega)
def Ga{x:Ag}:Ay (FA x) λr=>D2 x->r=x.1+x.2.1.length-1:=by
 unfold FA;repeat' with_reducible first|apply AO<;>intro a|apply AI<;>intro a|apply AA|(apply AB (Br);intro r hr)|(apply AB (EQ);intro r hr)
 all_goals ((try dsimp[len]at*);(try first|omega|assumption|grind[D2.last]))
def JD{x:Ag×Int}:Ay (D9 x) λr=>(r.2=0->D2 r.1/\r.1.2.1=x.1.2.1/\r.1.1=x.1.1):=by
 unfold D9;repeat' with_reducible first|apply AC<;>intro a|apply AO<;>intro a|apply AI<;>intro a|apply AA|(apply AB (Br);intro r hr)|(apply AB (EQ);intro r hr)
 all_goals try (intro _;have b:D2 x.1:=by grind
                have c:=b.last;exact⟨b.force (by omega),rfl,rfl⟩)
 all_goals ((try dsimp[len]at*);(try first|omega|assumption|grind[AW]))
def Gx{x:Ag×Int}:Ay (Eo x) λr=>(r.2=0->OQ r.1/\r.1.1=x.2/\x.1.2.1[(x.2-x.1.1).toNat]? =some r.1/\x.1.1<=x.2)/\(D2 x.1->x.1.1<=x.2->x.2<=x.1.1+x.1.2.1.length-1->r.2=0):=by
 unfold Eo;repeat' with_reducible first|apply AC<;>intro c|apply AO<;>intro c|apply AI<;>intro c|apply AA|(apply AB (Br);intro r hr)|(apply AB (EQ);intro r hr)|(refine AJ ?_ (AE ?_ ?_);rintro r ⟨hr,f⟩)
 all_goals try (have a:D2 x.1:=by grind)
 all_goals try (have e:=a.last;have:=a.1;have:=a.2.1;have:=a.2.2.1)
 all_goals try (have d:wi (x.2-x.1.1)=x.2-x.1.1:=AW)
 all_goals try (have b:=a.at (n:=x.2) (by omega) (by omega) hr;rw[d]at hr;exact⟨λ_=>⟨b.1,b.2,hr,by omega⟩,λ_ _ _=>rfl⟩)
 all_goals ((try dsimp[len]at*);(try first|omega|assumption|grind[AW]))
def X6{x:Ag×AD}:Ay (Jo x) λr=>(r.2.2=0->D2 r.1/\D2 x.1/\r.1.2.1=x.1.2.1++[(r.2.1,x.2.2)]/\r.1.1=x.1.1/\r.2.1=x.1.1+x.1.2.1.length):=by
 unfold Jo;repeat' with_reducible first|apply AO<;>intro b|apply AQ<;>intro b|apply AI<;>intro b|apply AA|(apply AB (Br);intro r hr)|(apply AB (EQ);intro r hr)|(apply AB (B8);intro r hr)|(refine AJ ?_ (Ac ?_);rintro r ⟨hr,c,d⟩)
 all_goals try (have a:D2 x.1:=by grind)
 all_goals try (have c:=a.last;have:=a.1;have:=a.2.1;have:=a.2.2.1)
 all_goals ((try dsimp[len]at*);(try first|omega|assumption|grind[AW,D2.append]))
def B6{x:AD}:Ay (A7 x) λr=>r=true↔x.2.1=1\/x.2.1=2:=by
 unfold A7;repeat' with_reducible first|apply AQ<;>intro a|apply AI<;>intro a|apply AA
 all_goals ((try dsimp[len]at*);(try first|omega|assumption|grind[AW]))
def lR(n:Int):0<=IntKind.wrap .u64 n:=by rw[Ss];omega
theorem LR(l:List Int):(G2 l).length=l.length:=by simp[G2]
theorem Xy{x:Bd×Int×Int}{s:Bd×Int}(h:0<=s.2/\s.2<=x.2.2/\x.2.2<=8/\(s.1.length:Int)=x.1.length+s.2/\x.1.length<=1099511627776):Ay (Ad (GW x) s) λr=>(r.length:Int)=x.1.length+x.2.2:=by
 refine AM (λ(s:Bd×Int)=>0<=s.2/\s.2<=x.2.2/\x.2.2<=8/\(s.1.length:Int)=x.1.length+s.2/\x.1.length<=1099511627776) (λ(s:Bd×Int)=>(x.2.2-s.2).toNat) h (λs b=>?_);unfold GW;repeat' with_reducible first|refine AC ?_ ?_<;>intro a|refine AI ?_ ?_<;>intro a|refine AA ?_|refine Xw ?_|(refine AJ ?_ (Ca ?_);rintro r ⟨hr,c⟩)
 all_goals try (have d:=lR (wi (8*s.2));omega)
 all_goals ((try dsimp only[len]at*);(try first|omega|assumption|grind[AW,LR]))
theorem Cj{x:Bd×Int×Int}(h:x.1.length<=1099511627776):Ay (Al x) λr=>(1<=x.2.2->x.2.2<=8->(r.length:Int)=x.1.length+x.2.2)/\r.length<=x.1.length+8:=by
 unfold Al;repeat' with_reducible first|refine AC ?_ ?_<;>intro a|refine AI ?_ ?_<;>intro a|refine AA ?_|(refine AJ ?_ (Xy ?_);intro r hr)
 all_goals ((try dsimp only[len]at*);(try first|omega|assumption|grind[AW]))
def uf{n:Int}(h:n<=4):(2:Int)^(8*n.toNat)<=4294967296:=by
 have:n.toNat=0\/n.toNat=1\/n.toNat=2\/n.toNat=3\/n.toNat=4:=by omega
 rcases this with h|h|h|h|h<;>rw[h]<;>decide
def zt{n:Int}(h:n<=2):(2:Int)^(8*n.toNat)<=65536:=by
 have:n.toNat=0\/n.toNat=1\/n.toNat=2:=by omega
 rcases this with h|h|h<;>rw[h]<;>decide
def xg{a b:Int}{k:Nat}(e:0<=a)(c:a<2^k)(f:0<=b)(d:b<2^k)(g:k<=64):(0:Int)<=((BitVec.toNat (BitVec.ofInt 64 a|||BitVec.ofInt 64 b):Nat):Int)/\((BitVec.toNat (BitVec.ofInt 64 a|||BitVec.ofInt 64 b):Nat):Int)<2^k:=by
 refine⟨by omega,?_⟩;obtain⟨n,rfl⟩:=Ea e;obtain⟨m,rfl⟩:=Ea f;have hn:n<2^k:=by exact_mod_cast c
 have h:m<2^k:=by exact_mod_cast d
 have i:2^k<=2^64:=Vf (by decide) g;rw[BitVec.toNat_or];simp only[TW,TX];rw[TU (by omega),TU (by omega)];exact_mod_cast Nat.or_lt_two_pow hn h
def qm{a v i:Int}(q:0≤i)(r:i<8)(p:0≤a)(b:a<2^(8*i.toNat))(u:0≤v)(w:v<256):
  0<=IntKind.wrap .u64 (((BitVec.toNat ((BitVec.ofInt 64 a)|||(BitVec.ofInt 64 (IntKind.wrap .u64 ((IntKind.wrap .u64 v)*(2^(min (Int.toNat (IntKind.wrap .u64 (wi (8*i)))) 64))))))):Nat):Int)/\
  IntKind.wrap .u64 (((BitVec.toNat ((BitVec.ofInt 64 a)|||(BitVec.ofInt 64 (IntKind.wrap .u64 ((IntKind.wrap .u64 v)*(2^(min (Int.toNat (IntKind.wrap .u64 (wi (8*i)))) 64))))))):Nat):Int)<2^(8*(wi (i+1)).toNat):=by
 have f:wi (i+1)=i+1:=AW;have g:wi (8*i)=8*i:=AW;have h:IntKind.wrap .u64 (8*i)=8*i:=by rw[Ss];omega
 have j:IntKind.wrap .u64 v=v:=by rw[Ss];omega
 rw[f,g,h,j];obtain⟨n,rfl⟩:=Ea q;obtain⟨m,rfl⟩:=Ea u;have s:min (8*(n:Int)).toNat 64=8*n:=by omega
 rw[s];have e:((n:Int)+1).toNat=n+1:=by omega
 have d:((n:Int)).toNat=n:=by omega
 rw[e];rw[d]at b;have t:(m:Int)*2^(8*n)<2^(8*(n+1)):=by
  have:(m*2^(8*n):Nat)<2^(8*(n+1)):=by
   have o:2^(8*(n+1))=256*2^(8*n):=by rw[Nat.mul_add,aF];omega
   rw[o];exact Nat.mul_lt_mul_of_pos_right (by omega) (Nat.pow_pos (by decide))
  exact_mod_cast this
 have z:(2:Int)^(8*(n+1))<=2^64:=by have:(2^(8*(n+1)):Nat)<=2^64:=Vf (by decide) (by omega);exact_mod_cast this
 have x:(0:Int)<=(m:Int)*2^(8*n):=by
  have:(0:Int)<=((m*2^(8*n):Nat):Int):=by omega
  exact_mod_cast this
 have l:IntKind.wrap .u64 ((m:Int)*2^(8*n))=(m:Int)*2^(8*n):=by rw[Ss];omega
 rw[l];have c:a<2^(8*(n+1)):=by
  have:(2:Int)^(8*n)<=2^(8*(n+1)):=by have:(2^(8*n):Nat)<=2^(8*(n+1)):=Vf (by decide) (by omega);exact_mod_cast this
  omega
 obtain⟨q1,q2⟩:=xg (k:=8*(n+1)) p c x t (by omega);generalize ((BitVec.toNat _:Nat):Int)=y at q1 q2;rw[Ss];omega
theorem Xx{x:Bd×Int×Int}{s:Int×Int}(h:0<=s.2/\s.2<=x.2.2/\x.2.2<=8/\0<=x.2.1/\x.2.1+x.2.2<=x.1.length/\x.1.length<=1099511627776/\0<=s.1/\s.1<2^(8*s.2.toNat)):Ay (Ad (GV x) s) λr=>0<=r/\r<2^(8*x.2.2.toNat):=by
 refine AM (λ(s:Int×Int)=>0<=s.2/\s.2<=x.2.2/\x.2.2<=8/\0<=x.2.1/\x.2.1+x.2.2<=x.1.length/\x.1.length<=1099511627776/\0<=s.1/\s.1<2^(8*s.2.toNat)) (λ(s:Int×Int)=>(x.2.2-s.2).toNat) h (λs n=>?_);unfold GV;obtain⟨d,q,f,g,j,k,l,m⟩:=n;repeat' with_reducible first|refine AC ?_ ?_<;>intro o|refine AI ?_ ?_<;>intro o|refine AA ?_|refine Xw ?_|(refine AJ ?_ (Pu ?_ ?_);rintro r ⟨hr,p⟩)
 all_goals try (have t:=lR (wi (8*s.2));omega)
 all_goals (first|(obtain⟨b,c⟩:=qm (a:=s.1) (v:=r) (i:=s.2) d (by omega) l m hr p;have e:=AW (x:=s.2+1) (by omega);exact⟨⟨by omega,by omega,f,g,j,k,b,c⟩,by dsimp only;omega⟩)|skip)
 all_goals ((try dsimp only[len]at*);(try first|omega|assumption|grind[AW]))
def Cb{x:Bd×Int×Int}(h:x.1.length<=1099511627776):Ay (Av x) λr=>r.2=0->0<=x.2.1/\x.2.1+x.2.2<=x.1.length/\(x.2.2<=4->0<=r.1/\r.1<4294967296)/\(x.2.2<=2->r.1<65536):=by
 unfold Av;repeat' with_reducible first|apply AC<;>intro c|apply AI<;>intro c|apply AA|(refine AJ ?_ (Xx ?_);intro r hr)
 all_goals dsimp only[len]at*
 all_goals first
  |omega
  |(intro d;exact absurd d (by decide))
  |(have e:=AW (x:=(x.1.length:Int)-x.2.1);exact⟨by omega,by omega,by omega,by omega,by omega,h,by omega,by simp⟩)
  |(intro _;have e:=AW (x:=(x.1.length:Int)-x.2.1);refine⟨by omega,by omega,λb=>?_,λa=>?_⟩;(have:=uf b;rw[AW];omega);(have:=zt a;rw[AW];omega))
theorem X0  {s:Int×Int}(h:0<=s.2/\s.2<=8):Ay (Ad (Hi) s) λr=>True:=by
 refine AM (λ(s:Int×Int)=>0<=s.2/\s.2<=8) (λ(s:Int×Int)=>(8-s.2).toNat) h (λs b=>?_);unfold Hi;repeat' with_reducible first|refine AC ?_ ?_<;>intro a|refine AQ ?_ ?_<;>intro a|refine AI ?_ ?_<;>intro a|(refine BF ?_;try dsimp only)|refine BP ?_|refine BZ ?_|refine AA ?_
 all_goals ((try dsimp only[len]at*);(try first|omega|assumption|grind[AW]))
theorem Xz{x:Bd}{s:Int×Int}(h:0<=s.2/\s.2<=x.length/\x.length<=1099511627776):Ay (Ad (Hh x) s) λr=>True:=by
 refine AM (λ(s:Int×Int)=>0<=s.2/\s.2<=x.length/\x.length<=1099511627776) (λ(s:Int×Int)=>((x.length:Int)-s.2).toNat) h (λs b=>?_);unfold Hh;repeat' with_reducible first|refine AC ?_ ?_<;>intro a|refine AI ?_ ?_<;>intro a|refine AA ?_|(refine AJ ?_ (X0 ?_);intro r hr)|(refine AJ ?_ (Pu ?_ ?_);rintro r ⟨hr,c⟩)
 all_goals ((try dsimp only[len]at*);(try first|omega|assumption|grind[AW]))
theorem KZ{x:Bd}(h:x.length<=1099511627776):Ay (En x) λr=>True:=by
 unfold En;repeat' with_reducible first|refine AA ?_|(refine AJ ?_ (Xz ?_);intro r hr)
 all_goals ((try dsimp only[len]at*);(try first|omega|assumption|grind[AW]))
theorem Ro{x:Bd}:Ay (D8 x) λr=>r.length<=8408:=by
 unfold D8;repeat' with_reducible first|refine AC ?_ ?_<;>intro a|refine AI ?_ ?_<;>intro a|refine AA ?_|(refine AJ ?_ (Cj ?_);intro r hr)|(refine AJ ?_ (KZ ?_);intro r hr)|(refine AJ ?_ (Ca ?_);rintro r ⟨hr,b⟩)
 all_goals dsimp only[len]at*
 all_goals ((try dsimp only[len]at*);(try first|omega|assumption|grind[AW]))
theorem QC{x:Bd×Int}(h:x.1.length<=1099511627776):Ay (By x) λr=>r.2.2=0->r.1.length<=8392/\x.2+8+r.1.length=r.2.1/\0<=x.2/\r.2.1<=x.1.length:=by
 unfold By;repeat' with_reducible first|refine AC ?_ ?_<;>intro a|refine AL ?_ ?_<;>intro a|refine AI ?_ ?_<;>intro a|refine AA ?_|(refine AJ ?_ (Cb ?_);intro r hr)|(refine AJ ?_ (KZ ?_);intro r hr)|(refine AJ ?_ (Ds ?_ ?_ ?_);rintro r ⟨hr,b⟩)
 all_goals dsimp only[len]at*
 all_goals ((try dsimp only[len]at*);(try first|omega|assumption|grind[AW]))
theorem NC{x:Int}(h:0<=x/\x<=16777216):Ay (Gv x) λr=>(r.length:Int)=x:=by
 unfold Gv;repeat' with_reducible first|refine AA ?_|(refine AJ ?_ (kQ ?_ ?_);rintro r ⟨hr,a⟩)
 all_goals ((try dsimp only[len]at*);(try first|omega|assumption|grind[AW,LR]))
theorem bI{x:Bd×FG}(h:x.1.length<=1099511627776)(b:x.2.2.length<=16777216):Ay (GF x) λr=>r.length<=x.1.length+8+x.2.2.length:=by
 unfold GF;repeat' with_reducible first|refine AO ?_ ?_<;>intro a|refine AI ?_ ?_<;>intro a|refine AA ?_|(refine AJ ?_ (Cj ?_);intro r hr)|(refine AJ ?_ (Ca ?_);rintro r ⟨hr,c⟩)
 all_goals ((try dsimp only[len]at*);(try first|omega|assumption|grind[AW]))
def Vb.lens{x:AD}(h:Vb x):x.2.2.2.2.2.2.1.2.2.1.2.length<=12/\x.2.2.2.2.2.2.1.2.2.2.2.length<=12/\x.2.2.2.2.2.2.2.length<=8192:=by unfold Vb Tr HZ Ox at h;grind
theorem X4{x:AD}:Ay (FJ x) λr=>r.1.length<=8400:=by
 unfold FJ;repeat' with_reducible first|refine AO ?_ ?_<;>intro a|refine AI ?_ ?_<;>intro a|refine AA ?_|(refine AB (B8) ?_;intro r hr)|(refine AJ ?_ (Cj ?_);intro r hr)|(refine AJ ?_ (bI ?_ ?_);intro r hr)|(refine AJ ?_ (Ca ?_);rintro r ⟨hr,b⟩)
 all_goals try (have c:=(Vb.lens (x:=x) (by unfold OQ at*;grind)))
 all_goals ((try dsimp only[len]at*);(try first|omega|assumption|grind[AW]))
def AC4(k:Nat):(256:Int)^k=((256^k:Nat):Int):=by grind
def zl(k:Nat):(0:Int)<256^k:=by have:0<256^k:=Nat.pow_pos (by decide);grind
def ACV(b k:Nat):(b:Int)*256^k=((b*256^k:Nat):Int):=by grind
def EZ(n:Int):Nat->Bd
 |0=>[]
 |k+1=>UInt8.ofNat (n%256).toNat::EZ (n/256) k
def iP:Bd->Nat
 |[]=>0
 |b::r=>b.toNat+256*iP r
theorem BN: ∀(k:Nat) (n:Int),(EZ n k).length=k
 |0,n=>rfl
 |k+1,n=>by rw[EZ,BU,BN k]
def mX: ∀l:Bd,iP l<256^l.length
 |[]=>by simp[iP]
 |b::r=>by have a:=mX r;have c:=b.toNat_lt;rw[iP,BU,Nat.pow_succ];omega
def ub: ∀l:Bd,EZ (iP l:Int) l.length=l
 |[]=>rfl
 |b::r=>by
  have d:=b.toNat_lt;have a:((iP (b::r):Nat):Int)/256=(iP r:Int):=by rw[iP];omega
  have c:(((iP (b::r):Nat):Int)%256).toNat=b.toNat:=by rw[iP];omega
  rw[BU,EZ,a,c,ub r];simp
def oK: ∀(k:Nat) (n m:Int),n%256^k=m%256^k->EZ n k=EZ m k
 |0,_,_,_=>rfl
 |k+1,n,m,h=>by
  have e:(256:Int)^(k+1)=256^k*256:=Int.pow_succ ..;have b:n%256=m%256:=by have a:n%256^(k+1)%256=n%256:=Int.emod_emod_of_dvd n ⟨256^k,by rw[e,Int.mul_comm]⟩;simp_all
  have c:n/256%256^k=m/256%256^k:=by
   have g: ∀x:Int,x/256%256^k=x%256^(k+1)/256:=λx=>by have d:=eO (x/256) (256^k);have f:=eO x (256*256^k);have i:x/(256*256^k)=x/256/256^k:=(im (by decide)).symm;grind
   grind
  rw[EZ,EZ,b,oK k _ _ c]
def rC: ∀(k:Nat) (n:Int),EZ n (k+1)=EZ n k++[UInt8.ofNat (n/256^k%256).toNat]
 |0,n=>by simp[EZ]
 |k+1,n=>by
  rw[EZ,rC k (n/256),EZ];have:n/256/256^k=n/256^(k+1):=by rw[Int.pow_succ,Int.mul_comm,im (by decide)]
  grind
def pV: ∀(k:Nat) (n:Int),((iP (EZ n k):Nat):Int)=n%256^k
 |0,n=>by simp[EZ,iP]
 |k+1,n=>by
  rw[EZ,iP];have d:(UInt8.ofNat (n%256).toNat).toNat=(n%256).toNat:=by rw[Vh];omega
  have e:=pV k (n/256);have a:=eO (n/256) (256^k);have b:=eO n (256*256^k);have c:n/(256*256^k)=n/256/256^k:=(im (by decide)).symm;grind
def mY: ∀(l:Bd) (b:UInt8),iP (l++[b])=iP l+b.toNat*256^l.length
 |[],b=>by simp[iP]
 |a::r,b=>by rw[Dp,iP,mY r b,iP,BU,Nat.pow_succ,Nat.mul_add];grind
def XQ(k:Nat)(n:Int):Prop:=(k<=7->0<=n/\n<256^k)/\ -9223372036854775808<=n/\n<=9223372036854775807
def pT{k:Nat}(f:k<=8){n m:Int}(hn:XQ k n)(e:XQ k m)(h:EZ n k=EZ m k):n=m:=by
 have c:=pV k n;rw[h,pV k m]at c;by_cases d:k<=7;have a:=hn.1 d;have b:=e.1 d;rw[Int.emod_eq_of_lt a.1 a.2,Int.emod_eq_of_lt b.1 b.2]at c;grind;have:k=8:=by omega
 have a:=hn.2;have b:=e.2;grind
def rd(l:Bd):Int:=wi (iP l:Int)
def ACW{k:Nat}(h:k<=7):(256:Int)^k<=72057594037927936:=by
 have:k=0\/k=1\/k=2\/k=3\/k=4\/k=5\/k=6\/k=7:=by omega
 grind
theorem tQ{l:Bd}(h:l.length<=8):XQ l.length (rd l):=by have b:=mX l;have d:rd l=((iP l:Int)+9223372036854775808)%18446744073709551616-9223372036854775808:=yV _;refine⟨λa=>?_,by omega⟩;have c:=ACW a;grind
theorem pU{l:Bd}(h:l.length<=8):EZ (rd l) l.length=l:=by
 rw[show EZ (rd l) l.length=EZ (iP l:Int) l.length from ?_,ub];apply oK;by_cases a:l.length<=7;have c:=ACW a;have b:(iP l:Int)<256^l.length:=by rw[AC4];have:=mX l;omega
 have:rd l=(iP l:Int):=by unfold rd;exact AW
 rw[this];have:l.length=8:=by omega
 rw[this,show(256:Int)^8=18446744073709551616 by decide];unfold rd;rw[yV];omega
theorem jt{k:Nat}{n:Int}(a:k<=8)(h:XQ k n):rd (EZ n k)=n:=by have b:=BN k n;refine pT (k:=k) a ?_ h ?_;have:=tQ (l:=EZ n k) (by omega);grind;have:=pU (l:=EZ n k) (by omega);grind
def xo(k:Nat):(2:Int)^(8*k)=256^k:=by rw[Int.pow_mul];rfl
def xr{n:Int}{i:Int}(c:0<=i)(d:i<8):G2 ([IntKind.wrap .u8 (Int.fdiv (IntKind.wrap .u64 n) (2^(min (Int.toNat (IntKind.wrap .u64 (wi (8*i)))) 64)))]:List Int)=[UInt8.ofNat (n/256^i.toNat%256).toNat]:=by
 have a:wi (8*i)=8*i:=AW;have b:IntKind.wrap .u64 (8*i)=8*i:=by rw[Ss];omega
 rw[a,b,show min (8*i).toNat 64=8*i.toNat by omega,xo];have e:=zl i.toNat
 rw[Yd _ (by omega),Ss,AAQ];have:n%18446744073709551616/256^i.toNat%256=n/256^i.toNat%256:=by
  have:i.toNat=0\/i.toNat=1\/i.toNat=2\/i.toNat=3\/i.toNat=4\/i.toNat=5\/i.toNat=6\/i.toNat=7:=by omega
  rcases this with h|h|h|h|h|h|h|h<;>rw[h];rw[show(256:Int)^0=1 by decide];omega;rw[show(256:Int)^1=256 by decide];omega;rw[show(256:Int)^2=65536 by decide];omega;rw[show(256:Int)^3=16777216 by decide];omega;rw[show(256:Int)^4=4294967296 by decide];omega;rw[show(256:Int)^5=1099511627776 by decide];omega;rw[show(256:Int)^6=281474976710656 by decide];omega;rw[show(256:Int)^7=72057594037927936 by decide];omega
 rw[this];rfl
theorem He{s:Bd}{n:Int}{k:Int}(h:s.length<=1099511627776)(j:1<=k)(l:k<=8):Al (s,(n,k))=some (s++EZ n k.toNat):=by
 have key:Ay (Ad (GW (s,(n,k))) (s,0)) λr=>r=s++EZ n k.toNat:=by refine AM (λ(t:Bd×Int)=>0<=t.2/\t.2<=k/\t.1=s++EZ n t.2.toNat) (λt=>(k-t.2).toNat) ⟨Af _,by dsimp only;omega,by simp[EZ]⟩ ?_;rintro⟨m,a⟩ ⟨b,i,c⟩;dsimp only at b i c;subst c;unfold GW;dsimp only;refine AC (λd=>?_) (λd=>AA (by rw[show a=k by omega]));refine AC (λf=>absurd f (by have:=lR (wi (8*a));omega)) (λ_=>?_);rw[xr b (by omega)];refine AB (Ca (by rw[Ai,BN];simp;omega)) λv g=>AA ?_;have e:wi (a+1)=a+1:=AW;rw[e];refine⟨⟨by omega,by omega,?_⟩,by omega⟩;rw[g.1,show(a+1).toNat=a.toNat+1 by omega,rC,Ax]
 obtain⟨r,hr,rfl⟩:=key;unfold Al;grind
def rq{a t:Bd}{i:Int}(c:0<=i)(d:i<t.length)(e:(a.length:Int)<=2199023255552)(f:(t.length:Int)<=2199023255552): ∃b:UInt8,six (a++t) (wi ((a.length:Int)+i))=some (b.toNat:Int)/\t.take (i+1).toNat=t.take i.toNat++[b]:=by obtain⟨k,rfl⟩:=Ea c;refine⟨t[k],?_,?_⟩;rw[AW];unfold six;grind;simp_all
def ABR{a b k:Nat}(h:a<256^k)(i:b<256)(j:k<8):BitVec.toNat (BitVec.ofInt 64 (a:Int)|||BitVec.ofInt 64 ((b:Int)*256^k))=a+b*256^k:=by
 have e:(256:Nat)^k=2^(8*k):=by rw[Nat.pow_mul]
 have g:a+b*256^k<256^(k+1):=by
  have:b*256^k+256^k<=256*256^k:=by rw[<-ft];exact PJ _ (by omega)
  omega
 have f:(256:Nat)^(k+1)<=2^64:=by rw[show(2:Nat)^64=256^8 by decide];exact Vf (by decide) (by omega)
 have d:b*256^k<2^64:=by omega
 have c:a<2^64:=by omega
 rw[ACV];rw[BitVec.toNat_or,TW,TW,TX,TX,TU c,TU d];rw[Nat.or_comm,e,Nat.mul_comm,<-Nat.two_pow_add_eq_or_of_lt (by rw[<-e];exact h)];omega
def uR{a:Nat}{b:UInt8}{i:Int}(l:0<=i)(m:i<8)(f:a<256^i.toNat)(j:Int)(h:j=8*i):IntKind.wrap .u64 (((BitVec.toNat ((BitVec.ofInt 64 (a:Int))|||(BitVec.ofInt 64 (IntKind.wrap .u64 ((IntKind.wrap .u64 (b.toNat:Int))*(2^(min (Int.toNat j) 64))))))):Nat):Int)=((a+b.toNat*256^i.toNat:Nat):Int):=by
 have g:=b.toNat_lt;have e:(256:Nat)^(i.toNat+1)<=2^64:=by rw[show(2:Nat)^64=256^8 by decide];exact Vf (by decide) (by omega)
 have k:a+b.toNat*256^i.toNat<256^(i.toNat+1):=by
  have:b.toNat*256^i.toNat+256^i.toNat<=256*256^i.toNat:=by rw[<-ft];exact PJ _ (by omega)
  omega
 have c:IntKind.wrap .u64 (b.toNat:Int)=b.toNat:=by rw[Ss];omega
 rw[h,c,show min (8*i).toNat 64=8*i.toNat by omega,xo];have d:IntKind.wrap .u64 ((b.toNat:Int)*256^i.toNat)=(b.toNat:Int)*256^i.toNat:=by rw[Ss,ACV];omega
 rw[d,ABR f g (by omega),Ss];omega
theorem fa{a t:Bd}{k:Int}(h:(a.length:Int)+t.length<=2199023255552)(v:1<=k)(w:k<=8):Av (a++t,((a.length:Int),k))=if k<=t.length then some (rd (t.take k.toNat),0)else some (0,5):=by
 unfold Av;dsimp only;have d:len (a++t)=(a.length:Int)+t.length:=by unfold len;rw[List.length_append];omega
 rw[decide_eq_false (by omega),cond_false,decide_eq_false (by omega),cond_false,decide_eq_false (by omega),cond_false,decide_eq_false (by omega),cond_false];have q:wi (len (a++t)-(a.length:Int))=t.length:=by rw[d,AW];omega
 by_cases g:k<=t.length;rw[decide_eq_false (by omega),cond_false,if_pos g];have key:Ay (Ad (GV (a++t,((a.length:Int),k))) (0,0)) λr=>r=(iP (t.take k.toNat):Int):=by
  refine AM (λ(s:Int×Int)=>0<=s.2/\s.2<=k/\s.1=(iP (t.take s.2.toNat):Int)) (λs=>(k-s.2).toNat) ⟨Af _,by dsimp only;omega,by simp[iP]⟩ ?_;rintro⟨x,c⟩ ⟨f,u,l⟩;dsimp only at f u l;subst l;unfold GV;dsimp only;refine AC (λo=>?_) (λo=>AA (by rw[show c=k by omega]));obtain⟨b,q1,q2⟩:=rq (a:=a) (t:=t) (i:=c) f (by omega) (by omega) (by omega);rw[q1,AF];refine AC (λp=>absurd p (by have:=lR (wi (8*c));omega)) (λ_=>AA ?_);have e:wi (c+1)=c+1:=AW;have m:wi (8*c)=8*c:=AW;have n:IntKind.wrap .u64 (8*c)=8*c:=by rw[Ss];omega
  have j:(t.take c.toNat).length=c.toNat:=by rw[CH];omega
  dsimp only;rw[e,uR f (by omega) (by have:=mX (t.take c.toNat);rwa [j]at this) _ (by rw[m,n])];refine⟨⟨by omega,by omega,?_⟩,by omega⟩;rw[q2,mY,j]
 obtain⟨r,hr,rfl⟩:=key;rw[hr];rfl;rw[decide_eq_true (by omega),cond_true,if_neg g]
def bu{a t:Bd}{k:Int}(h:(a.length:Int)+t.length<=2199023255552)(u:1<=k)(v:k<=8):CN (a++t,((a.length:Int),k))=if k<=t.length then some (rd (t.take k.toNat),0)else some (0,5):=by
 unfold CN;dsimp only;have d:len (a++t)=(a.length:Int)+t.length:=by grind
 rw[decide_eq_false (by omega),cond_false,decide_eq_false (by omega),cond_false,decide_eq_false (by omega),cond_false,decide_eq_false (by omega),cond_false];have p:wi (len (a++t)-(a.length:Int))=t.length:=by rw[d,AW];omega
 by_cases o:k<=t.length;rw[decide_eq_false (by omega),cond_false,if_pos o];have key:Ay (Ad (Sa (a++t,((a.length:Int),k))) (0,0)) λr=>r=(iP (t.take k.toNat):Int):=by
  refine AM (λ(s:Int×Int)=>0<=s.2/\s.2<=k/\s.1=(iP (t.take s.2.toNat):Int)) (λs=>(k-s.2).toNat) ⟨Af _,by dsimp only;omega,by simp[iP]⟩ ?_;rintro⟨w,c⟩ ⟨f,q,j⟩;dsimp only at f q j;subst j;unfold Sa;dsimp only;refine AC (λm=>?_) (λm=>AA (by rw[show c=k by omega]));obtain⟨b,q1,q2⟩:=rq (a:=a) (t:=t) (i:=c) f (by omega) (by omega) (by omega);have l:wi (8*c)=8*c:=AW;rw[q1,AF];refine AC (λn=>absurd n (by omega)) (λ_=>AA ?_);have e:wi (c+1)=c+1:=AW;have g:(t.take c.toNat).length=c.toNat:=by grind
  rw[e,uR f (by omega) (by have:=mX (t.take c.toNat);rwa [g]at this) _ l];refine⟨⟨by omega,by omega,?_⟩,by omega⟩;rw[q2,mY,g]
 obtain⟨r,hr,rfl⟩:=key;rw[hr];rfl;grind
def WN(c:BitVec 32):BitVec 32:=if c.getLsbD 0=true then(c>>>1)^^^2197175160#32 else c>>>1
def gL:Nat->BitVec 32->BitVec 32
 |0,c=>c
 |n+1,c=>WN (gL n c)
def dL(c:BitVec 32)(b:UInt8):BitVec 32:=gL 8 (c^^^BitVec.ofNat 32 b.toNat)
def zA(s:Bd):BitVec 32:=4294967295#32^^^s.foldl dL 4294967295#32
def T7(s:Bd):Int:=((zA s).toNat:Int)
def cR{a b:BitVec 32}(h:a^^^b=0#32):a=b:=by simp_all
def vv(a b:BitVec 32):WN (a^^^b)=WN a^^^WN b:=by
 unfold WN;rw[BitVec.getLsbD_xor,BitVec.ushiftRight_xor_distrib];cases a.getLsbD 0<;>cases b.getLsbD 0<;>simp;grind;grind;have:a>>>1^^^2197175160#32^^^(b>>>1^^^2197175160#32)=(a>>>1^^^b>>>1)^^^(2197175160#32^^^2197175160#32):=by ac_rfl
 grind
def pS: ∀(n:Nat) (a b:BitVec 32),gL n (a^^^b)=gL n a^^^gL n b
 |0,a,b=>rfl
 |n+1,a,b=>by rw[gL,gL,gL,pS n,vv]
def th{c:BitVec 32}(h:WN c=0#32):c=0#32:=by
 unfold WN at h;by_cases b:c.getLsbD 0=true;rw[if_pos b]at h;have d:=cR h;have a:(c>>>1).getLsbD 31=(2197175160#32).getLsbD 31:=by rw[d]
 rw[BitVec.getLsbD_ushiftRight]at a;simp_all;rw[if_neg b]at h;apply il;intro i e;cases i with
 |zero=>grind
 |succ j=>
  have a:(c>>>1).getLsbD j=(0#32).getLsbD j:=by rw[h]
  grind
def qx: ∀(n:Nat) {c:BitVec 32},gL n c=0#32->c=0#32
 |0,c,h=>h
 |n+1,c,h=>qx n (th h)
def uY{n:Nat}{a b:BitVec 32}(h:gL n a=gL n b):a=b:=by refine cR (qx n ?_);rw[pS,h,VH]
def yx{a b:BitVec 32}{x:UInt8}(h:dL a x=dL b x):a=b:=by have c:=uY h;simp_all
def yy{a:BitVec 32}{x y:UInt8}(h:dL a x=dL a y):x=y:=by
 have b:=uY h;have:a^^^(a^^^BitVec.ofNat 32 x.toNat)=a^^^(a^^^BitVec.ofNat 32 y.toNat):=by rw[b]
 rw[<-YZ,VH,Ya,<-YZ,VH,Ya]at this;have c:=congrArg BitVec.toNat this;rw[TX,TX]at c;have d:=x.toNat_lt;have e:=y.toNat_lt;exact UInt8.toNat_inj.1 (by omega)
def xG: ∀(s:Bd) {a b:BitVec 32},s.foldl dL a=s.foldl dL b->a=b
 |[],a,b,h=>h
 |x::r,a,b,h=>yx (xG r h)
def zB{u v:Bd}{x y:UInt8}(h:T7 (u++x::v)=T7 (u++y::v)):x=y:=by
 unfold T7 at h;have a:zA (u++x::v)=zA (u++y::v):=BitVec.eq_of_toNat_eq (by omega);unfold zA at a;rw[Yj,Yj,Yk,Yk]at a;have b: ∀p q:BitVec 32,4294967295#32^^^p=4294967295#32^^^q->p=q:=λp q c=>by
  have:4294967295#32^^^(4294967295#32^^^p)=4294967295#32^^^(4294967295#32^^^q):=by rw[c]
  rwa [<-YZ,VH,Ya,<-YZ,VH,Ya]at this
 exact yy (xG v (b _ _ a))
def lH(s:Bd):0<=T7 s/\T7 s<4294967296:=by unfold T7;omega
def bvI(c:BitVec 32):BitVec.ofInt 32 (c.toNat:Int)=c:=by grind
def w32(c:BitVec 32):IntKind.wrap .u32 (c.toNat:Int)=(c.toNat:Int):=by rw[sC];omega
def fdN(c:BitVec 32)(k:Nat)(a:k<=32):Int.fdiv (c.toNat:Int) (2^(min (Int.toNat (k:Int)) 32))=((c>>>k).toNat:Int):=by rw[show min (Int.toNat (k:Int)) 32=k by omega,Yd _ (by exact_mod_cast Bv (2^k)),BitVec.toNat_ushiftRight,Nat.shiftRight_eq_div_pow];grind
def fd1(c:BitVec 32):Int.fdiv (c.toNat:Int) (2^(min (Int.toNat 1) 32))=((c>>>1).toNat:Int):=fdN c 1 (by decide)
def fd4(c:BitVec 32):Int.fdiv (c.toNat:Int) (2^(min (Int.toNat 4) 32))=((c>>>4).toNat:Int):=fdN c 4 (by decide)
def zh(c:BitVec 32):((IntKind.wrap .u32 (((BitVec.toNat ((BitVec.ofInt 32 (c.toNat:Int))&&&(BitVec.ofInt 32 1))):Nat):Int))==1)=c.getLsbD 0:=by rw[bvI,w32,BitVec.toNat_and,show(BitVec.ofInt 32 1).toNat=1 by decide,Nat.and_one_is_mod];rw[show c.getLsbD 0=c.toNat.testBit 0 from rfl,Nat.testBit_zero];grind
def AAh(c:BitVec 32):(bif ((IntKind.wrap .u32 (((BitVec.toNat ((BitVec.ofInt 32 (c.toNat:Int))&&&(BitVec.ofInt 32 1))):Nat):Int))==1)then
     some (IntKind.wrap .u32 (((BitVec.toNat ((BitVec.ofInt 32 (Int.fdiv (c.toNat:Int) (2^(min (Int.toNat 1) 32))))^^^(BitVec.ofInt 32 2197175160))):Nat):Int))
    else
    some (Int.fdiv (c.toNat:Int) (2^(min (Int.toNat 1) 32))):Option Int)=some ((WN c).toNat:Int):=by
 rw[zh,fd1,bvI,w32];unfold WN;grind
def ABl(c:BitVec 32):Ad Hi ((c.toNat:Int),0)=some ((gL 8 c).toNat:Int):=by
 have key:Ay (Ad Hi ((c.toNat:Int),0)) λr=>r=((gL 8 c).toNat:Int):=by refine AM (λ(s:Int×Int)=>0<=s.2/\s.2<=8/\s.1=((gL s.2.toNat c).toNat:Int)) (λs=>(8-s.2).toNat) ⟨Af _,by dsimp only;omega,rfl⟩ ?_;rintro⟨g,a⟩ ⟨e,f,b⟩;dsimp only at e f b;subst b;refine AC (λd=>?_) (λd=>AA (by rw[show a.toNat=8 by omega]));rw[AAh,AF,AW];refine AA ⟨⟨by omega,by omega,?_⟩,by omega⟩;rw[show(a+1).toNat=a.toNat+1 by omega];rfl
 obtain⟨r,hr,rfl⟩:=key;exact hr
def we(c:BitVec 32)(b:UInt8):IntKind.wrap .u32 (((BitVec.toNat ((BitVec.ofInt 32 (c.toNat:Int))^^^(BitVec.ofInt 32 (IntKind.wrap .u32 (b.toNat:Int))))):Nat):Int)=((c^^^BitVec.ofNat 32 b.toNat).toNat:Int):=by
 have a:=b.toNat_lt;have:IntKind.wrap .u32 (b.toNat:Int)=(b.toNat:Int):=by rw[sC];omega
 rw[this,bvI,TW,w32]
def yK{x:Bd}{i:Int}(a:0<=i)(c:i<x.length): ∃b:UInt8,six x i=some (b.toNat:Int)/\x.take (i+1).toNat=x.take i.toNat++[b]:=by obtain⟨k,rfl⟩:=Ea a;refine⟨x[k],?_,?_⟩;unfold six;grind;simp_all
def wP{x:Bd}(h:x.length<=2199023255552):En x=some (T7 x):=by
 have key:Ay (Ad (Hh x) (4294967295,0)) λr=>r=((x.foldl dL 4294967295#32).toNat:Int):=by refine AM (λ(s:Int×Int)=>0<=s.2/\s.2<=x.length/\s.1=(((x.take s.2.toNat).foldl dL 4294967295#32).toNat:Int)) (λs=>((x.length:Int)-s.2).toNat) ⟨Af _,by dsimp only;omega,rfl⟩ ?_;rintro⟨f,g⟩ ⟨c,e,d⟩;dsimp only at c e d;subst d;unfold Hh;simp only[len];refine AC (λa=>?_) (λa=>AA (by rw[CR (by omega)]));obtain⟨b,q1,q2⟩:=yK c a;rw[q1,AF,we,ABl,AF,AW];refine AA ⟨⟨by omega,by omega,?_⟩,by omega⟩;rw[q2,Yj];rfl
 obtain⟨r,hr,rfl⟩:=key;unfold En;rw[hr,AF,bvI];rw[show(BitVec.ofInt 32 (if(false=true)then(-1)else(if(false=true)then((2^(32-1))-1)else((2^32)-1))))=4294967295#32 by decide,w32];rfl
def AC1{d:BitVec 32}(b:d.getLsbD 0=false)(c:d.getLsbD 1=false)(f:d.getLsbD 2=false)(g:d.getLsbD 3=false):gL 4 d=d>>>4:=by
 have h: ∀e:BitVec 32,e.getLsbD 0=false->WN e=e>>>1:=λe a=>by unfold WN;rw[if_neg (by rw[a];decide)]
 show WN (WN (WN (WN d)))=_;grind
def ABK(c:BitVec 32):(c>>>4)^^^gL 4 (c&&&15#32)=gL 4 c:=by
 have d:c=(c&&& ~~~15#32)^^^(c&&&15#32):=by apply il;intro i a;rw[BitVec.getLsbD_xor,BitVec.getLsbD_and,BitVec.getLsbD_and,BitVec.getLsbD_not];grind
 have e:gL 4 (c&&& ~~~15#32)=c>>>4:=by
  have z: ∀i,i<4->(c&&& ~~~15#32).getLsbD i=false:=λi a=>by
   have:i=0\/i=1\/i=2\/i=3:=by omega
   grind
  rw[AC1 (z 0 (by decide)) (z 1 (by decide)) (z 2 (by decide)) (z 3 (by decide))];apply il;intro i a;have b:(15#32).getLsbD (4+i)=false:=by show(15#32).toNat.testBit (4+i)=false;grind
  grind
 conv=>rhs;rw[d]
 rw[pS,e]
def ABh(c:BitVec 32):Ad KV ((c.toNat:Int),0)=some ((gL 4 c).toNat:Int):=by
 have key:Ay (Ad KV ((c.toNat:Int),0)) λr=>r=((gL 4 c).toNat:Int):=by refine AM (λ(s:Int×Int)=>0<=s.2/\s.2<=4/\s.1=((gL s.2.toNat c).toNat:Int)) (λs=>(4-s.2).toNat) ⟨Af _,by dsimp only;omega,rfl⟩ ?_;rintro⟨g,a⟩ ⟨e,f,b⟩;dsimp only at e f b;subst b;refine AC (λd=>?_) (λd=>AA (by rw[show a.toNat=4 by omega]));rw[AAh,AF,AW];refine AA ⟨⟨by omega,by omega,?_⟩,by omega⟩;rw[show(a+1).toNat=a.toNat+1 by omega];rfl
 obtain⟨r,hr,rfl⟩:=key;exact hr
def wH(t:Fin (15+1)->(Ty.int IntKind.u32).D):Prop:= ∀j:Fin 16,t j=((gL 4 (BitVec.ofNat 32 j.val)).toNat:Int)
def ACY:Ay (KA ()) wH:=by
 refine AB (P:=wH) ?_ λr hr=>AA hr;refine AM (λ(s:Int×(Fin (15+1)->(Ty.int IntKind.u32).D))=>0<=s.1/\s.1<=16/\ ∀j:Fin 16,(j.val:Int)<s.1->s.2 j=((gL 4 (BitVec.ofNat 32 j.val)).toNat:Int)) (λs=>(16-s.1).toNat) ⟨Af _,by decide,λj c=>absurd c (by dsimp only;omega)⟩ ?_;rintro⟨i,l⟩ ⟨d,h,e⟩;refine AC (λb=>?_) (λb=>AA λj=>e j (by have:=j.isLt;omega));obtain⟨k,rfl⟩:=Ea d;have a:IntKind.wrap .u32 (k:Int)=((BitVec.ofNat 32 k).toNat:Int):=by rw[sC,TX];omega
 rw[a,ABh,AF];refine AB (Dj (by omega) (by omega)) λm f=>?_;refine AB (Dj (by omega) (by omega)) λn g=>AA ?_;rw[AW];unfold fx;grind
theorem yS{t:Fin (15+1)->(Ty.int IntKind.u32).D}(b:wH t)(c:BitVec 32):K3 t (IntKind.wrap .u32 (((BitVec.toNat ((BitVec.ofInt 32 (c.toNat:Int))&&&(BitVec.ofInt 32 15))):Nat):Int))=some ((gL 4 (c&&&15#32)).toNat:Int):=by
 rw[bvI,show BitVec.ofInt 32 15=15#32 by decide,w32];have a:(c&&&15#32).toNat<16:=by exact Nat.lt_succ_of_le Nat.and_le_right
 unfold K3;rw[dif_pos ⟨by omega,by omega⟩];refine congrArg some ((b ⟨(c&&&15#32).toNat,a⟩).trans ?_);grind
def ACI(c:BitVec 32):IntKind.wrap .u32 (((BitVec.toNat ((BitVec.ofInt 32 (Int.fdiv (c.toNat:Int) (2^(min (Int.toNat 4) 32))))^^^(BitVec.ofInt 32 ((gL 4 (c&&&15#32)).toNat:Int)))):Nat):Int)=((gL 4 c).toNat:Int):=by rw[fd4,bvI,bvI,ABK,w32]
def uX: ∀(m n:Nat) (c:BitVec 32),gL m (gL n c)=gL (m+n) c
 |0,n,c=>by rw[gL,D5]
 |m+1,n,c=>by rw[gL,uX m n,Nat.succ_add];rfl
def zm{x:Bd}(h:x.length<=2199023255552):Rn x=some (T7 x):=by
 unfold Rn;obtain⟨t,f,a⟩:=ACY;rw[f,AF];have key:Ay (Ad (Sb x t) (4294967295,0)) λr=>r=((x.foldl dL 4294967295#32).toNat:Int):=by refine AM (λ(s:Int×Int)=>0<=s.2/\s.2<=x.length/\s.1=(((x.take s.2.toNat).foldl dL 4294967295#32).toNat:Int)) (λs=>((x.length:Int)-s.2).toNat) ⟨Af _,by dsimp only;omega,rfl⟩ ?_;rintro⟨i,j⟩ ⟨d,g,e⟩;dsimp only at d g e;subst e;unfold Sb;simp only[len];refine AC (λc=>?_) (λc=>AA (by rw[CR (by omega)]));obtain⟨b,q1,q2⟩:=yK d c;rw[q1,AF,we,yS a,AF,AF,ACI,yS a,AF,AF,ACI,AW];refine AA ⟨⟨by omega,by omega,?_⟩,by omega⟩;rw[q2,Yj,uX];rfl
 obtain⟨r,hr,rfl⟩:=key;rw[hr,AF,bvI];rw[show(BitVec.ofInt 32 (if(false=true)then(-1)else(if(false=true)then((2^(32-1))-1)else((2^32)-1))))=4294967295#32 by decide,w32];rfl
def H5(p:Bd):Bd:=EZ (p.length:Int) 4++(p++EZ (T7 (EZ (p.length:Int) 4++p)) 4)
theorem F5(p:Bd):(H5 p).length=p.length+8:=by unfold H5;rw[Ai,Ai,BN,BN];omega
def ga{p:Bd}(h:p.length<=8392):D8 p=some (H5 p):=by
 unfold D8;simp only[len];rw[decide_eq_false (by omega),cond_false,He (by simp) (by decide) (by decide),AF,CC];have a:sapp (EZ (p.length:Int) (Int.toNat 4)) p=some (EZ (p.length:Int) 4++p):=by unfold sapp;rw[if_pos (by rw[BN];omega)];rfl
 have c:(EZ (p.length:Int) 4++p).length=p.length+4:=by rw[Ai,BN];omega
 rw[a,AF,wP (by omega),AF];have b:=lH (EZ (p.length:Int) 4++p);rw[AW,He (by omega) (by decide) (by decide),AF,Ax];rfl
def UF(al:Nat)(t:Bd):Bd×Int×Int:=
 if t.length<4 then([],0,5)else
 if rd (t.take 4)>8392 then([],0,2)else
 if(t.length:Int)<rd (t.take 4)+8 then([],0,5)else
 if rd ((t.drop (4+(rd (t.take 4)).toNat)).take 4)≠T7 (t.take (4+(rd (t.take 4)).toNat))then([],0,3)else
 ((t.drop 4).take (rd (t.take 4)).toNat,(al:Int)+8+rd (t.take 4),0)
def rd4{t:Bd}(h:4<=t.length):0<=rd (t.take 4)/\rd (t.take 4)<4294967296:=by
 have a:(t.take 4).length=4:=by rw[CH];omega
 have:=(tQ (l:=t.take 4) (by omega)).1 (by omega);rw[a]at this;exact this
theorem TR{a t:Bd}(h:(a.length:Int)+t.length<=2199023255552):By (a++t,(a.length:Int))=some (UF a.length t):=by
 have b:len (a++t)=(a.length:Int)+t.length:=by unfold len;rw[List.length_append];omega
 have o:((a++t).length:Int)=(a.length:Int)+t.length:=b;unfold By UF;dsimp only;rw[decide_eq_false (by omega),cond_false,decide_eq_false (by omega),cond_false,fa h (by decide) (by decide)];by_cases g:t.length<4;rw[if_neg (by omega),if_pos g];rfl;rw[if_pos (by omega),if_neg g,AF,show Int.toNat 4=4 from rfl];obtain⟨p,u⟩:=rd4 (t:=t) (by omega);generalize hn:rd (t.take 4)=n at*;obtain⟨m,rfl⟩:=Ea p;rw[show((0:Int) !=0)=false by decide,cond_false];by_cases d:(m:Int)>8392;rw[decide_eq_true d,cond_true,if_pos d];rw[decide_eq_false d,cond_false,if_neg d,b,AW,AW];by_cases i:(t.length:Int)<(m:Int)+8;rw[decide_eq_true (by omega),cond_true,if_pos i];rw[decide_eq_false (by omega),cond_false,if_neg i,DE];have f:wi (wi ((a.length:Int)+4)+(m:Int))=((a++t.take (4+m)).length:Int):=by rw[AW (x:=(a.length:Int)+4),AW,Ai,CH];omega
 have j:a++t=(a++t.take (4+m))++t.drop (4+m):=by rw[Ax,Fh]
 have s:((t.drop (4+m)).length:Int)=t.length-(4+m):=by rw[Gt];omega
 have c:((a++t.take (4+m)).length:Int)=a.length+4+m:=by rw[Ai,CH];omega
 have l:Av (a++t,(wi (wi ((a.length:Int)+4)+(m:Int)),4))=some (rd ((t.drop (4+m)).take 4),0):=by
  rw[f];conv=>lhs;rw[j]
  rw[fa (by omega) (by decide) (by decide),if_pos (by omega)];rfl
 have q:R9 (a++t) (a.length:Int) (wi (wi ((a.length:Int)+4)+(m:Int)))=some (t.take (4+m)):=by unfold R9;rw[f,if_pos (by omega),c,DE,Ra,show((a.length:Int)+4+m).toNat-a.length=4+m by omega]
 have r:R9 (a++t) (wi ((a.length:Int)+4)) (wi (wi ((a.length:Int)+4)+(m:Int)))=some ((t.drop 4).take m):=by unfold R9;rw[f,AW (x:=(a.length:Int)+4),if_pos (by omega),c,show((a.length:Int)+4).toNat=a.length+4 by omega,Yf,Yg (by omega),CC,Ve,show((a.length:Int)+4+m).toNat-(a.length+4)=m by omega]
 rw[l,AF,q,AF,wP (by rw[CH];omega),AF,r];obtain⟨q1,q2⟩:=rd4 (t:=t.drop (4+m)) (by omega);have k:IntKind.wrap .u32 (rd ((t.drop (4+m)).take 4))=rd ((t.drop (4+m)).take 4):=by rw[sC];omega
 rw[k];by_cases e:rd ((t.drop (4+m)).take 4)=T7 (t.take (4+m));rw[if_neg (by simp[e]),e,bne_self_eq_false,cond_false,AF,AW (x:=(a.length:Int)+8),AW];rw[if_pos e,bne_iff_ne.2 e,cond_true]
def xh{x:Bd}{i:Int}(a:0<=i)(h:i>x.length):CN (x,(i,4))=some (0,5):=by unfold CN;dsimp only;simp only[len];rw[decide_eq_false (by decide),cond_false,decide_eq_false (by decide),cond_false,decide_eq_false (by omega),cond_false,decide_eq_true h,cond_true]
theorem XL{a t:Bd}(h:(a.length:Int)+t.length<=2199023255552):FV (a++t,(a.length:Int))=some (UF a.length t):=by
 have g:len (a++t)=(a.length:Int)+t.length:=by unfold len;rw[List.length_append];omega
 have r:((a++t).length:Int)=(a.length:Int)+t.length:=g;unfold FV UF;dsimp only;rw[decide_eq_false (by omega),cond_false,decide_eq_false (by omega),cond_false,bu h (by decide) (by decide)];by_cases j:t.length<4;rw[if_neg (by omega),if_pos j];rfl;rw[if_pos (by omega),if_neg j,AF,show Int.toNat 4=4 from rfl];obtain⟨s,w⟩:=rd4 (t:=t) (by omega);generalize hn:rd (t.take 4)=n at*;obtain⟨m,rfl⟩:=Ea s;rw[show((0:Int) !=0)=false by decide,cond_false];by_cases d:(m:Int)>8392;rw[decide_eq_true d,cond_true,if_pos d];rw[decide_eq_false d,cond_false,if_neg d];have i:wi (wi ((a.length:Int)+4)+(m:Int))=(a.length:Int)+4+m:=by rw[AW (x:=(a.length:Int)+4),AW]
 by_cases k:(t.length:Int)<(m:Int)+8;rw[if_pos k];have:CN (a++t,(wi (wi ((a.length:Int)+4)+(m:Int)),4))=some (0,5):=by
  rw[i];by_cases q:(a.length:Int)+4+m>(a++t).length;exact xh (by omega) q;have b:(a.length:Int)+4+m=((a++t.take (4+m)).length:Int):=by rw[Ai,CH];omega
  have f:a++t=(a++t.take (4+m))++t.drop (4+m):=by rw[Ax,Fh]
  have p:((t.drop (4+m)).length:Int)=t.length-(4+m):=by rw[Gt];omega
  rw[b];conv=>lhs;rw[f]
  rw[bu (by omega) (by decide) (by decide),if_neg (by omega)]
 rw[this];rfl;rw[if_neg k,DE];have b:wi (wi ((a.length:Int)+4)+(m:Int))=((a++t.take (4+m)).length:Int):=by rw[i,Ai,CH];omega
 have f:a++t=(a++t.take (4+m))++t.drop (4+m):=by rw[Ax,Fh]
 have p:((t.drop (4+m)).length:Int)=t.length-(4+m):=by rw[Gt];omega
 have c:((a++t.take (4+m)).length:Int)=a.length+4+m:=by rw[Ai,CH];omega
 have l:CN (a++t,(wi (wi ((a.length:Int)+4)+(m:Int)),4))=some (rd ((t.drop (4+m)).take 4),0):=by
  rw[b];conv=>lhs;rw[f]
  rw[bu (by omega) (by decide) (by decide),if_pos (by omega)];rfl
 have u:R9 (a++t) (a.length:Int) (wi (wi ((a.length:Int)+4)+(m:Int)))=some (t.take (4+m)):=by unfold R9;rw[b,if_pos (by omega),c,DE,Ra,show((a.length:Int)+4+m).toNat-a.length=4+m by omega]
 have v:R9 (a++t) (wi ((a.length:Int)+4)) (wi (wi ((a.length:Int)+4)+(m:Int)))=some ((t.drop 4).take m):=by unfold R9;rw[b,AW (x:=(a.length:Int)+4),if_pos (by omega),c,show((a.length:Int)+4).toNat=a.length+4 by omega,Yf,Yg (by omega),CC,Ve,show((a.length:Int)+4+m).toNat-(a.length+4)=m by omega]
 rw[l,AF,show(((rd ((t.drop (4+m)).take 4),(0:Int)):Int×Int).2 !=0)=false from rfl,cond_false,u,AF,zm (by rw[CH];omega),AF,v];have o:=lH (t.take (4+m));rw[AW (x:=T7 (t.take (4+m)))];by_cases e:rd ((t.drop (4+m)).take 4)=T7 (t.take (4+m));rw[if_neg (by simp[e]),e,bne_self_eq_false,cond_false,AF,i,AW];refine congrArg some (HD rfl (HD ?_ rfl));dsimp only;omega;rw[if_pos e,bne_iff_ne.2 e,cond_true]
def qJ{a:Nat}{t:Bd}(h:(UF a t).2.2=0):(UF a t).1.length<=8392/\(∃c,t=H5 (UF a t).1++c)/\(UF a t).2.1=(a:Int)+8+(UF a t).1.length:=by
 unfold UF at h⊢;by_cases j:t.length<4;rw[if_pos j]at h;exact absurd h (by decide);rw[if_neg j]at h⊢;obtain⟨q,r⟩:=rd4 (t:=t) (by omega);by_cases k:rd (t.take 4)>8392;rw[if_pos k]at h;exact absurd h (by decide);rw[if_neg k]at h⊢;by_cases o:(t.length:Int)<rd (t.take 4)+8;rw[if_pos o]at h;exact absurd h (by decide);rw[if_neg o]at h⊢;by_cases b:rd ((t.drop (4+(rd (t.take 4)).toNat)).take 4)≠T7 (t.take (4+(rd (t.take 4)).toNat));rw[if_pos b]at h;exact absurd h (by decide);rw[if_neg b]at h⊢;have b:=Decidable.not_not.1 b;dsimp only;have e:(t.take 4).length=4:=by rw[CH];omega
 have g:EZ (rd (t.take 4)) 4=t.take 4:=by have:=pU (l:=t.take 4) (by omega);rwa [e]at this
 generalize hn:rd (t.take 4)=n at*;obtain⟨m,rfl⟩:=Ea q;rw[DE]at b⊢;have i:((t.drop 4).take m).length=m:=by rw[CH,Gt];omega
 refine⟨by omega,?_,by omega⟩;have p:t.take (4+m)=EZ (m:Int) 4++(t.drop 4).take m:=by rw[List.take_add,g]
 have f:((t.drop (4+m)).take 4).length=4:=by rw[CH,Gt];omega
 have d:EZ (T7 (t.take (4+m))) 4=(t.drop (4+m)).take 4:=by rw[<-b];have:=pU (l:=(t.drop (4+m)).take 4) (by omega);rwa [f]at this
 refine⟨t.drop (4+m+4),?_⟩;unfold H5;rw[i,<-p,d,<-Ax,<-p];conv=>lhs;rw[<-Fh (4+m) t,<-Fh 4 (t.drop (4+m)),Po]
 rw[Ax]
theorem lW{d:Nat}{p a:Bd}(h:p.length<=8392):UF d (H5 p++a)=(p,((d:Int)+8+p.length,0)):=by
 have k:XQ 4 (p.length:Int):=⟨λ_=>⟨by omega,by rw[show(256:Int)^4=4294967296 by decide];omega⟩,by omega⟩
 have m:=lH (EZ (p.length:Int) 4++p);have c:XQ 4 (T7 (EZ (p.length:Int) 4++p)):=⟨λ_=>⟨by omega,by rw[show(256:Int)^4=4294967296 by decide];omega⟩,by omega⟩
 have l:=F5 p;have f:(H5 p++a).take 4=EZ (p.length:Int) 4:=by unfold H5;rw[Ax];exact PH (BN _ _)
 have e:rd (EZ (p.length:Int) 4)=p.length:=jt (by decide) k;have b:(H5 p++a).length=p.length+8+a.length:=by rw[Ai,l]
 have g:(H5 p++a).take (4+p.length)=EZ (p.length:Int) 4++p:=by unfold H5;rw[<-Ax,Ax];exact PH (by rw[Ai,BN])
 have i:(H5 p++a).drop (4+p.length)=EZ (T7 (EZ (p.length:Int) 4++p)) 4++a:=by unfold H5;rw[<-Ax,Ax];exact List.drop_left' (by rw[Ai,BN])
 have j:(H5 p++a).drop 4=p++(EZ (T7 (EZ (p.length:Int) 4++p)) 4++a):=by unfold H5;rw[Ax,Ax];exact List.drop_left' (BN _ _)
 unfold UF;rw[f,e,DE,g,i,j,b,if_neg (by omega),if_neg (by omega),if_neg (by omega),PH (BN _ _),jt (by decide) c,if_neg (by simp),PH rfl]
def CI(b:DW):Prop:=b.1.length<=1099511627776/\0<=b.2.1/\b.2.1<=b.1.length
def Mh{b:DW}{x:Int}(h:CI b)(c:0<=x/\x<=8):Ay (BC b x) λr=>CI r.2/\(x<=4->0<=r.1/\r.1<4294967296):=by
 unfold BC;unfold CI at*
 repeat' first
   |with_reducible apply AL<;>intro a
   |with_reducible apply AA
   |(with_reducible refine AJ ?_ (Cb ?_);intro r hr)
 all_goals ((try dsimp[len]at*);(try first|omega|assumption|grind[AW]))
def NF{b:DW}{x:Int}(h:CI b)(d:0<=x/\x<=4294967296):Ay (Cq b x) λr=>CI r.2:=by
 unfold Cq;unfold CI at*
 repeat' first
   |with_reducible apply AC<;>intro a
   |with_reducible apply AL<;>intro a
   |with_reducible apply AA
   |(with_reducible refine AJ ?_ (Ds ?_ ?_ ?_);rintro r ⟨hr,c⟩)
 all_goals ((try dsimp[len]at*);(try first|omega|assumption|grind[AW]))
def UB{b:DW}{x:Unit}(h:CI b):Ay (Cg b x) λr=>CI r.2:=by
 unfold Cg;repeat' with_reducible first|apply AC<;>intro a|apply AQ<;>intro a|apply AL<;>intro a|apply AI<;>intro a|apply AA|(refine AJ ?_ (Mh ?_ ?_);intro r hr)|(refine AJ ?_ (NF ?_ ?_);intro r hr)
 all_goals ((try dsimp[len]at*);(try first|omega|assumption|grind[CI]))
def X3{x:Bd}(h:x.length<=1099511627776):Ay (Dt x) λr=>r.2=0->OQ r.1:=by
 unfold Dt;have b:CI (x,0,0):=⟨h,by simp,by simp⟩
 repeat' with_reducible first|apply AO<;>intro a|apply AL<;>intro a|apply AI<;>intro a|apply AA|(refine AJ ?_ (Mh ?_ ?_);intro r hr)|(refine AJ ?_ (UB ?_);intro r hr)|(refine AJ ?_ (NF ?_ ?_);intro r hr)|(apply AB (B8);intro r hr)
 all_goals first|omega|assumption|(exact And.left (by assumption))|grind
def UY{x:Bd×List Int}{s:Bd×Int}(h:0<=s.2/\s.2<=x.2.length/\x.2.length<=16777216/\x.1.length<=1073741824/\(s.1.length:Int)<=x.1.length+8*s.2):Ay (Ad (KF x) s) λr=>(r.length:Int)<=x.1.length+8*x.2.length:=by
 refine AM (λ(s:Bd×Int)=>0<=s.2/\s.2<=x.2.length/\x.2.length<=16777216/\x.1.length<=1073741824/\(s.1.length:Int)<=x.1.length+8*s.2) (λ(s:Bd×Int)=>((x.2.length:Int)-s.2).toNat) h (λs b=>?_);unfold KF;repeat' with_reducible first|apply AC<;>intro a|apply AI<;>intro a|apply AA|(refine AJ ?_ (Cj ?_);intro r hr)|(refine AJ ?_ (AE ?_ ?_);rintro r ⟨hr,c⟩)
 all_goals ((try dsimp[len]at*);(try first|omega|assumption|grind[AW]))
def Ws{x:Bd×List Int}(h:x.2.length<=16777216/\x.1.length<=1073741824):Ay (HM x) λr=>(r.length:Int)<=x.1.length+8*x.2.length:=by
 unfold HM;repeat' with_reducible first|apply AA|(refine AJ ?_ (UY ?_);intro r hr)
 all_goals ((try dsimp[len]at*);(try first|omega|assumption|grind[AW]))
def U4{x:List Ah}{s:Bd×Int}(h:0<=s.2/\s.2<=x.length/\WT x/\(s.1.length:Int)<=10+40000*s.2):Ay (Ad (LD x) s) λr=>(r.length:Int)<=10+40000*x.length:=by
 refine AM (λ(s:Bd×Int)=>0<=s.2/\s.2<=x.length/\WT x/\(s.1.length:Int)<=10+40000*s.2) (λ(s:Bd×Int)=>((x.length:Int)-s.2).toNat) h (λs c=>?_);unfold LD;have⟨e,f,⟨b,a⟩,g⟩:=c;repeat' with_reducible first|apply AC<;>intro d|apply AI<;>intro d|apply AA|(refine AJ ?_ (Cj ?_);intro r hr)|(refine AJ ?_ (Ws ?_);intro r hr)|(refine AJ ?_ (AE ?_ ?_);rintro r ⟨hr,i⟩)
 all_goals try (have j:=a _ _ (by assumption))
 all_goals try unfold ya at*
 all_goals dsimp[len]at*
 all_goals first|omega|(refine⟨⟨?_,?_,⟨b,a⟩,?_⟩,?_⟩<;>(simp (disch:=omega) only[AW];omega))|grind
def Qu{x:List Ah}:Ay (Js x) λr=>r.1.length<=16777216:=by
 unfold Js;repeat' with_reducible first|apply AO<;>intro a|apply AI<;>intro a|apply AA|(apply AB (Dg);intro r hr)|(refine AJ ?_ (Cj ?_);intro r hr)|(refine AJ ?_ (U4 ?_);intro r hr)
 all_goals ((try dsimp[len]at*);(try first|omega|assumption|grind[WT]))
def CJ(b:Bl):Prop:=b.1.length<=1099511627776/\0<=b.2.1/\b.2.1<=b.1.length
def F6{b:Bl}{x:Int}(h:CJ b)(c:0<=x/\x<=8):Ay (CO b x) λr=>CJ r.2/\(x<=2->0<=r.1/\r.1<65536):=by
 unfold CO;unfold CJ at*
 repeat' first
   |with_reducible apply AI<;>intro a
   |with_reducible apply AA
   |(with_reducible refine AJ ?_ (Cb ?_);intro r hr)
 all_goals ((try dsimp[len]at*);(try first|omega|assumption|grind[AW]))
def Sh  {s:Int×List Int×Bl}(h:0<=s.1/\s.1+s.2.1.length<=65536/\CJ s.2.2):Ay (Ad (Ib) s) λr=>CJ r.2/\r.1.length<=65536:=by
 refine AM (λ(s:Int×List Int×Bl)=>0<=s.1/\s.1+s.2.1.length<=65536/\CJ s.2.2) (λ(s:Int×List Int×Bl)=>s.1.toNat) h (λs c=>?_);unfold Ib;repeat' with_reducible first|apply AC<;>intro a|apply AO<;>intro a|apply AI<;>intro a|apply AA|(refine AJ ?_ (F6 ?_ ?_);intro r hr)|(refine AJ ?_ (Ac ?_);rintro r ⟨hr,d,b⟩)
 all_goals ((try dsimp[len]at*);(try first|omega|assumption|grind[AW]))
def UD{b:Bl}{x:Int}(h:CJ b)(a:0<=x/\x<=2):Ay (Fx b x) λr=>CJ r.2:=by
 unfold Fx;repeat' with_reducible first|apply AA|(refine AJ ?_ (F6 ?_ ?_);intro r hr)|(refine AJ ?_ (Sh ?_);intro r hr)
 all_goals ((try dsimp[len]at*);(try first|omega|assumption|grind[AW]))
def U3  {s:Int×List Ah×Bl}(h:0<=s.1/\s.1+s.2.1.length<=65536/\CJ s.2.2):Ay (Ad (LC) s) λr=>CJ r.2/\r.1.length<=65536:=by
 refine AM (λ(s:Int×List Ah×Bl)=>0<=s.1/\s.1+s.2.1.length<=65536/\CJ s.2.2) (λ(s:Int×List Ah×Bl)=>s.1.toNat) h (λs c=>?_);unfold LC;repeat' with_reducible first|apply AC<;>intro a|apply AO<;>intro a|apply AI<;>intro a|apply AA|(refine AJ ?_ (F6 ?_ ?_);intro r hr)|(refine AJ ?_ (UD ?_ ?_);intro r hr)|(refine AJ ?_ (Ac ?_);rintro r ⟨hr,d,b⟩)
 all_goals ((try dsimp[len]at*);(try first|omega|assumption|grind[AW]))
def Qt{x:Bd}(h:x.length<=1099511627776):Ay (Jr x) λr=>r.1.length<=65536/\(r.2=0->WT r.1):=by
 unfold Jr;have b:CJ (x,0,false):=⟨h,by simp,by simp⟩
 repeat' with_reducible first|apply AO<;>intro a|apply AL<;>intro a|apply AI<;>intro a|apply AA|(refine AJ ?_ (F6 ?_ ?_);intro r hr)|(refine AJ ?_ (U3 ?_);intro r hr)|(apply AB (Dg);intro r hr)
 all_goals ((try dsimp[len]at*);(try first|omega|assumption|grind[AW]))
def U2{x:BY}{s:Bd×Int}(h:0<=s.2/\s.2<=x.length/\x.length<=64/\(s.1.length:Int)<=10+24*s.2):Ay (Ad (ID x) s) λr=>r.length<=2000:=by
 refine AM (λ(s:Bd×Int)=>0<=s.2/\s.2<=x.length/\x.length<=64/\(s.1.length:Int)<=10+24*s.2) (λ(s:Bd×Int)=>((x.length:Int)-s.2).toNat) h (λs b=>?_);unfold ID;repeat' with_reducible first|apply AC<;>intro a|apply AI<;>intro a|apply AA|(refine AJ ?_ (Cj ?_);intro r hr)|(refine AJ ?_ (AE ?_ ?_);rintro r ⟨hr,c⟩)
 all_goals ((try dsimp[len]at*);(try first|omega|assumption|grind[AW]))
def Qs{x:BY}:Ay (Hl x) λr=>r.1.length<=2000:=by
 unfold Hl;repeat' with_reducible first|apply AO<;>intro a|apply AI<;>intro a|apply AA|(apply AB (F3);intro r hr)|(refine AJ ?_ (Cj ?_);intro r hr)|(refine AJ ?_ (U2 ?_);intro r hr)
 all_goals ((try dsimp[len]at*);(try first|omega|assumption|grind[ff]))
def U1{x:Bd}{a:Int×Int}{s:Int×List DZ}(h:0<=s.1/\s.1<=a.1/\a.1<=65536/\x.length<=1099511627776/\s.2.length<=s.1):Ay (Ad (IC x a) s) λr=>r.length<=65536:=by
 refine AM (λ(s:Int×List DZ)=>0<=s.1/\s.1<=a.1/\a.1<=65536/\x.length<=1099511627776/\s.2.length<=s.1) (λ(s:Int×List DZ)=>(a.1-s.1).toNat) h (λs d=>?_);unfold IC;repeat' with_reducible first|apply AC<;>intro b|apply AI<;>intro b|apply AA|(refine AJ ?_ (Cb ?_);intro r hr)|(refine AJ ?_ (Ac ?_);rintro r ⟨hr,e,c⟩)
 all_goals ((try dsimp[len]at*);(try first|omega|assumption|grind[AW]))
def Qr{x:Bd}(h:x.length<=1099511627776):Ay (ER x) λr=>(r.2=0->ff r.1)/\r.1.length<=65536:=by
 unfold ER;repeat' with_reducible first|apply AC<;>intro a|apply AO<;>intro a|apply AL<;>intro a|apply AI<;>intro a|apply AA|(refine AJ ?_ (Cb ?_);intro r hr)|(refine AJ ?_ (U1 ?_);intro r hr)|(apply AB (F3);intro r hr)
 all_goals ((try dsimp[len]at*);(try first|omega|assumption|grind[AW]))
def PZ{x:CD}{s:Int}(h:0<=s/\s<=x.2.2.1.length/\(x.2.2.1.length:Int)<=16777216):Ay (Ad (Md x) s) λr=>r≠ .inl true:=by
 refine AM (λ(s:Int)=>0<=s/\s<=x.2.2.1.length/\(x.2.2.1.length:Int)<=16777216) (λ(s:Int)=>((x.2.2.1.length:Int)-s).toNat) h (λs b=>?_);unfold Md;repeat' with_reducible first|apply AC<;>intro a|apply AI<;>intro a|apply AA|(refine AJ ?_ (AE ?_ ?_);rintro r ⟨hr,c⟩)
 all_goals ((try dsimp[len]at*);(try first|omega|assumption|grind[AW]))
def lX(x:CD):Prop:=1<=x.1/\x.1<=64/\WT x.2.2.1/\ff x.2.2.2.2/\x.2.2.2.2.length=x.1
def NR{x:CD}(h:x.2.2.2.1.length<=16777216):Ay (Gz x) λr=>r=true->lX x:=by
 unfold Gz lX
 repeat' first
   |with_reducible apply AC<;>intro a
   |with_reducible apply AO<;>intro a
   |with_reducible apply AL<;>intro a
   |(with_reducible apply A3<;>(intro u b;try subst b))
   |with_reducible apply AA
   |(with_reducible apply AB (Dg);intro r hr)
   |(with_reducible refine AJ ?_ (Ob ?_);intro r hr)
   |(with_reducible apply AB (F3);intro r hr)
   |(with_reducible refine AJ ?_ (PZ ?_);intro r hr)
 all_goals ((try dsimp[len]at*);(try first|omega|assumption|grind[WT]))
def U7{x:CD}{s:Bd×Int}(h:0<=s.2/\s.2<=x.2.2.2.1.length/\x.2.2.2.1.length<=16777216/\(s.1.length:Int)<=100000000+24*s.2):Ay (Ad (IF x) s) λr=>r.length<=1073741824:=by
 refine AM (λ(s:Bd×Int)=>0<=s.2/\s.2<=x.2.2.2.1.length/\x.2.2.2.1.length<=16777216/\(s.1.length:Int)<=100000000+24*s.2) (λ(s:Bd×Int)=>((x.2.2.2.1.length:Int)-s.2).toNat) h (λs b=>?_);unfold IF;repeat' with_reducible first|apply AC<;>intro a|apply AI<;>intro a|apply AA|(refine AJ ?_ (Cj ?_);intro r hr)|(refine AJ ?_ (AE ?_ ?_);rintro r ⟨hr,c⟩)
 all_goals ((try dsimp[len]at*);(try first|omega|assumption|grind[AW]))
def YI{x:CD}(h:x.2.2.2.1.length<=16777216):Ay (Gd x) λr=>r.1.length<=2147483648:=by
 unfold Gd;repeat' with_reducible first|apply AO<;>intro a|apply AI<;>intro a|apply AA|(refine AJ ?_ (NR ?_);intro r hr)|(apply AB (Qu);intro r hr)|(refine AJ ?_ (Cj ?_);intro r hr)|(refine AJ ?_ (U7 ?_);intro r hr)|(apply AB (Qs);intro r hr)|(refine AJ ?_ (Ca ?_);rintro r ⟨hr,b⟩)
 all_goals ((try dsimp[len]at*);(try first|omega|assumption|grind[AW]))
def SU(c:FG):Bd:=bif c.1 then EZ (c.2.length:Int) 1++c.2 else EZ 255 1
def Bt(e:AD):Bd:=
 EZ e.1 8++(EZ e.2.1 1++(EZ e.2.2.1 4++(EZ e.2.2.2.1 8++(EZ e.2.2.2.2.1 8++(EZ e.2.2.2.2.2.1 8++(EZ e.2.2.2.2.2.2.1.1 4++(EZ e.2.2.2.2.2.2.1.2.1 1++
 (SU e.2.2.2.2.2.2.1.2.2.1++(SU e.2.2.2.2.2.2.1.2.2.2++(EZ (e.2.2.2.2.2.2.2.length:Int) 4++e.2.2.2.2.2.2.2))))))))))
theorem db{c:FG}(h:HZ c):(SU c).length<=13:=by
 unfold SU;cases c.1 with
 |true=>rw[cond_true,Ai,BN];have:=h.1;omega
 |false=>grind[BN]
def uE{s:Bd}{c:FG}(h:s.length<=1099511627776)(a:c.2.length<=8192):GF (s,c)=some (s++SU c):=by grind[GF,SU,Bool.not_false,He,Bool.not_true,sapp,EZ,Int.toNat,List.length_append,BN,List.append_assoc]
def OQ.cells{e:AD}(h:OQ e):HZ e.2.2.2.2.2.2.1.2.2.1/\HZ e.2.2.2.2.2.2.1.2.2.2/\e.2.2.2.2.2.2.2.length<=8192/\XQ 8 e.1/\XQ 1 e.2.1/\XQ 4 e.2.2.1/\XQ 8 e.2.2.2.1/\XQ 8 e.2.2.2.2.1/\XQ 8 e.2.2.2.2.2.1/\XQ 4 e.2.2.2.2.2.2.1.1/\XQ 1 e.2.2.2.2.2.2.1.2.1:=by
 have⟨a1,a2,a3,a4,a5,a6,a7,a8,j⟩:=h;have k: ∀n:Int,0<=n->n<=1099511627776->XQ 8 n:=λn l m=>⟨λh=>absurd h (by decide),by omega⟩
 have p: ∀n:Int,0<=n->n<=1073741824->XQ 4 n:=λn l m=>⟨λ_=>by rw[show(256:Int)^4=4294967296 by decide];omega,by omega⟩
 have o: ∀n:Int,0<=n->n<=255->XQ 1 n:=λn l m=>⟨λ_=>by rw[show(256:Int)^1=256 by decide];omega,by omega⟩
 have z:HZ (false,[]):=⟨by decide,.inr rfl⟩
 refine and_assoc.1 (and_assoc.1 ⟨?_,k _ (by omega) (by omega),?_⟩);rcases j with⟨k1,f,d,g,c,a⟩|⟨k1,f,d,g,c,a,i,b⟩|⟨k1,f,d,g,c,a,i,b⟩|⟨k1,f,d,g,c,a,i⟩|j;exact⟨⟨a.2.2.2.2.1,a.2.2.2.2.2⟩,by rw[d];decide⟩;exact⟨⟨b.2.2.2.2.1,b.2.2.2.2.2⟩,by rw[c];decide⟩;rw[c,a];exact⟨⟨z,z⟩,by decide⟩;rw[a];exact⟨⟨z,z⟩,i⟩;have⟨k1,f,d,g,c,a,i,b⟩:=j;rw[i,b];exact⟨⟨z,z⟩,by decide⟩;have q:1<=e.2.1/\e.2.1<=8/\0<=e.2.2.1/\e.2.2.1<=1073741824/\0<=e.2.2.2.2.2.2.1.1/\e.2.2.2.2.2.2.1.1<64/\0<=e.2.2.2.2.2.2.1.2.1/\e.2.2.2.2.2.2.1.2.1<16:=by rcases j with⟨k1,f,d,g,c,a⟩|⟨k1,f,d,g,c,a,i,b⟩|⟨k1,f,d,g,c,a,i,b⟩|⟨k1,f,d,g,c,a,i⟩|j;have:=a.1;have:=a.2.1;have:=a.2.2.1;have:=a.2.2.2.1;omega;have:=b.1;have:=b.2.1;have:=b.2.2.1;have:=b.2.2.2.1;omega;grind[Ox];grind[Ox];grind[Ox]
 exact⟨o _ (by omega) (by omega),p _ (by omega) (by omega),k _ (by omega) (by omega),k _ (by omega) (by omega),k _ (by omega) (by omega),p _ (by omega) (by omega),o _ (by omega) (by omega)⟩
def SW{e:AD}(h:OQ e):(Bt e).length<=8392:=by have⟨a,b,c,_⟩:=h.cells;grind[db,Bt,List.length_append,BN]
def jz{e:AD}(h:OQ e):FJ e=some (Bt e,0):=by have⟨c,d,i,_⟩:=h.cells;have l1:=db c;have l2:=db d;have⟨b,f,g⟩:=B8 (x:=e);have a:b=true:=g.2 h;subst a;unfold FJ;rw[f,AF,EK,cond_false];rw[He (by simp) (by decide) (by decide),AF,CC];rw[He (by simp only[Ai,BN];simp only[Int.reduceToNat];omega) (by decide) (by decide),AF];rw[He (by simp only[Ai,BN];simp only[Int.reduceToNat];omega) (by decide) (by decide),AF];rw[He (by simp only[Ai,BN];simp only[Int.reduceToNat];omega) (by decide) (by decide),AF];rw[He (by simp only[Ai,BN];simp only[Int.reduceToNat];omega) (by decide) (by decide),AF];rw[He (by simp only[Ai,BN];simp only[Int.reduceToNat];omega) (by decide) (by decide),AF];rw[He (by simp only[Ai,BN];simp only[Int.reduceToNat];omega) (by decide) (by decide),AF];rw[He (by simp only[Ai,BN];simp only[Int.reduceToNat];omega) (by decide) (by decide),AF];rw[uE (by simp only[Ai,BN];simp only[Int.reduceToNat];omega) (by have:=c.1;omega),AF];rw[uE (by simp only[Ai,BN];simp[Int.reduceToNat];omega) (by have:=d.1;omega),AF];rw[He (by simp only[Ai,BN];simp[Int.reduceToNat];omega) (by decide) (by decide),AF];unfold sapp;rw[if_pos (by simp only[Ai,BN];simp[Int.reduceToNat];omega),AF];simp[Ax];rfl
def CS(x p:Bd)(c:Bd×Int×Int):Prop:=c.1=x/\(c.2.2=0-> ∃rest,x=p++rest/\c.2.1=p.length)
def lU{t:Bd}{k:Nat}(h:k<=t.length)(a:k<=8):XQ k (rd (t.take k))/\EZ (rd (t.take k)) k=t.take k:=by grind[List.length_take,tQ,pU]
def YS{x p:Bd}{c:Bd×Int×Int}{k:Nat}(h:CS x p c)(o:x.length<=1099511627776)(q:1<=k)(m:k<=8):Ay (BC c (k:Int)) λr=>CS x (p++EZ r.1 k) r.2/\(r.2.2.2=0->XQ k r.1)/\(c.2.2≠0->r=(0,c)):=by have⟨s,l,e⟩:=c;have⟨g,i⟩:=h;dsimp only at g i;subst g;unfold BC;refine AL (λd=>AA ⟨⟨rfl,λb=>absurd b d⟩,λb=>absurd b d,λ_=>rfl⟩) (λd=>?_);dsimp only at d;subst d;have⟨a,hr,n⟩:=i rfl;subst hr n;rw[Ai]at o;rw[fa (by omega) (by omega) (by omega)];by_cases j:(k:Int)<=a.length;rw[if_pos j,AF,DE];have⟨q1,q2⟩:=lU (t:=a) (k:=k) (by omega) m;rw[show((0:Int) !=0)=false by decide,cond_false];refine AA ⟨⟨rfl,λ_=>⟨a.drop k,?_,?_⟩⟩,λ_=>q1,λf=>absurd rfl f⟩;grind[List.append_assoc,List.take_append_drop];grind[AW,List.length_append,BN];rw[if_neg j,AF];rw[show((5:Int) !=0)=true by decide,cond_true];exact AA ⟨⟨rfl,λb=>absurd (show(5:Int)=0 from b) (by decide)⟩,λb=>absurd (show(5:Int)=0 from b) (by decide),λf=>absurd rfl f⟩
def xy{x p:Bd}{c:Bd×Int×Int}{n:Int}(h:CS x p c)(k:x.length<=1099511627776)(hn:c.2.2=0->0<=n/\n<4294967296):Ay (Cq c n) λr=>CS x (p++r.1) r.2/\(r.2.2.2=0->(r.1.length:Int)=n/\c.2.2=0):=by have⟨s,g,e⟩:=c;have⟨d,f⟩:=h;dsimp only at d f hn;subst d;unfold Cq;by_cases j:e=0;subst j;have⟨a,hr,i⟩:=f rfl;have⟨l,q⟩:=hn rfl;subst hr i;obtain⟨m,rfl⟩:=Ea l;rw[Ai]at k;rw[show((0:Int) !=0)=false by decide,cond_false];simp only[len];rw[show wi (((p++a).length:Int)-(p.length:Int))=a.length by rw[Ai,AW];omega];by_cases o:(m:Int)<=a.length;rw[decide_eq_false (by omega),cond_false];rw[(by grind[AW,R9,List.length_append,List.drop_left]:R9 (p++a) (wi (wi ((p.length:Int)+(m:Int))-(m:Int))) (wi ((p.length:Int)+(m:Int)))=some (a.take m)),AF];refine AA ⟨⟨rfl,λ_=>⟨a.drop m,?_,?_⟩⟩,λ_=>⟨?_,by first|rfl|trivial⟩⟩;grind[List.append_assoc,List.take_append_drop];grind[AW,List.length_append,List.length_take];grind[List.length_take];rw[decide_eq_true (by omega),cond_true];exact AA ⟨⟨rfl,λb=>absurd (show(5:Int)=0 from b) (by decide)⟩,λb=>absurd (show(5:Int)=0 from b) (by decide)⟩;grind[AA]
theorem xu{x p:Bd}{c:Bd×Int×Int}(h:CS x p c)(i:x.length<=1099511627776):Ay (Cg c ()) λr=>CS x (p++SU r.1) r.2/\(r.2.2.2=0->HZ r.1):=by unfold Cg;refine AB (YS (k:=1) h i (by decide) (by decide)) λv n=>?_;have⟨⟨f,j⟩,q,y⟩:=n;refine AL (λd=>AA ⟨⟨f,λb=>absurd b d⟩,λb=>absurd b d⟩) (λd=>?_);have⟨e,hr,g⟩:=j d;have m:=(q d).1 (by decide);rw[show(256:Int)^1=256 by decide]at m;refine AQ (λa=>AA ⟨⟨f,λ_=>⟨e,?_,?_⟩⟩,λ_=>⟨Bv _,.inr rfl⟩⟩) (λa=>?_);dsimp only;rw[a]at hr;exact hr;dsimp only;rw[a]at g;exact g;refine AC (λ_=>AA ⟨⟨f,λb=>absurd (show(4:Int)=0 from b) (by decide)⟩,λb=>absurd (show(4:Int)=0 from b) (by decide)⟩) (λl=>?_);refine AB (xy (x:=x) (p:=p++EZ v.1 1) ⟨f,j⟩ i (λ_=>⟨by omega,by omega⟩)) λw o=>AA ?_;have⟨⟨s,z⟩,t⟩:=o;refine⟨⟨s,λb=>?_⟩,λb=>?_⟩;grind[SU,EZ,List.append_assoc];dsimp only at b⊢;have⟨u,_⟩:=t b;exact⟨by dsimp only;omega,.inl rfl⟩
def WK{x p a:Bd}{n:Int}{k:Nat}(e:x=p++(EZ n k++a))(d:x.length<=1099511627776)(b:1<=k)(c:k<=8)(hn:XQ k n):BC (x,((p.length:Int),0)) (k:Int)=some (n,(x,(((p++EZ n k).length:Int),0))):=by grind[List.length,List.length_append,BN,BC,fa,Int.toNat_natCast,List.take_left',jt,AW]
theorem xw{x p w a:Bd}(c:x=p++(w++a))(d:x.length<=1099511627776):Cq (x,((p.length:Int),0)) (w.length:Int)=some (w,(x,(((p++w).length:Int),0))):=by
 have b:=congrArg List.length c;simp[Ai]at b;unfold Cq;dsimp only;rw[show((0:Int) !=0)=false by decide,cond_false];simp only[len];rw[show decide ((w.length:Int)>wi ((x.length:Int)-(p.length:Int)))=false from decide_eq_false (by rw[AW];omega),cond_false];have e:R9 x (wi (wi ((p.length:Int)+(w.length:Int))-(w.length:Int))) (wi ((p.length:Int)+(w.length:Int)))=some w:=by rw[AW (x:=(p.length:Int)+(w.length:Int)),AW];unfold R9;rw[if_pos (by omega),c,show((p.length:Int)+(w.length:Int)-(w.length:Int)).toNat=p.length by omega,Ra,show((p.length:Int)+(w.length:Int)).toNat-p.length=w.length by omega,aC]
 grind[AW,List.length_append]
def xt{x p a:Bd}{c:FG}(e:x=p++(SU c++a))(i:x.length<=1099511627776)(k:HZ c):Cg (x,((p.length:Int),0)) ()=some (c,(x,(((p++SU c).length:Int),0))):=by
 have⟨b,d⟩:=c;have⟨j,f⟩:=k;dsimp only at j f;unfold Cg;cases b with
 |false=>
  have l:d=[]:=by rcases f with h|h;cases h;exact h
  subst l;rw[(rfl:SU (false,[])=EZ 255 1)]at e⊢;rw[show(1:Int)=((1:Nat):Int)from rfl,WK e i (by decide) (by decide) ⟨λ_=>by decide,by decide,by decide⟩];rfl
 |true=>have g:SU (true,d)=EZ (d.length:Int) 1++d:=rfl;rw[g,Ax]at e;rw[g];rw[show(1:Int)=((1:Nat):Int)from rfl,WK e i (by decide) (by decide) ⟨λ_=>by rw[show(256:Int)^1=256 by decide];omega,by omega⟩,AF];grind[xw,List.append_assoc]
def ABe{x:Bd}(a:x.length<=1099511627776):Ay (Dt x) λr=>r.2=0->x=Bt r.1/\HZ r.1.2.2.2.2.2.2.1.2.2.1/\HZ r.1.2.2.2.2.2.2.1.2.2.2/\XQ 4 (r.1.2.2.2.2.2.2.2.length:Int)/\Ck r.1=some true:=by
 unfold Dt;have I:CS x [] (x,(0,0)):=⟨rfl,λ_=>⟨x,rfl,rfl⟩⟩
 refine AB (YS (k:=8) I a (by decide) (by decide)) λO y=>?_;refine AB (YS (k:=1) y.1 a (by decide) (by decide)) λP z=>?_;refine AB (YS (k:=4) z.1 a (by decide) (by decide)) λQ A=>?_;refine AB (YS (k:=8) A.1 a (by decide) (by decide)) λR B=>?_;refine AB (YS (k:=8) B.1 a (by decide) (by decide)) λS C=>?_;refine AB (YS (k:=8) C.1 a (by decide) (by decide)) λT D=>?_;refine AB (YS (k:=4) D.1 a (by decide) (by decide)) λU E=>?_;refine AB (YS (k:=1) E.1 a (by decide) (by decide)) λV F=>?_;refine EO (xu F.1 a) λq M o=>?_;refine EO (xu o.1 a) λs w p=>?_;refine AB (YS (k:=4) p.1 a (by decide) (by decide)) λj b=>?_;refine AB (xy (n:=j.1) b.1 a (λc=>?_)) λJ f=>?_;have:=(b.2.1 c).1 (by decide);rw[show(256:Int)^4=4294967296 by decide]at this;exact this;refine AL (λh=>AA λc=>absurd c h) (λh=>?_);refine AL (λ_=>AA λc=>absurd c (by decide)) (λG=>?_);refine EO (B8) λK i _=>?_;refine AO (λ_=>AA λc=>absurd c (by decide)) (λH=>AA λ_=>?_);subst H;obtain⟨q11,d⟩:=f.2 h;have l:s.2.2.2=0:=RZ λe=>by have:=b.2.2 e;rw[this]at d;exact e d
 have u:=p.2 l;have L:q.2.2.2=0:=RZ λe=>by
  have:s=((false,[]),q.2):=by have:=w;unfold Cg BC at this;rw[bne_iff_ne.2 e,cond_true,AF,bne_iff_ne.2 e,cond_true]at this;injection this with this;exact this.symm
  rw[this]at l;exact e l
 have t:=o.2 L;obtain⟨g,m,N⟩:=f.1.2 h;have hr:g=[]:=by simp only[len]at G;have v:=congrArg List.length m;rw[Ai]at v;exact Eb (by omega)
 subst hr;refine⟨?_,t,u,?_,i⟩;rw[m];unfold Bt;dsimp only;rw[q11];simp only[Ax,CC,Do];dsimp only;rw[q11];exact b.2.1 d
def xv{e:AD}(h:OQ e):Dt (Bt e)=some (e,0):=by
 obtain⟨s,t,H,w,y,z,A,B,C,D,E⟩:=h.cells;have I:=SW h;have g:XQ 4 (e.2.2.2.2.2.2.2.length:Int):=⟨λ_=>by rw[show(256:Int)^4=4294967296 by decide];omega,by omega⟩
 have a:Bt e=[]++(EZ e.1 8++(EZ e.2.1 1++(EZ e.2.2.1 4++(EZ e.2.2.2.1 8++(EZ e.2.2.2.2.1 8++(EZ e.2.2.2.2.2.1 8++(EZ e.2.2.2.2.2.2.1.1 4++(EZ e.2.2.2.2.2.2.1.2.1 1++
 (SU e.2.2.2.2.2.2.1.2.2.1++(SU e.2.2.2.2.2.2.1.2.2.2++(EZ (e.2.2.2.2.2.2.2.length:Int) 4++(e.2.2.2.2.2.2.2++[])))))))))))):=by rw[Do];rfl
 generalize Bt e=x at*;have i:BC (x,(((0:Int)),0)) 8=_:=WK (p:=[]) (k:=8) a (by omega) (by decide) (by decide) w;rw[CC]at i;rw[CC]at a;have j:=WK (k:=1) a (by omega) (by decide) (by decide) y;rw[<-Ax]at a;have l:=WK (k:=4) a (by omega) (by decide) (by decide) z;rw[<-Ax]at a;have m:=WK (k:=8) a (by omega) (by decide) (by decide) A;rw[<-Ax]at a;have n:=WK (k:=8) a (by omega) (by decide) (by decide) B;rw[<-Ax]at a;have o:=WK (k:=8) a (by omega) (by decide) (by decide) C;rw[<-Ax]at a;have q:=WK (k:=4) a (by omega) (by decide) (by decide) D;rw[<-Ax]at a;have r:=WK (k:=1) a (by omega) (by decide) (by decide) E;rw[<-Ax]at a;have F:=xt a (by omega) s;rw[<-Ax]at a;have G:=xt a (by omega) t;rw[<-Ax]at a;have c:=WK (k:=4) a (by omega) (by decide) (by decide) g;rw[<-Ax]at a;have d:=xw a (by omega);rw[Do]at a;rw[<-a]at d;unfold Dt;rw[i,AF];rw[show((1:Nat):Int)=1 from rfl]at j r;rw[show((4:Nat):Int)=4 from rfl]at l q c;rw[show((8:Nat):Int)=8 from rfl]at m n o;rw[j,AF,l,AF,m,AF,n,AF,o,AF,q,AF,r,AF,F,AF,G,AF,c,AF,d,AF];obtain⟨b,u,v⟩:=B8 (x:=e);have f:b=true:=v.2 h;subst f;dsimp only[len];rw[show((0:Int) !=0)=false by decide,cond_false,bne_self_eq_false,cond_false];rw[show(e.1,(e.2.1,(e.2.2.1,(e.2.2.2.1,(e.2.2.2.2.1,(e.2.2.2.2.2.1,((e.2.2.2.2.2.2.1.1,(e.2.2.2.2.2.2.1.2.1,(e.2.2.2.2.2.2.1.2.2.1,e.2.2.2.2.2.2.1.2.2.2))),e.2.2.2.2.2.2.2)))))))=e from rfl,u,AF,EK,cond_false]
def YV{S R:Type}(I:S->Prop)(μ:S->Nat)(m:Nat)(Q:R->Prop):Step S R->Prop
 | .next s'=>I s'/\μ s'<m
 | .done r=>Q r
def Ha{S R:Type}{body:S->Option (Step S R)}(I:S->Prop)(a:S->Nat){Q:R->Prop}{s:S}(b:I s)(c: ∀s,I s->Ay (body s) (YV I a (a s) Q)):Ay (Ad body s) Q:=AM I a b λs d=>(c s d).mono λe h=>by cases e<;>exact h
theorem Ay.next{S R:Type}{I:S->Prop}{a:S->Nat}{m:Nat}{Q:R->Prop}{s:S}(h:I s)(b:a s<m):Ay (some (Step.next s)) (YV I a m Q):=⟨_,rfl,h,b⟩
theorem Ay.done{S R:Type}{I:S->Prop}{a:S->Nat}{m:Nat}{Q:R->Prop}{r:R}(h:Q r):Ay (some (Step.done r)) (YV I a m Q):=⟨_,rfl,h⟩
def Jz(l:List AD):Bd:=(l.map λe=>H5 (Bt e)).flatten
def SY(l:List AD)(e:AD):Jz (l++[e])=Jz l++H5 (Bt e):=by unfold Jz;grind
theorem iC(e:AD)(l:List AD):Jz (e::l)=H5 (Bt e)++Jz l:=rfl
def lI{l:List AD}(h: ∀e∈l,OQ e):(Jz l).length<=8400*l.length:=by
 induction l with
 |nil=>exact Ak _
 |cons e r b=>have c:=b λx a=>h x (Am.2 (.inr a));have d:=SW (h e (Am.2 (.inl rfl)));rw[iC,Ai,F5,BU];omega
def vM{x p a:Bd}{at_:Int}{k:Nat}(c:x=p++a)(e:at_=p.length)(i:x.length≤1099511627776)(h:1≤k)(f:k≤8)(g:k≤a.length):
  ∃n b,Av (x,(at_,(k:Int)))=some (n,0)/\CN (x,(at_,(k:Int)))=some (n,0)/\x=(p++EZ n k)++b/\XQ k n/\b.length+k=a.length:=by
 have d:=congrArg List.length c;rw[Ai]at d;obtain⟨q1,q2⟩:=lU (t:=a) g f;refine⟨rd (a.take k),a.drop k,?_,?_,?_,q1,?_⟩;rw[c,e,fa (by omega) (by omega) (by omega),if_pos (by omega),DE];rw[c,e,bu (by omega) (by omega) (by omega),if_pos (by omega),DE];rw[q2,Ax,Fh];exact c;rw[Gt];omega
def dv{x p rest:Bd}{at_ n:Int}{k:Nat}(a:x=p++(EZ n k++rest))(d:at_=p.length)(f:x.length≤1099511627776)(e:1≤k)(c:k≤8)(hn:XQ k n):
  Av (x,(at_,(k:Int)))=some (n,0)/\CN (x,(at_,(k:Int)))=some (n,0):=by
 have b:=congrArg List.length a;simp only[Ai,BN]at b;refine⟨?_,?_⟩;rw[a,d,fa (by rw[Ai,BN];omega) (by omega) (by omega),if_pos (by rw[Ai,BN];omega),DE,PH (BN _ _),jt c hn];rw[a,d,bu (by rw[Ai,BN];omega) (by omega) (by omega),if_pos (by rw[Ai,BN];omega),DE,PH (BN _ _),jt c hn]
theorem Wm{x:List Ao×Int×Bool×Cl}{s:Int×List Ao}(h:0<=s.1/\s.1<=x.1.length/\x.1.length<=16777216/\s.2.length<=s.1):Ay (Ad (NN x) s) λr=>r.length<=x.1.length:=by
 refine AM (λ(s:Int×List Ao)=>0<=s.1/\s.1<=x.1.length/\x.1.length<=16777216/\s.2.length<=s.1) (λ(s:Int×List Ao)=>((x.1.length:Int)-s.1).toNat) h (λs b=>?_);unfold NN;repeat' with_reducible first|refine AI ?_ ?_<;>intro c|(refine BF ?_;try dsimp only)|refine BP ?_|refine BZ ?_|refine AA ?_|(refine AJ ?_ (AE ?_ ?_);rintro r ⟨hr,e⟩)|(refine AJ ?_ (Ac ?_);rintro r ⟨hr,d,a⟩)
 all_goals ((try dsimp only[len]at*);(try first|omega|assumption|grind[AW]))
def Jp{x:List Ao×Int×Bool×Cl}(h:x.1.length<=16777216):Ay (GH x) λr=>r.length<=x.1.length:=by
 unfold GH;repeat' with_reducible first|apply AA|(refine AJ ?_ (Wm ?_);intro r hr)
 all_goals grind
theorem Wj{x:Aw×Int}{s:Int}(h:0<=s/\s<=x.1.1.length/\(x.1.1.length:Int)<=16777216/\0<=x.2/\x.2<x.1.2.length):Ay (Ad (NI x) s) λr=>True:=by
 refine AM (λ(s:Int)=>0<=s/\s<=x.1.1.length/\(x.1.1.length:Int)<=16777216/\0<=x.2/\x.2<x.1.2.length) (λ(s:Int)=>((x.1.1.length:Int)-s).toNat) h (λs a=>?_);unfold NI;repeat' with_reducible first|refine AI ?_ ?_<;>intro b|refine AA ?_|(refine AB (GG) ?_;intro r hr)|(refine AJ ?_ (AE ?_ ?_);rintro r ⟨hr,c⟩)
 all_goals ((try dsimp only[len]at*);(try first|omega|assumption|grind[AW]))
theorem Wk{x:Aw×Int}{s:Int}(h:0<=s/\s<=x.2/\(x.2:Int)<=16777216/\0<=x.2/\x.2<x.1.2.length):Ay (Ad (NJ x) s) λr=>True:=by
 refine AM (λ(s:Int)=>0<=s/\s<=x.2/\(x.2:Int)<=16777216/\0<=x.2/\x.2<x.1.2.length) (λ(s:Int)=>((x.2:Int)-s).toNat) h (λs a=>?_);unfold NJ;repeat' with_reducible first|refine AI ?_ ?_<;>intro b|refine AA ?_|(refine AB (GG) ?_;intro r hr)|(refine AJ ?_ (AE ?_ ?_);rintro r ⟨hr,c⟩)
 all_goals ((try dsimp only[len]at*);(try first|omega|assumption|grind[AW]))
def bK{x:Aw×Int}(h:x.1.1.length<=4096/\x.1.2.length<=4096)(b:0<=x.2/\x.2<x.1.2.length):Ay (Lg x) λr=>True:=by
 unfold Lg;repeat' with_reducible first|(apply A3<;>(intro u a;try subst a))|apply AA|(refine AJ ?_ (Wj ?_);intro r hr)|(refine AJ ?_ (Wk ?_);intro r hr)
 all_goals grind
def Wl{x:List Ao×Ao}{s:Bool×Int×List Ao}(h:0<=s.2.1/\s.2.1<=x.1.length/\x.1.length<=4096/\s.2.2.length<=s.2.1+1/\(s.1=false->(s.2.2.length:Int)<=s.2.1)):Ay (Ad (NM x) s) λr=>r.2.length<=x.1.length+1/\(r.1=false->r.2.length<=x.1.length):=by
 refine AM (λ(s:Bool×Int×List Ao)=>0<=s.2.1/\s.2.1<=x.1.length/\x.1.length<=4096/\s.2.2.length<=s.2.1+1/\(s.1=false->(s.2.2.length:Int)<=s.2.1)) (λ(s:Bool×Int×List Ao)=>((x.1.length:Int)-s.2.1).toNat) h (λs c=>?_);unfold NM;repeat' with_reducible first|apply AC<;>intro a|apply AO<;>intro a|apply AL<;>intro a|(apply BF;try dsimp only)|apply BP|apply BZ|apply AA|(apply AB (Sf);intro r hr)|(refine AJ ?_ (AE ?_ ?_);rintro r ⟨hr,f⟩)|(refine AJ ?_ (Ac ?_);rintro r ⟨hr,d,b⟩)
 all_goals try (have e:=AW (x:=s.2.1+1))
 all_goals (first|omega|grind)
def bL{x:List Ao×Ao}(h:x.1.length<=4096):Ay (Lh x) λr=>r.length<=x.1.length+1:=by
 unfold Lh;repeat' with_reducible first|apply AO<;>intro b|(apply BF;try dsimp only)|apply BP|apply BZ|apply AA|(refine AJ ?_ (Wl ?_);intro r hr)|(refine AJ ?_ (Ac ?_);rintro r ⟨hr,c,a⟩)
 all_goals grind
def Uy{B:Nat}(t:B<=2000){s:Int×Aw}(h:0<=s.1/\s.1<=s.2.2.length/\s.2.1.length+s.2.2.length<=B):Ay (Ad QF s) λr=>r.1.length+r.2.length<=B:=by
 refine AM (λs=>0<=s.1/\s.1<=s.2.2.length/\s.2.1.length+s.2.2.length<=B) (λs=>s.2.2.length*3000+((s.2.2.length:Int)-s.1).toNat) h (λs m=>?_);obtain⟨f,o,g⟩:=m;refine AC (λd=>?_) (λd=>AA g);simp only[len]at d;refine AB (bK (by dsimp only;omega) ⟨f,d⟩) λv _=>?_;refine AB (P:=λv:Int×Aw=>(v=s)\/(v.1= -1/\v.2.1.length<=s.2.1.length+1/\v.2.2.length+1=s.2.2.length)) ?_ λi l=>?_;refine AI (λ_=>?_) (λ_=>AA (.inl rfl));refine AB (AE f d) λu _=>?_;refine AB (bL (by dsimp only;omega)) λw g=>?_;refine AB (Bo (by omega) f) λy p=>?_;have e:=AW (x:=s.1+1);refine AB (Bo (by rw[e];omega) (by rw[e];simp only[len];omega) (by simp only[len];omega)) λz j=>?_;have n:=j.2;simp only[len]at n;refine AB (Ac (by simp;omega)) λA k=>?_;refine AB (Ac (by have:=k.2.1;simp at this;omega)) λC q=>?_;refine AA (.inr ⟨rfl,g,?_⟩);grind;apply AA;rcases l with rfl|⟨a,b,c⟩;have e:=AW (x:=i.1+1);grind;have e:wi (i.1+1)=0:=by rw[a];exact AW
 grind
def Ij{B:Nat}{x:Aw}(a:B<=2000)(h:x.1.length+x.2.length<=B):Ay (FK x) λr=>r.1.length+r.2.length<=B:=by exact AB (Uy a ⟨by simp,by simp,h⟩) λr hr=>AA hr
theorem F9.of{x:Aw}{B:Nat}(a:B<=2000)(h:x.1.length+x.2.length<=B):F9 x:=⟨by omega,by omega⟩
def F9.nil:F9 (([],[]):Aw):=⟨by simp,by simp⟩
def K9{x:Aw×Int}(h:F9 x.1):Ay (HJ x) λr=>F9 r:=by refine AB (Ey h) λv e=>?_;refine AO (λ_=>AA h) (λc=>?_);have d:=e c;refine AB (Jp h.1) λa f=>?_;refine AB (Jp h.2) λb g=>?_;refine AB (Ij (B:=1024) (by decide) ?_) λr hr=>AA (F9.of (by decide) hr);unfold XT at d;grind
def X7{x:Aw×Int}(h:F9 x.1):Ay (OB x) λr=>F9 r:=by refine AB (Ey h) λv d=>?_;refine AO (λ_=>AA h) (λa=>?_);have c:=d a;refine AB (Jp h.2) λb e=>?_;refine AB (Ij (B:=1024) (by decide) ?_) λr hr=>AA (F9.of (by decide) hr);unfold XT at c;grind
def Se{x:Aw×Int×Cl}(h:F9 x.1):Ay (Lf x) λr=>F9 r:=by refine AB (Ey h) λv d=>?_;refine AO (λ_=>AA h) (λa=>?_);have c:=d a;refine AB (Jp h.1) λb e=>?_;refine AB (Ij (B:=1024) (by decide) ?_) λr hr=>AA (F9.of (by decide) hr);unfold XT at c;grind
theorem UW{x:Aw×Int}{s:Int×Ao}(h:0<=s.1/\s.1<=x.1.2.length/\x.1.2.length<=16777216):Ay (Ad (KD x) s) λr=>True:=by
 refine AM (λ(s:Int×Ao)=>0<=s.1/\s.1<=x.1.2.length/\x.1.2.length<=16777216) (λ(s:Int×Ao)=>((x.1.2.length:Int)-s.1).toNat) h (λs b=>?_);unfold KD;repeat' with_reducible first|refine AC ?_ ?_<;>intro a|refine AQ ?_ ?_<;>intro a|refine AA ?_|(refine AJ ?_ (AE ?_ ?_);rintro r ⟨hr,c⟩)
 all_goals ((try dsimp only[len]at*);(try first|omega|assumption|grind[AW]))
theorem IB{x:Aw×Int}(h:F9 x.1):Ay (Ez x) λr=>r.2=true->XT x.1:=by
 unfold Ez;repeat' with_reducible first|refine AI ?_ ?_<;>intro b|(refine BF ?_;try dsimp only)|refine BP ?_|refine BZ ?_|refine ME ?_|(refine A3 ?_ ?_<;>(intro u a;try subst a))|refine AA ?_|(refine AJ ?_ (Ey ?_);intro r hr)|(refine AJ ?_ (UW ?_);intro r hr)
 all_goals ((try dsimp only[len]at*);(try first|omega|assumption|grind[F9]))
theorem Vz{x:Aw×Ao}{s:Int}(h:0<=s/\s<=x.1.2.length/\(x.1.2.length:Int)<=16777216/\x.1.1.length<=16777216):Ay (Ad (MS x) s) λr=> ∀u,r= .inl u->0<=u/\u<=x.1.2.length:=by
 refine AM (λ(s:Int)=>0<=s/\s<=x.1.2.length/\(x.1.2.length:Int)<=16777216/\x.1.1.length<=16777216) (λ(s:Int)=>((x.1.2.length:Int)-s).toNat) h (λs a=>?_);unfold MS;repeat' with_reducible first|refine AI ?_ ?_<;>intro b|refine AA ?_|(refine AJ ?_ (Hj ?_);intro r hr)|(refine AJ ?_ (AE ?_ ?_);rintro r ⟨hr,c⟩)
 all_goals ((try dsimp only[len]at*);(try first|omega|assumption|grind[AW]))
theorem Zf{x:Aw×Ao}(h:F9 x.1):Ay (IM x) λr=>0<=r/\r<=x.1.2.length:=by
 unfold IM;repeat' with_reducible first|refine AQ ?_ ?_<;>intro b|(refine A3 ?_ ?_<;>(intro u a;try subst a))|refine AA ?_|(refine AJ ?_ (Hj ?_);intro r hr)|(refine AJ ?_ (Vz ?_);intro r hr)
 all_goals ((try dsimp only[len]at*);(try first|omega|assumption|grind[F9]))
def Wi{x:Aw×Ao}(h:F9 x.1):Ay (NH x) λr=>F9 r.1:=by refine AB (Ey h) λv o=>?_;refine AO (λ_=>AA F9.nil) (λl=>?_);have n:=o l;unfold XT at n;refine AB NK λ_ _=>?_;refine AO (λ_=>AA F9.nil) (λ_=>?_);refine AB (IB h) λA _=>?_;apply AI<;>intro m;refine AI (λ_=>AA F9.nil) (λ_=>?_);refine AI (λ_=>AA h) (λz=>?_);grind;refine AI (λ_=>AA h) (λ_=>?_);refine AB (Hj h.1) λ_ _=>?_;refine AI (λ_=>AA h) (λ_=>?_);refine AI (λ_=>AA F9.nil) (λ_=>?_);refine AB (Zf h) λp e=>?_;refine AB (Bo (by omega) e.1 e.2) λq j=>?_;refine AB (Bo e.1 (by simp only[len];omega) (by simp only[len];omega)) λs a=>?_;have f:=a.2;simp only[len]at f;refine AB (Ac (by simp;omega)) λt b=>?_;have g:=b.2.1;simp at g;refine AB (Ac (by simp;omega)) λu c=>?_;have i:=c.2.1;simp at i;refine AB (Ac (by omega)) λw k=>?_;refine AB (Ij (B:=1025) (by decide) (by dsimp only;omega)) λy d=>?_;refine AB (Hj (by dsimp only;omega)) λ_ _=>?_;exact AA (F9.of (by decide) d)
def Wp{x:List Int×Int}{s:Bool×Int×List Int}(h:0<=s.2.1/\s.2.1<=x.1.length/\x.1.length<=4096/\s.2.2.length<=s.2.1+1/\(s.1=false->(s.2.2.length:Int)<=s.2.1)):Ay (Ad (ND x) s) λr=>r.2.length<=x.1.length+1/\(r.1=false->r.2.length<=x.1.length):=by
 refine AM (λ(s:Bool×Int×List Int)=>0<=s.2.1/\s.2.1<=x.1.length/\x.1.length<=4096/\s.2.2.length<=s.2.1+1/\(s.1=false->(s.2.2.length:Int)<=s.2.1)) (λ(s:Bool×Int×List Int)=>((x.1.length:Int)-s.2.1).toNat) h (λs b=>?_);unfold ND;repeat' with_reducible first|apply AC<;>intro a|apply AO<;>intro a|apply AL<;>intro a|apply AI<;>intro a|(apply BF;try dsimp only)|apply BP|apply BZ|apply AA|(refine AJ ?_ (AE ?_ ?_);rintro r ⟨hr,g⟩)|(refine AJ ?_ (Ac ?_);rintro r ⟨hr,f,d⟩)
 all_goals try dsimp only[len]at*
 all_goals try (have e:=AW (x:=s.2.1+1))
 all_goals try (have c:=b.2.2.2.2 (by assumption))
 all_goals (try simp only[BU,BQ,Bool.true_eq_false,false_implies,and_true]at*)
 all_goals first|omega|grind
theorem OF{x:List Int×Int}(h:x.1.length<=4096):Ay (E9 x) λr=>r.length<=x.1.length+1:=by
 unfold E9;repeat' with_reducible first|refine AO ?_ ?_<;>intro a|refine AI ?_ ?_<;>intro a|(refine BF ?_;try dsimp only)|refine BP ?_|refine BZ ?_|refine AA ?_|(refine AJ ?_ (Wp ?_);intro r hr)|(refine AJ ?_ (Ac ?_);rintro r ⟨hr,c,b⟩)
 all_goals ((try dsimp only[len]at*);(try first|omega|assumption|grind[AW]))
theorem UX{x:Aw}{s:List Int×Int}(h:0<=s.2/\s.2<=x.2.length/\x.2.length<=4096/\s.1.length<=s.2):Ay (Ad (KE x) s) λr=>r.length<=x.2.length:=by
 refine AM (λ(s:List Int×Int)=>0<=s.2/\s.2<=x.2.length/\x.2.length<=4096/\s.1.length<=s.2) (λ(s:List Int×Int)=>((x.2.length:Int)-s.2).toNat) h (λs b=>?_);unfold KE;repeat' with_reducible first|refine AC ?_ ?_<;>intro a|refine AI ?_ ?_<;>intro a|refine AA ?_|(refine AJ ?_ (OF ?_);intro r hr)|(refine AJ ?_ (AE ?_ ?_);rintro r ⟨hr,c⟩)
 all_goals ((try dsimp only[len]at*);(try first|omega|assumption|grind[AW]))
theorem Wo{x:Aw}(h:F9 x):Ay (JE x) λr=>r.length<=4096:=by
 unfold JE;repeat' with_reducible first|refine AI ?_ ?_<;>intro a|(refine BF ?_;try dsimp only)|refine BP ?_|refine BZ ?_|refine AA ?_|(refine AJ ?_ (Ey ?_);intro r hr)|(refine AJ ?_ (UX ?_);intro r hr)
 all_goals ((try dsimp only[len]at*);(try first|omega|assumption|grind[AW,XT]))
theorem X8{x:Aw×Int}{b:Ao×Bool}{s:List Int×Int}(h:0<=s.2/\s.2<=x.1.1.length/\x.1.1.length<=1024/\s.1.length<=s.2):Ay (Ad (OC x b) s) λr=>r.length<=x.1.1.length:=by
 refine AM (λ(s:List Int×Int)=>0<=s.2/\s.2<=x.1.1.length/\x.1.1.length<=1024/\s.1.length<=s.2) (λ(s:List Int×Int)=>((x.1.1.length:Int)-s.2).toNat) h (λs c=>?_);unfold OC;repeat' with_reducible first|refine AC ?_ ?_<;>intro a|refine AI ?_ ?_<;>intro a|(refine BF ?_;try dsimp only)|refine BP ?_|refine BZ ?_|refine AA ?_|(refine AJ ?_ (OF ?_);intro r hr)|(refine AB (GG) ?_;intro r hr)|(refine AJ ?_ (AE ?_ ?_);rintro r ⟨hr,d⟩)
 all_goals ((try dsimp only[len]at*);(try first|omega|assumption|grind[AW]))
theorem X9{x:Aw×Int}{b:Ao×Bool}{s:List Int×Int}(h:0<=s.2/\s.2<=x.1.2.length/\x.1.2.length<=1024/\s.1.length<=s.2+1024):Ay (Ad (OD x b) s) λr=>r.length<=4096:=by
 refine AM (λ(s:List Int×Int)=>0<=s.2/\s.2<=x.1.2.length/\x.1.2.length<=1024/\s.1.length<=s.2+1024) (λ(s:List Int×Int)=>((x.1.2.length:Int)-s.2).toNat) h (λs c=>?_);unfold OD;repeat' with_reducible first|refine AC ?_ ?_<;>intro a|refine AL ?_ ?_<;>intro a|refine AI ?_ ?_<;>intro a|(refine BF ?_;try dsimp only)|refine BP ?_|refine BZ ?_|refine AA ?_|(refine AJ ?_ (OF ?_);intro r hr)|(refine AB (GG) ?_;intro r hr)|(refine AJ ?_ (AE ?_ ?_);rintro r ⟨hr,d⟩)
 all_goals ((try dsimp only[len]at*);(try first|omega|assumption|grind[AW]))
def Ki{x:Aw×Int}(h:F9 x.1):Ay (Hu x) λr=>r.length<=4096:=by unfold Hu;refine AB (IB h) λg d=>?_;refine AO (λ_=>AA (by simp)) (λb=>?_);have c:=d b;unfold XT at c;refine AB (X8 ⟨by simp,by simp,by omega,by simp⟩) λi f=>?_;refine AB (X9 ⟨by simp,by simp,by omega,by dsimp only;omega⟩) λe a=>?_;exact AA a
theorem O2{x:Aw×List Int×Int}{a:List Int}{s:Int}(h:0<=s/\s<=a.length/\(a.length:Int)<=16777216/\1<=x.2.1.length/\x.2.1.length<=4096):Ay (Ad (LA x a) s) λr=> ∀u,r= .inl u->u=x.2.1:=by
 refine AM (λ(s:Int)=>0<=s/\s<=a.length/\(a.length:Int)<=16777216/\1<=x.2.1.length/\x.2.1.length<=4096) (λ(s:Int)=>((a.length:Int)-s).toNat) h (λs c=>?_);unfold LA;repeat' with_reducible first|refine AC ?_ ?_<;>intro b|refine AQ ?_ ?_<;>intro b|refine AI ?_ ?_<;>intro b|refine AA ?_|(refine AJ ?_ (AE ?_ ?_);rintro r ⟨hr,d⟩)
 all_goals ((try dsimp only[len]at*);(try first|omega|assumption|grind[AW]))
theorem Uz{x:Aw×List Int×Int}{b:Int}{s:Bool×Int}(h:0<=s.2/\s.2<=x.2.1.length/\x.2.1.length<=4096):Ay (Ad (LB x b) s) λr=>True:=by
 refine AM (λ(s:Bool×Int)=>0<=s.2/\s.2<=x.2.1.length/\x.2.1.length<=4096) (λ(s:Bool×Int)=>((x.2.1.length:Int)-s.2).toNat) h (λs c=>?_);unfold LB;repeat' with_reducible first|refine AC ?_ ?_<;>intro a|refine AQ ?_ ?_<;>intro a|refine AI ?_ ?_<;>intro a|refine AA ?_|(refine AJ ?_ (AE ?_ ?_);rintro r ⟨hr,d⟩)
 all_goals ((try dsimp only[len]at*);(try first|omega|assumption|grind[AW]))
def yz(d:Nat){x:Aw×List Int×Int}(h:F9 x.1)(o:1<=x.2.1.length)(A:(x.2.1.length:Int)+d=x.2.2)(p:x.2.2<=4096):Ay (bC EW (d+1) x) λr=>r.length<=4096:=by
 induction d generalizing x with
 |zero=>show Ay (EW _ x) _;unfold EW;have e:=AW (x:=(x.2.1.length:Int)-1);refine AB (AE (by simp only[len];rw[e];omega) (by simp only[len];rw[e];omega)) λv _=>?_;refine AB (Ki h) λm f=>?_;refine AQ (λ_=>?_) (λc=>absurd (by simp only[len];omega) c);refine AB (O2 ⟨by simp,by simp,by omega,o,by omega⟩) λr hr=>?_;exact A3 (λu a=>AA (by rw[hr u a];omega)) (λ_ _=>AA (by simp))
 |succ d t=>show Ay (EW _ x) _;unfold EW;have e:=AW (x:=(x.2.1.length:Int)-1);refine AB (AE (by simp only[len];rw[e];omega) (by simp only[len];rw[e];omega)) λv _=>?_;refine AB (Ki h) λm f=>?_;refine AQ (λ_=>?_) (λ_=>?_);refine AB (O2 ⟨by simp,by simp,by omega,o,by omega⟩) λr hr=>?_;exact A3 (λu a=>AA (by rw[hr u a];omega)) (λ_ _=>AA (by simp));refine AB (P:=λr=> ∀u,r= .inl u->u.length<=4096) ?_ λr hr=>A3 (λu a=>AA (hr u a)) (λ_ _=>AA (by simp));refine AM (λ(s:Int)=>0<=s/\s<=m.length) (λ(s:Int)=>((m.length:Int)-s).toNat) (s:=(0:Int)) ⟨by decide,by omega⟩ (λs q=>?_);unfold QG;have b:=AW (x:=s+1);refine AC (λc=>?_) (λ_=>AA (λu a=>by cases a));simp only[len]at c;refine AB (AE q.1 c) λB _=>?_;refine AB (Uz ⟨by simp,by simp,by omega⟩) λw _=>?_;refine AI (λ_=>AA ⟨by rw[b];omega,by rw[b];omega⟩) (λ_=>?_);refine AB (Ac (by simp;omega)) λy g=>?_;have k:=g.2.1;simp only[BQ]at k;refine AB (Ac (by simp;omega)) λn i=>?_;have l:=i.2.1;simp only[BU,BQ]at l;refine AB (t (x:=(x.1,n,x.2.2)) h (by dsimp only;omega) (by dsimp only;omega) p) λz j=>?_;exact AC (λ_=>AA λu a=>by cases a;exact j) (λ_=>AA ⟨by rw[b];omega,by rw[b];omega⟩)
def YA{x:Aw×List Int×Int}(h:F9 x.1)(a:1<=x.2.1.length)(d:(x.2.1.length:Int)<=x.2.2)(b:x.2.2<=4096):Ay (OE x) λr=>True:=by obtain⟨r,hr,_⟩:=yz (x.2.2-x.2.1.length).toNat h a (by omega) b;obtain⟨s,c⟩:=Vo hr;exact⟨s,c,trivial⟩
def Zg{x:Aw×Int}(h:F9 x.1):Ay (Kh x) λr=>True:=by unfold Kh;refine AB (P:=λ_=>True) ?_ λr _=>A3 (λ_ _=>AA trivial) (λ_ _=>AA trivial);refine AM (λs=>1<=s/\s<=4097) (λs=>(4097-s).toNat) ⟨by decide,by decide⟩ (λs d=>?_);unfold Qp;have a:=AW (x:=s+1);refine AB (Wo h) λe c=>?_;refine AC (λb=>?_) (λ_=>AA trivial);simp only[len]at b;refine AB (YA h (by simp) (by show(1:Int)<=s;omega) (by show s<=4096;omega)) λf _=>?_;exact AC (λ_=>AA trivial) (λ_=>AA ⟨by rw[a];omega,by rw[a];omega⟩)
def TP(l:List Ah):Nat:=(l.map λt=>t.2.2.2.2.1.length+1).sum
theorem AAw{l:List Ah}{i:Nat}{o n:Ah}(h:l[i]? =some o):TP (l.set i n)+o.2.2.2.2.1.length=TP l+n.2.2.2.2.1.length:=by
 induction l generalizing i with
 |nil=>simp at h
 |cons t r a=>
  cases i with
  |zero=>simp at h;subst h;simp[TP];omega
  |succ i=>have:=a (i:=i) (by simpa using h);simp only[TP,List.set_cons_succ,Bb,TS]at*;omega
def nZ{l:List Ah}{id:Int}:TP (l.filter λt=>t.1 !=id)<=TP l:=by
 induction l with
 |nil=>simp
 |cons t r a=>simp only[VN];split;simp only[TP,Bb,TS]at*;omega;simp only[TP,Bb,TS]at*;omega
def oz{l:List Ah}{id:Int}{i:Nat}{t:Ah}(h:l[i]? =some t)(a:t.1=id):TP (l.filter λt=>t.1 !=id)<TP l:=by
 induction l generalizing i with
 |nil=>simp at h
 |cons u r b=>
  have q:=nZ (l:=r) (id:=id);cases i with
  |zero=>simp at h;subst h;simp only[VN,a,bne_self_eq_false,I2,if_false];simp only[TP,Bb,TS]at*;omega
  |succ i=>have:=b (i:=i) (by simpa using h);simp only[VN];split<;>(simp only[TP,Bb,TS]at*;omega)
theorem V2{x:List Ah×Int}{s:Int×List Ah}(h:0<=s.1/\s.1<=x.1.length/\x.1.length<=64/\s.2.length=s.1):Ay (Ad (MV x) s) λr=>r.length<=x.1.length:=by
 refine AM (λ(s:Int×List Ah)=>0<=s.1/\s.1<=x.1.length/\x.1.length<=64/\s.2.length=s.1) (λ(s:Int×List Ah)=>((x.1.length:Int)-s.1).toNat) h (λs c=>?_);unfold MV;repeat' with_reducible first|refine AC ?_ ?_<;>intro a|refine AI ?_ ?_<;>intro a|refine AA ?_|(refine AJ ?_ (AE ?_ ?_);rintro r ⟨hr,e⟩)|(refine AJ ?_ (Ac ?_);rintro r ⟨hr,d,b⟩)
 all_goals ((try dsimp only[len]at*);(try first|omega|assumption|grind[AW]))
theorem Rt{x:List Ah×Int}:Ay (IP x) λr=>r.2=0->r.1.length=x.1.length+1/\r.1.length<=64:=by
 unfold IP;repeat' with_reducible first|refine AC ?_ ?_<;>intro a|refine AO ?_ ?_<;>intro a|refine AQ ?_ ?_<;>intro a|refine AI ?_ ?_<;>intro a|refine AA ?_|(refine AB (Dg) ?_;intro r hr)|(refine AJ ?_ (Hn ?_);intro r hr)|(refine AJ ?_ (V2 ?_);intro r hr)|(refine AJ ?_ (Ac ?_);rintro r ⟨hr,b,c⟩)|(refine AJ ?_ (Bo ?_ ?_ ?_);rintro r ⟨hr,b⟩)
 all_goals ((try dsimp only[len]at*);(try first|omega|assumption|grind[AW,WT]))
def vj(l:List Ah)(id:Int):List Ah:=l.filter λt=>t.1 !=id
theorem iV(l:List Ah)(id:Int):(vj l id).length<=l.length:=I6 _ _
theorem zz(l:List Ah)(id:Int):TP (vj l id)<=TP l:=nZ
theorem z0{l:List Ah}{id:Int}{i:Nat}{t:Ah}(h:l[i]? =some t)(a:t.1=id):TP (vj l id)<TP l:=oz h a
def oB{a:Type}{l:List a}{n:Int}{p:a->Bool}{x:a}(c:0<=n)(b:l[n.toNat]? =some x):(l.take (n+1).toNat).filter p=(l.take n.toNat).filter p++(if p x=true then [x]else []):=by
 have e:(n+1).toNat=n.toNat+1:=by omega
 rw[e,Dq,b,JQ,I3];congr 1;simp only[VN,Yh]
def qi{a:Type}{l:List a}{n:Int}{p:a->Bool}(b:0<=n):(((l.take n.toNat).filter p).length:Int)<=n:=by have c:=I6 p (l.take n.toNat);have d:=CH (i:=n.toNat) (l:=l);omega
def U5{x:List Ah×Int}{s:Int×List Ah}(h:0<=s.1/\s.1<=x.1.length/\x.1.length<=16777216/\s.2=(x.1.take s.1.toNat).filter (λt=>t.1 !=x.2)):Ay (Ad (LF x) s) λr=>r=x.1.filter λt=>t.1 !=x.2:=by
 refine AM (λ(s:Int×List Ah)=>0<=s.1/\s.1<=x.1.length/\x.1.length<=16777216/\s.2=(x.1.take s.1.toNat).filter (λt=>t.1 !=x.2)) (λ(s:Int×List Ah)=>((x.1.length:Int)-s.1).toNat) h (λs g=>?_);unfold LF;obtain⟨b,j,f,c⟩:=g;have a:=qi (l:=x.1) (p:=λt:Ah=>t.1 !=x.2) b;rw[<-c]at a;repeat' with_reducible first|apply AC<;>intro d|apply AL<;>intro d|apply AI<;>intro d|(apply BF;try dsimp only)|apply BP|apply BZ|apply AA|(refine AJ ?_ (AE ?_ ?_);rintro r ⟨hr,m⟩)|(refine AJ ?_ (Ac ?_);rintro r ⟨hr,k,i⟩)
 all_goals dsimp only[len]at*
 all_goals first|omega|(have e:=AW (x:=s.1+1);rw[e];refine⟨⟨by omega,by omega,f,?_⟩,by omega⟩;rw[oB b (by assumption)];grind)|(rw[c,CR (by omega)])|(simp;omega)
theorem Il{x:List Ah×Int}(h:x.1.length<=16777216):Ay (Gc x) λr=>r=vj x.1 x.2:=by
 unfold Gc vj
 repeat' first
   |with_reducible refine AI ?_ ?_<;>intro a
   |(with_reducible refine BF ?_;try dsimp only)
   |with_reducible refine BP ?_
   |with_reducible refine BZ ?_
   |with_reducible refine AA ?_
   |(with_reducible refine AJ ?_ (U5 ?_);intro r hr)
 all_goals ((try dsimp only[len]at*);(try first|omega|assumption|grind[AW]))
theorem MX{x:Ah}(h:x.2.2.2.2.1.length<=16777216):Ay (Ho x) λr=>r.1=x.1/\r.2.2.2.2=x.2.2.2.2:=by
 unfold Ho;repeat' with_reducible first|refine AC ?_ ?_<;>intro a|refine AQ ?_ ?_<;>intro a|refine AI ?_ ?_<;>intro a|(refine BF ?_;try dsimp only)|refine BP ?_|refine BZ ?_|refine AA ?_|(refine AJ ?_ (AE ?_ ?_);rintro r ⟨hr,b⟩)
 all_goals ((try dsimp only[len]at*);(try first|omega|assumption|grind[AW]))
def Km{x:List Ah×Int×Ah}(h:x.1.length<=16777216)(a:0<=x.2.1/\x.2.1<x.1.length):Ay (Hy x) λr=>r=x.1.set x.2.1.toNat x.2.2:=by unfold Hy;refine AB (Ac (by simpa using h)) λr hr=>?_;obtain⟨hr,b,_⟩:=hr;rw[CC]at hr;subst hr;refine AB (AE a.1 a.2) λ_ _=>?_;refine AB (AE a.1 a.2) λ_ _=>?_;exact AA rfl
theorem QI{x:List Ah×AD}{a:Ah}{s:Int×List Int}(h:0<=s.1/\s.1<=a.2.2.2.2.1.length/\a.2.2.2.2.1.length<=4096/\s.2.length<=s.1):Ay (Ad (NQ x a) s) λr=>r.length<=a.2.2.2.2.1.length:=by
 refine AM (λ(s:Int×List Int)=>0<=s.1/\s.1<=a.2.2.2.2.1.length/\a.2.2.2.2.1.length<=4096/\s.2.length<=s.1) (λ(s:Int×List Int)=>((a.2.2.2.2.1.length:Int)-s.1).toNat) h (λs d=>?_);unfold NQ;repeat' with_reducible first|refine AC ?_ ?_<;>intro b|refine AL ?_ ?_<;>intro b|refine AI ?_ ?_<;>intro b|(refine BF ?_;try dsimp only)|refine BP ?_|refine BZ ?_|refine AA ?_|(refine AJ ?_ (AE ?_ ?_);rintro r ⟨hr,f⟩)|(refine AJ ?_ (Ac ?_);rintro r ⟨hr,e,c⟩)
 all_goals ((try dsimp only[len]at*);(try first|omega|assumption|grind[AW]))
def dH(l:List Ah)(id:Int):Prop:= ∃(j:Nat) (t:Ah),l[j]? =some t/\t.1=id
theorem dH.set{l:List Ah}{i:Nat}{n:Ah}{id:Int}(h:i<l.length)(hn:n.1=id):dH (l.set i n) id:=⟨i,n,by rw[HF h],hn⟩
def tq(l:List Ah)(kind tx:Int)(m:List Ah):Prop:=m.length<=l.length/\(tx=0->m=l)/\(tx≠0->kind≠1->(kind≠4->TP m<TP l)/\TP m<=TP l)/\(tx≠0->kind=4->dH m tx)
def bP{x:List Ah×AD}:Ay (GI x) λr=>r.2=0->tq x.1 x.2.2.1 x.2.2.2.1 r.1:=by
 unfold GI;repeat' with_reducible first|apply AC<;>intro a|apply AO<;>intro a|apply AQ<;>intro a|apply AL<;>intro a|apply AI<;>intro a|(apply BF;try dsimp only)|apply BP|apply BZ|apply ME|(apply BG;try dsimp only)|(apply BE;try dsimp only)|(apply A3<;>(intro u c;try subst c))|apply AA|(apply AB (Dg);intro r hr)|(apply AB (B8);intro r hr)|(refine AJ ?_ (Hn ?_);intro r hr)|(refine AJ ?_ (QI ?_);intro r hr)|(refine AJ ?_ (Il ?_);intro r hr)|(refine AJ ?_ (MX ?_);intro r hr)|(refine AJ ?_ (Km ?_ ?_);intro r hr)|(refine AJ ?_ (AE ?_ ?_);rintro r ⟨hr,f⟩)|(refine AJ ?_ (Ac ?_);rintro r ⟨hr,e,b⟩)
 all_goals dsimp only[len]at*
 all_goals first|omega|(intro d;exact absurd d (by decide))|(unfold WT ya at*;(first|omega|grind[tq,AAw,z0,zz,iV,List.length_set,dH.set]))
theorem Qv{x:List Ah×Int}:Ay (Hm x) λr=>r.2=0->WT x.1/\0<=r.1/\r.1<x.1.length:=by
 unfold Hm;repeat' with_reducible first|refine AC ?_ ?_<;>intro a|refine AO ?_ ?_<;>intro a|refine AL ?_ ?_<;>intro a|refine AI ?_ ?_<;>intro a|refine AA ?_|(refine AB (Dg) ?_;intro r hr)|(refine AJ ?_ (Hn ?_);intro r hr)|(refine AJ ?_ (AE ?_ ?_);rintro r ⟨hr,b⟩)
 all_goals ((try dsimp only[len]at*);(try first|omega|assumption|grind[AW,WT]))
def bQ{x:List Ah×Int}:Ay (Lk x) λr=>r.2=0->r.1.length<=64:=by
 unfold Lk;repeat' with_reducible first|apply AQ<;>intro a|apply AL<;>intro a|apply AI<;>intro a|apply AA|(apply AB (Qv);intro r hr)|(refine AJ ?_ (Km ?_ ?_);intro r hr)|(refine AJ ?_ (AE ?_ ?_);rintro r ⟨hr,e⟩)|(refine AJ ?_ (Ac ?_);rintro r ⟨hr,d,b⟩)
 all_goals try dsimp only[len]at*
 all_goals first|omega|(intro c;exact absurd c (by assumption))|grind[WT,ya,List.length_set]
def bO{x:List Ah×Int×Int}:Ay (Lj x) λr=>r.2=0->r.1.length<=64:=by
 unfold Lj;repeat' with_reducible first|apply AC<;>intro a|apply AL<;>intro a|apply AI<;>intro a|apply AA|(apply AB (Qv);intro r hr)|(refine AJ ?_ (MX ?_);intro r hr)|(refine AJ ?_ (Km ?_ ?_);intro r hr)|(refine AJ ?_ (AE ?_ ?_);rintro r ⟨hr,e⟩)|(refine AJ ?_ (Ac ?_);rintro r ⟨hr,b,c⟩)|(refine AJ ?_ (Bo ?_ ?_ ?_);rintro r ⟨hr,b⟩)
 all_goals try dsimp only[len]at*
 all_goals first|omega|(intro d;exact absurd d (by assumption))|grind[WT,ya,List.length_set,AW]
def c7{x:BY×Int×DZ}(h:x.1.length<=16777216)(a:0<=x.2.1/\x.2.1<x.1.length):Ay (Mp x) λr=>r=x.1.set x.2.1.toNat x.2.2:=by unfold Mp;refine AB (Ac (by simpa using h)) λr hr=>?_;obtain⟨hr,b,_⟩:=hr;rw[CC]at hr;subst hr;refine AB (AE a.1 a.2) λ_ _=>?_;refine AB (AE a.1 a.2) λ_ _=>?_;exact AA rfl
def Sg{x:BY×AD}:Ay (HK x) λr=>r.2=0->r.1.length=x.1.length/\(x.2.2.1≠7->r.1=x.1)/\(x.2.2.1=7->0<=x.2.2.2.2.2.2.2.1.1/\ ∃w,x.1[x.2.2.2.2.2.2.2.1.1.toNat]? =some w/\r.1=x.1.set x.2.2.2.2.2.2.2.1.1.toNat ((if x.2.2.2.2.2.2.1>w.1 then x.2.2.2.2.2.2.1 else w.1),w.2)):=by
 unfold HK;refine AB F3 λv d=>?_;refine AO (λa=>AA (λb=>absurd b (by decide))) (λa=>?_);refine AB B8 λm l=>?_;refine AO (λa=>AA (λb=>absurd b (by decide))) (λg=>?_);refine AL (λa=>AA λ_=>⟨rfl,λ_=>rfl,λe=>absurd e a⟩) (λf=>?_);have d:OQ x.2:=by grind
 have k:ff x.1:=by grind
 have c:0<=x.2.2.2.2.2.2.2.1.1:=by unfold OQ Vb Tr Ox at d;grind
 refine AC (λa=>AA (λb=>absurd b (by decide))) (λh=>?_);simp only[len]at h;refine AB (AE c) λw j=>?_;refine AB (c7 (by have:=k.2;dsimp only;omega) ⟨c,by dsimp only;omega⟩) λu i=>AA λ_=>?_;subst i;exact⟨by simp,λe=>absurd f e,λ_=>⟨c,w,j.1,rfl⟩⟩
def Ju{x:AP×Int}(h:SB x.1):Ay (GJ x) λr=>Be x.1=some true->KP x.1.1 x.1.2.2.1.2.1 x.1.2.2.2.1.2.1 x.1.2.2.2.2.2.2.2 x.1.2.2.2.2.2.2.1->0<=x.2->x.2<x.1.1->r=Gl x.1.2.2.1.2.1 x.2:=by unfold GJ;refine EO (Bz h) λv u y=>?_;refine AO (λa=>AA λe=>?_) (λa=>?_);rw[u,a]at e;cases e;refine AC (λa=>AA λ_ _ q=>absurd q (by omega)) (λq=>?_);refine AC (λa=>AA λ_ _ _ s=>absurd s (by omega)) (λs=>?_);have d:=y a;refine AB IN λg t=>?_;refine AI (λa=>AA λ_ c j k=>?_) (λm=>?_);obtain⟨_,_,_,e,f,o,b⟩:=t.1 a;have:=(c x.2 j k).1 f o (by rw[b];exact e);rw[b]at this;exact this;refine AB (JH h) λl p=>?_;refine AI (λa=>AA λ_ c j k=>(c x.2 j k).2.1 _ (p.1 a).1 (p.1 a).2) (λn=>?_);refine AB (AE (by omega) (by have:=d.2.2.2.2.2.2.2;omega)) λr hr=>AA λ_ c j k=>?_;exact((c x.2 j k).2.2 r hr.1).2 (p.2 n) λf o e=>by obtain⟨i,w⟩:=FF o;exact absurd ⟨i,f,w,e⟩ (t.2 m d.2.2.2.1)
def LX(a b:Ag):Prop:=b.1=a.1/\ ∃t,b.2.1=a.2.1++t
def LX.refl(a:Ag):LX a a:=⟨rfl,[],by simp⟩
def LX.trans{a b c:Ag}(h:LX a b)(g:LX b c):LX a c:=by obtain⟨f,t,i⟩:=h;obtain⟨d,u,e⟩:=g;exact⟨d.trans f,t++u,by rw[e,i,Ax]⟩
def LX.get{a b:Ag}(h:LX a b){i:Nat}{e:AD}(c:a.2.1[i]? =some e):b.2.1[i]? =some e:=by obtain⟨f,t,d⟩:=h;rw[d,CE];exact c;rcases Aq i a.2.1.length with h|h;exact h;rw[Cs h]at c;cases c
def ACr(k:AP)(z:AD)(m:AP):Prop:=
 ∃e,m.2.2.1.2.1=k.2.2.1.2.1++[e]/\e.1=k.2.2.1.1+k.2.2.1.2.1.length/\e.2.1=z.2.1/\e.2.2.2.2.2=z.2.2.2.2.2/\
  (KI k->(e.2.1=1\/e.2.1=2)->0<=e.2.2.2.2.2.2.1.1->e.2.2.2.2.2.2.1.1<k.1->e.2.2.2.2.1=Gl k.2.2.1.2.1 e.2.2.2.2.2.2.1.1)/\
  (z.2.1≠7->m.2.2.2.2.2.2.1=k.2.2.2.2.2.2.1)/\
  (z.2.1=7->0<=z.2.2.2.2.2.2.1.1/\ ∃w,k.2.2.2.2.2.2.1[z.2.2.2.2.2.2.1.1.toNat]? =some w/\m.2.2.2.2.2.2.1=k.2.2.2.2.2.2.1.set z.2.2.2.2.2.2.1.1.toNat ((if z.2.2.2.2.2.1>w.1 then z.2.2.2.2.2.1 else w.1),w.2))
def sE(k:AP)(z:AD)(m:AP):Prop:=
 m.1=k.1/\LX k.2.2.1 m.2.2.1/\D2 m.2.2.1/\m.2.2.2.1=k.2.2.2.1/\m.2.2.2.2.1=k.2.2.2.2.1/\tq k.2.2.2.2.2.1 z.2.1 z.2.2.1 m.2.2.2.2.2.1/\m.2.2.2.2.2.2.2=k.2.2.2.2.2.2.2/\SB m/\ACr k z m
theorem Fk{x:AP×AD}(h:SB x.1):Ay (EG x) λr=>r.2.2=0->VK x.1/\sE x.1 x.2 r.1/\r.2.1=x.1.2.2.1.1+x.1.2.2.1.2.1.length:=by
 unfold EG;refine EO (Bz h) λv q F=>?_;refine AO (λa=>AA (λc=>absurd c (by decide))) (λa=>?_);have n:=F a;rw[a]at q;refine AB (P:=λs=>(∃u,s= .inl u/\u.2.1≠0)\/ ∃u,s= .inr u/\u.1.2.1=x.2.2.1/\u.1.2.2.1=x.2.2.2.1/\u.1.2.2.2.2.2=x.2.2.2.2.2.2) ?_ λs E=>?_
 ·repeat' with_reducible first|refine AC ?_ ?_<;>intro a|refine AO ?_ ?_<;>intro a|refine AL ?_ ?_<;>intro a|refine AI ?_ ?_<;>intro a|(refine BF ?_;try dsimp only)|refine BP ?_|refine BZ ?_|refine ME ?_|(refine BG ?_;try dsimp only)|(refine BE ?_;try dsimp only)|(refine A3 ?_ ?_<;>(intro u b;try subst b))|refine AA ?_|(refine AJ ?_ (FM ?_);intro r hr)|(refine AJ ?_ (AE ?_ ?_);rintro r ⟨hr,O⟩)
  all_goals ((try dsimp only[len]at*);(try first|omega|assumption|grind[AW,SB]))
 rcases E with⟨u,rfl,b⟩|⟨u,rfl,b⟩;exact BG (AA λc=>absurd c b);refine BE ?_;refine AB (B6) λQ A=>?_;refine AB (P:=λv:AD=>v.2.1=x.2.2.1/\v.2.2.1=x.2.2.2.1/\v.2.2.2.2.2=x.2.2.2.2.2.2/\(KI x.1->(v.2.1=1\/v.2.1=2)->0<=v.2.2.2.2.2.2.1.1->v.2.2.2.2.2.2.1.1<x.1.1->v.2.2.2.2.1=Gl x.1.2.2.1.2.1 v.2.2.2.2.2.2.1.1)) ?_ λt d=>?_;refine AI (λa=>?_) (λa=>AA ⟨b.1,b.2.1,b.2.2,λ_ n=>absurd (A.2 n) (by simp[a])⟩);exact AB (Ju h) λw G=>AA ⟨b.1,b.2.1,b.2.2,λo _ H I=>G q o.2.1 H I⟩;refine AB (X6) λi B=>?_;refine AL (λa=>AA (λc=>absurd c a)) (λa=>?_);obtain⟨a1,a2,a3,a4,a5⟩:=B a;dsimp only at a2 a3 a4 a5;refine AB (Gx) λp e=>?_;refine AB (bP) λJ l=>?_;refine AL (λa=>AA (λc=>absurd c a)) (λf=>?_);refine AB (Sg) λK m=>?_;refine AL (λa=>AA (λc=>absurd c a)) (λg=>?_);refine AA λ_=>⟨n,?_⟩
 have M:=a2.1;have N:i.1.2.1.length=x.1.2.2.1.2.1.length+1:=by rw[a3];simp
 have C:=e.2 a1 (by dsimp only;omega) (by dsimp only;omega);obtain⟨L,y,k,z⟩:=e.1 C;dsimp only at y k z;have D:p.1=(i.2.1,t.2):=by
  have:(i.2.1-i.1.1).toNat=x.1.2.2.1.2.1.length:=by omega
  rw[this,a3]at k;simpa using k.symm
 have hn:=l f;have j:=(m g).2;rw[D]at hn j;dsimp only at hn j;rw[d.1,d.2.1]at hn;rw[d.1,d.2.2.1]at j;exact⟨⟨rfl,⟨a4,_,a3⟩,a1,rfl,rfl,hn,rfl,⟨h.1,by have:=hn.1;have:=h.2.1;dsimp only at*;omega,h.2.2⟩,(i.2.1,t.2),a3,a5,d.1,d.2.2.1,d.2.2.2,j⟩,a5⟩
def sE.ki{k m:AP}{z:AD}(h:sE k z m)(b:KI k)(a:z.2.1≠1/\z.2.1≠2/\z.2.1≠6/\z.2.1≠7):KI m:=by obtain⟨a1,_,_,a4,_,_,a7,_,e,c,g,d,i,j,f,l⟩:=h;unfold KI;rw[a1,a4,a7,c,f a.2.2.2];rw[<-d]at a;exact⟨b.1.app ⟨λh=>by omega,λh=>by omega,λh=>by omega⟩,b.2.1.app ⟨a.1,a.2.1⟩,b.2.2⟩
def sE.sk{k m:AP}{z:AD}(h:sE k z m)(a:SK k)(b:z.2.1≠1/\z.2.1≠2/\z.2.1≠6/\z.2.1≠7):SK m:=h.2.2.2.2.2.2.2.1.sk (h.ki a.ki b)
def DI(d:Bu):Prop:=d.1.length<=64/\(∀(i:Nat) (s:Bd),d.1[i]? =some s->s.length=256)/\d.2.2.1=[]/\d.2.2.2.2=[]
def Ux{x:Int}{s:Int×List Bd}(h:0<=s.1/\s.1<=x/\x<=64/\s.2.length=s.1/\ ∀(i:Nat) (t:Bd),s.2[i]? =some t->t.length=256):Ay (Ad (K8 x) s) λr=>(r.length:Int)=x/\ ∀(i:Nat) (t:Bd),r[i]? =some t->t.length=256:=by
 refine AM (λ(s:Int×List Bd)=>0<=s.1/\s.1<=x/\x<=64/\s.2.length=s.1/\ ∀(i:Nat) (t:Bd),s.2[i]? =some t->t.length=256) (λ(s:Int×List Bd)=>(x-s.1).toNat) h (λs c=>?_);unfold K8;have⟨f,g,a,j,b⟩:=c;have k:(G2 (List.replicate (Int.toNat 256) 0)).length=256:=by rw[LR,List.length_replicate];rfl
 repeat' with_reducible first|apply AC<;>intro d|apply AI<;>intro d|apply AA|(refine AJ ?_ (Ac ?_);rintro r ⟨hr,l,e⟩)
 all_goals first|omega|(generalize G2 (List.replicate (Int.toNat 256) 0)=bs at*;simp;omega)|(generalize G2 (List.replicate (Int.toNat 256) 0)=bs at*;rw[(AW (x:=s.1+1))];refine⟨⟨by omega,by omega,a,by grind,?_⟩,by omega⟩;grind)|(exact⟨by omega,b⟩)
def Qn{x:Int}(h:0<=x/\x<=64):Ay (Jn x) λr=>(r.length:Int)=x/\ ∀(i:Nat) (t:Bd),r[i]? =some t->t.length=256:=by
 unfold Jn;repeat' with_reducible first|apply AA|(refine AJ ?_ (Ux ?_);intro r hr)
 all_goals ((try dsimp[len]at*);(try first|omega|assumption|grind[AW]))
def cr{x:Int}:Ay (Ht x) λr=>r.2=0->DI r.1/\r.1.1.length=x:=by
 unfold Ht;repeat' with_reducible first|apply AC<;>intro a|apply AI<;>intro a|apply AA|(refine AJ ?_ (Qn ?_);intro r hr)
 all_goals ((try dsimp[len]at*);(try first|omega|assumption|grind[DI]))
def Zc{x:Bu×Co}:Ay (Ke x) λr=>True:=by
 unfold Ke;repeat' with_reducible first|apply AC<;>intro a|apply AQ<;>intro a|apply AI<;>intro a|(apply BF;try dsimp only)|apply BP|apply BZ|apply ME|(apply BG;try dsimp only)|(apply BE;try dsimp only)|(apply A3<;>(intro u b;try subst b))|apply AA
 all_goals trivial
def Vs{x:Bu}{s:Int}(h:0<=s/\s<=x.1.length/\(x.1.length:Int)<=16777216):Ay (Ad (MH x) s) λr=>r≠ .inl true:=by
 refine AM (λ(s:Int)=>0<=s/\s<=x.1.length/\(x.1.length:Int)<=16777216) (λ(s:Int)=>((x.1.length:Int)-s).toNat) h (λs b=>?_);unfold MH;repeat' with_reducible first|apply AC<;>intro a|apply AL<;>intro a|apply AI<;>intro a|apply AA|(refine AJ ?_ (AE ?_ ?_);rintro r ⟨hr,c⟩)
 all_goals ((try dsimp[len]at*);(try first|omega|assumption|grind[AW]))
def Vt{x:Bu}{s:Int}(h:0<=s/\s<=x.2.2.1.length/\(x.2.2.1.length:Int)<=16777216):Ay (Ad (MI x) s) λr=>r≠ .inl true:=by
 refine AM (λ(s:Int)=>0<=s/\s<=x.2.2.1.length/\(x.2.2.1.length:Int)<=16777216) (λ(s:Int)=>((x.2.2.1.length:Int)-s).toNat) h (λs b=>?_);unfold MI;repeat' with_reducible first|apply AC<;>intro a|apply AI<;>intro a|apply AA|(refine AJ ?_ (AE ?_ ?_);rintro r ⟨hr,c⟩)
 all_goals ((try dsimp[len]at*);(try first|omega|assumption|grind[AW]|((try simp (disch:=omega) only[AW,len]at*)<;>(try intros)<;>(try and_intros)<;>(try intros)<;>(first|omega|assumption|grind))))
def Vu{x:Bu}{s:Int}(h:0<=s/\s<=x.2.2.2.2.length/\(x.2.2.2.2.length:Int)<=16777216):Ay (Ad (MJ x) s) λr=>r≠ .inl true:=by
 refine AM (λ(s:Int)=>0<=s/\s<=x.2.2.2.2.length/\(x.2.2.2.2.length:Int)<=16777216) (λ(s:Int)=>((x.2.2.2.2.length:Int)-s).toNat) h (λs b=>?_);unfold MJ;repeat' with_reducible first|apply AC<;>intro a|apply AO<;>intro a|apply AI<;>intro a|apply AA|(apply AB (Zc);intro r hr)|(refine AJ ?_ (AE ?_ ?_);rintro r ⟨hr,c⟩)
 all_goals ((try dsimp[len]at*);(try first|omega|assumption|grind[AW]))
def Za{x:Bu}(h:x.2.2.1.length<=16777216):Ay (Kc x) λr=>r=true->1<=x.1.length/\x.1.length<=64:=by
 unfold Kc;repeat' with_reducible first|apply AC<;>intro a|apply AI<;>intro a|(apply BG;try dsimp only)|(apply BE;try dsimp only)|(apply A3<;>(intro u b;try subst b))|apply AA|(refine AJ ?_ (Vs ?_);intro r hr)|(refine AJ ?_ (Vt ?_);intro r hr)|(refine AJ ?_ (Vu ?_);intro r hr)
 all_goals ((try dsimp[len]at*);(try first|omega|assumption|grind[AW]))
def MN{x:Bu×Int}(h:x.1.2.2.1.length<=16777216):Ay (GY x) λr=>r=0->0<=x.2/\x.2<x.1.1.length/\x.1.1.length<=64:=by
 unfold GY;repeat' with_reducible first|apply AC<;>intro a|apply AO<;>intro a|apply AI<;>intro a|apply AA|(refine AJ ?_ (Za ?_);intro r hr)
 all_goals ((try dsimp[len]at*);(try first|omega|assumption|grind[AW]))
def UV{x:List Int×Int}{s:Int×List Int}(h:0<=s.1/\s.1<=x.1.length/\x.1.length<=16777216/\s.2.length<=s.1):Ay (Ad (KC x) s) λr=>r.length<=x.1.length:=by
 refine AM (λ(s:Int×List Int)=>0<=s.1/\s.1<=x.1.length/\x.1.length<=16777216/\s.2.length<=s.1) (λ(s:Int×List Int)=>((x.1.length:Int)-s.1).toNat) h (λs c=>?_);unfold KC;repeat' with_reducible first|apply AC<;>intro a|apply AL<;>intro a|apply AI<;>intro a|(apply BF;try dsimp only)|apply BP|apply BZ|apply AA|(refine AJ ?_ (AE ?_ ?_);rintro r ⟨hr,e⟩)|(refine AJ ?_ (Ac ?_);rintro r ⟨hr,d,b⟩)
 all_goals ((try dsimp[len]at*);(try first|omega|assumption|grind[AW]))
def QE{x:List Int×Int}(h:x.1.length<=16777216):Ay (Ex x) λr=>r.length<=x.1.length:=by
 unfold Ex;repeat' with_reducible first|apply AA|(refine AJ ?_ (UV ?_);intro r hr)
 all_goals ((try dsimp[len]at*);(try first|omega|assumption|grind[AW]))
def X2{x:List Int×Int}{s:Int}(h:0<=s/\s<=x.1.length/\(x.1.length:Int)<=16777216):Ay (Ad (OA x) s) λr=>True:=by
 refine AM (λ(s:Int)=>0<=s/\s<=x.1.length/\(x.1.length:Int)<=16777216) (λ(s:Int)=>((x.1.length:Int)-s).toNat) h (λs b=>?_);unfold OA;repeat' with_reducible first|apply AC<;>intro a|apply AQ<;>intro a|apply AI<;>intro a|apply AA|(refine AJ ?_ (AE ?_ ?_);rintro r ⟨hr,c⟩)
 all_goals ((try dsimp[len]at*);(try first|omega|assumption|grind[AW]))
def cu{x:List Int×Int}(h:x.1.length<=16777216):Ay (Mm x) λr=>True:=by
 unfold Mm;repeat' with_reducible first|(apply BG;try dsimp only)|(apply BE;try dsimp only)|(apply A3<;>(intro u a;try subst a))|apply AA|(refine AJ ?_ (X2 ?_);intro r hr)
 all_goals ((try dsimp[len]at*);(try first|omega|assumption|grind[AW]))
def bF{x:Bu×Int}(h:DI x.1):Ay (Lb x) λr=>r.2=0->r.1.length=256:=by
 unfold Lb;repeat' with_reducible first|apply AL<;>intro a|apply AI<;>intro a|apply AA|(refine AJ ?_ (MN ?_);intro r hr)|(refine AJ ?_ (cu ?_);intro r hr)|(refine AJ ?_ (AE ?_ ?_);rintro r ⟨hr,b⟩)
 all_goals ((try dsimp[len]at*);(try first|omega|assumption|grind[DI]))
def DI.set{d:Bu}{l:List Bd}{i:Int}{t:Bd}{u:List Int}{w:Int}{b:Bool}(h:DI d)(c:l=d.1)(n:t.length=256)(e:u.length<=([]:List Int).length):DI (BO l i t,w,u,b,[]):=by subst c;have⟨a,f,g,k⟩:=h;refine⟨by simpa[BO]using a,λj s m=>?_,List.length_eq_zero_iff.1 (by simpa using e),rfl⟩;grind[BO]
def pM{d:Bu}{l:List Bd}{i:Int}{t:Bd}{u v:List Int}{f:List Co}{w:Int}{b:Bool}(h:DI d)(c:l=[]++d.1)(e:t.length=256)(g:u.length<=v.length)(j:v=[]++[])(a:f=[]++[]):DI (BO l i t,w,u,b,f):=by subst a j;exact h.set (by simpa using c) e (by simpa using g)
def bH{x:Bu×Int×Bd×Int}(h:DI x.1):Ay (Lc x) λr=>r.2=0->DI r.1:=by
 have⟨f,g,b,c⟩:=h;unfold Lc;rw[b,c];repeat' with_reducible first|apply AC<;>intro d|apply AL<;>intro d|apply AI<;>intro d|apply AA|(refine AJ ?_ (MN ?_);intro r hr)|(refine AJ ?_ (QE ?_);intro r hr)|(refine AJ ?_ (AE ?_ ?_);rintro r ⟨hr,j⟩)|(refine AJ ?_ (Ac ?_);rintro r ⟨hr,e,i⟩)|(refine AJ ?_ (Ca ?_);rintro r ⟨hr,e⟩)|(refine AJ ?_ (Ds ?_ ?_ ?_);rintro r ⟨hr,e⟩)
 all_goals first|omega|(intro a;exact absurd a (by assumption))|(intro a;exact absurd a (by decide))|(simp;done)|(simp;omega)|(exact λ_=>pM ⟨f,g,b,c⟩ (by assumption) (by grind) hr (by assumption) (by assumption))|grind
def Zb{x:Bu×Int×Bd}(h:DI x.1):Ay (Om x) λr=>r.2=0->DI r.1/\r.1.1.length=x.1.1.length:=by
 have⟨A,B,g,i⟩:=h;refine AB (MN (by dsimp only;rw[g];simp)) λC p=>?_;refine AL (λb=>AA (λc=>absurd c b)) (λb=>?_);refine AL (λb=>AA (λc=>absurd c (by decide))) (λf=>?_);refine AQ (λb=>AA (λc=>absurd c (by decide))) (λo=>?_);refine AB (Ac (by simp;omega)) λw q=>?_;refine AB (Ac (by rw[g];simp)) λy t=>?_;refine AB (Ac (by rw[i];simp)) λz u=>?_;have k:w=x.1.1:=by grind
 have l:y=[]:=by grind
 have m:z=[]:=by grind
 subst k l m;have l1: ∀s,s.1=0->Ad (MK x) s=some s.2:=λs d=>by rw[Cc];unfold MK;rw[i,d];rfl
 rw[l1 _ rfl];apply BF;have l2: ∀a s,a.1=[]->s.2.1=0->Ad (ML x a) s=some (s.1,(s.2.2.2.2.2.2.1,(s.2.2.2.2.2.1,s.2.2.2.2.2.2.2))):=λa s e d=>by rw[Cc];unfold ML;rw[e,d];rfl
 have v: ∀a s,a.1=[]->s.1=0->Ad (MM a) s=some (s.2.2.2.2.2.1,(s.2.2.2.2.1,s.2.2.2.2.2.2)):=λa s e d=>by rw[Cc];unfold MM;rw[e,d];rfl
 rw[l2 _ _ rfl rfl];repeat' with_reducible first|apply AC<;>intro b|apply AO<;>intro b|apply AQ<;>intro b|apply AL<;>intro b|apply AI<;>intro b|(apply BF;try dsimp only)|apply BP|apply BZ|apply AA|(rw[v _ _ rfl rfl];apply BF;dsimp only)|(refine AJ ?_ (QE ?_);intro r hr)|(refine AJ ?_ (AE ?_ ?_);rintro r ⟨hr,o⟩)|(refine AJ ?_ (Ac ?_);rintro r ⟨hr,j,n⟩)|(refine AJ ?_ (Ca ?_);rintro r ⟨hr,j⟩)|(refine AJ ?_ (Ds ?_ ?_ ?_);rintro r ⟨hr,j⟩)
 all_goals first|omega|(simp;done)|(intro c;exact absurd c (by decide))|(exact λ_=>⟨h.set rfl (by grind) hr,by simp[BO]⟩)|(cases b;done)|grind
def DC(p:Ba):Nat:=p.2.1.countP λf=>f.2.1
def UC(p:Ba):Nat:=p.2.1.countP λf=>f.2.2.2
def sX{a:Type}{l:List a}{i:Nat}{o n:a}{q:a->Bool}(h:l[i]? =some o):(l.set i n).countP q+(if q o=true then 1 else 0)=l.countP q+(if q n=true then 1 else 0):=by grind
theorem Kk{x:Ba×Int×A0}(h:x.1.2.1.length<=16777216)(a:0<=x.2.1/\x.2.1<x.1.2.1.length):Ay (Hw x) λr=>r=(x.1.1,x.1.2.1.set x.2.1.toNat x.2.2,x.1.2.2):=by refine AB (Ac (by simpa using h)) λr hr=>?_;have⟨hr,b,_⟩:=hr;subst hr;refine AB (AE a.1 a.2) λ_ _=>?_;refine AB (AE a.1 a.2) λ_ _=>?_;exact AA rfl
def gz(f:A0):A9×Bool×Int:=(f.1,f.2.1,f.2.2.1)
def CF(l:List A0):List (A9×Bool×Int):=l.map gz
def AAo{l:List A0}{i:Nat}{f g:A0}(h:l[i]? =some f)(a:gz g=gz f):CF (l.set i g)=CF l:=by unfold CF;apply Mw;grind
def lS{l m:List A0}(h:CF m=CF l){i:Nat}{f:A0}(a:m[i]? =some f): ∃g,l[i]? =some g/\gz g=gz f:=by
 have:(CF m)[i]? =some (gz f):=by unfold CF;rw[List.getElem?_map,a];rfl
 rw[h]at this;unfold CF at this;grind
def AAn{l m:List A0}(h:CF m=CF l):m.length=l.length:=by have:=congrArg List.length h;simpa[CF]using this
def tk{p:Ba}:DC p=(CF p.2.1).countP λc=>c.2.1:=by unfold DC CF;rw[List.countP_map];rfl
theorem Jf.congr{l m:List A0}{n:Int}(h:CF m=CF l)(d:Jf l n):Jf m n:=by refine⟨λi f r b=>?_,λi j f g c s b q=>?_⟩;have⟨g,a,o⟩:=lS h b;have:=d.1 i g r a;grind[gz,ii];have⟨e,a,o⟩:=lS h b;have⟨k,p,t⟩:=lS h q;have:=d.2 i j e k c s a p;grind[gz]
def OR.uniq{p:Ba}(h:OR p){i j:Nat}{f g:A0}(a:p.2.1[i]? =some f)(b:p.2.1[j]? =some g)(e:f.1.1=g.1.1):f=g:=by have c:=h.2.2.2.2.2.2;grind
def U0{c:List (A9×Bool×Int)}{z:Int}{s:Ba}(h:c=CF s.2.1/\z=s.1/\0<=s.2.2/\s.2.2<s.2.1.length/\s.2.1.length<=64):Ay (Ad QH s) λr=>c=CF r.2.1/\z=r.1/\0<=r.2.2/\r.2.2<r.2.1.length/\r.2.1.length<=64:=by
 refine AM (λs=>c=CF s.2.1/\z=s.1/\0<=s.2.2/\s.2.2<s.2.1.length/\s.2.1.length<=64) UC h (λs n=>?_);have⟨k,l,i,j,m⟩:=n;refine AB (AE i j) λf q=>?_;refine AI (λo=>?_) (λo=>AA ⟨k,l,i,j,m⟩);refine AB (AE i j) λd t=>?_;have e:d=f:=by grind
 subst e;refine AB (Kk (by dsimp only;omega) ⟨i,j⟩) λp u=>?_;subst u;refine AQ (λv=>?_) (λv=>AA ?_);grind;rw[(AW (x:=s.2.2+1))];refine⟨⟨?_,l,(VL (len (s.2.1.set s.2.2.toNat (d.1,d.2.1,d.2.2.1,false))) (a:=s.2.2+1) (by omega)),(VJ (s.2.2+1) (b:=len (s.2.1.set s.2.2.toNat (d.1,d.2.1,d.2.2.1,false))) (by simp;omega)),by rw[Z9];exact m⟩,?_⟩;rw[k];exact(AAo (g:=(d.1,d.2.1,d.2.2.1,false)) q.1 rfl).symm;unfold UC;grind
def YC{x:Ba}:Ay (OG x) λr=>(r.2.2=0->OR x/\OR r.1/\CF r.1.2.1=CF x.2.1/\gY r.1 r.2.1)/\(OR x->x.2.1.length≠0->r.2.2=0):=by refine AB EC λv g=>?_;refine AO (λc=>AA ⟨λa=>absurd a (by decide),λh _=>?_⟩) (λc=>?_);grind;have b:=g.1 c;have e:=b;have⟨k,l,m,i,n,o⟩:=b;refine AQ (λa=>AA ⟨λa=>absurd a (by decide),λ_ h=>absurd a (by simpa[len]using h)⟩) (λa=>?_);simp only[len]at a;refine AB (U0 ⟨rfl,rfl,i,by omega⟩) λp b=>?_;have⟨q1,q2,q3,q4,q5⟩:=b;refine AB (AE q3 q4) λf d=>?_;have j:=AAn q1;refine AA ⟨λ_=>⟨e,⟨by dsimp only;omega,by dsimp only;omega,by dsimp only;omega,q3,.inr q4,?_⟩,q1.symm,⟨_,f,d.1,rfl⟩⟩,λ_ _=>rfl⟩;grind[Jf.congr]
def bM{x:Ba×Int}:Ay (Li x) λr=>OR x.1-> ∀(i:Nat) (f:A0),x.1.2.1[i]? =some f->f.1.1=x.2->f.2.1=false->(∀g∈r.1.2.1,g∈x.1.2.1)/\ ∀g∈x.1.2.1,g.2.1=true->g∈r.1.2.1:=by
 unfold Li;refine AB EC λv A=>?_;refine AO (λn=>AA λo=>absurd (A.2 o) (by simp[n])) (λn=>?_);have o:=A.1 n;have T:=o.2.1;have U:=o.2.2.1;refine AB (Gb (by omega)) λi G=>?_;have⟨R,J,K,L⟩:=G;refine AC (λn=>AA λ_ j f p e _=>absurd ⟨j,f,p,e⟩ (L n)) (λH=>?_);have⟨k,I,t⟩:=K (by omega);refine AB (AE (by omega) J) λw Q=>?_;have B:w=k:=by grind[Option.some.inj]
 subst B;refine AI (λu=>AA λ_ j f p e l=>?_) (λu=>?_);have:=o.uniq p I (by rw[e,t]);subst this;rw[u]at l;cases l;have O:=AW (x:=i+1);refine AB (Bo) λa C=>?_;refine AB (Bo (by omega) (by simp[len];omega) (by simp only[len];omega)) λb D=>?_;have S:=C.2;have M:=D.2;simp[len]at M;refine AB (Ac (by rw[BQ];omega)) λc s=>?_;have N:=s.2.1;rw[BQ]at N;refine AB (Ac (by omega)) λd E=>?_;have q: ∀(j:Nat) (f:A0),x.1.2.1[j]? =some f->f.1.1=x.2->f.2.1=false->(∀g∈d,g∈x.1.2.1)/\ ∀g∈x.1.2.1,g.2.1=true->g∈d:=by intro j f p e l;refine⟨λg y=>?_,λg y F=>?_⟩;grind[List.mem_of_mem_take,List.mem_of_mem_drop];have⟨m,z⟩:=FF y;rw[(by grind[List.take_of_length_le,List.length_drop]:d=x.1.2.1.take i.toNat++x.1.2.1.drop (i.toNat+1)),Ap];rcases PI m i.toNat with h|h|h;exact .inl (BK (i:=m) (by rw[jC h];exact z));grind[Option.some.inj];exact .inr (BK (i:=m-(i.toNat+1)) (by rw[Mx];rw[show i.toNat+1+(m-(i.toNat+1))=m by omega];exact z))
 refine AB (P:=λ_=>True) (AC (λ_=>AA trivial) (λ_=>AA trivial)) λV _=>?_;refine AB (P:=λ_=>True) (AC (λ_=>AA trivial) (λ_=>AA trivial)) λW _=>AA λ_=>q
theorem Zh{x:Ba×Int×Int}:Ay (Oo x) λr=>r.2=0->OR x.1/\DC r.1<=DC x.1/\(∀(i:Nat) (f:A0),x.1.2.1[i]? =some f->f.1.1=x.2.1->f.2.1=true->f.1.2.1=x.2.2->DC r.1<DC x.1)/\(∀g∈r.1.2.1,∃f∈x.1.2.1,f.1.1=g.1.1/\f.1.2.1=g.1.2.1)/\ ∀f∈x.1.2.1,f.1.1≠x.2.1->f∈r.1.2.1:=by
 refine AB EC λv C=>?_;refine AO (λb=>AA (λo=>absurd o (by decide))) (λb=>?_);have l:=C.1 b;have J:=l.2.2.1;have I:=l.2.1;refine AB (Gb (by dsimp only;omega)) λi B=>?_;have⟨G,D,E,H⟩:=B;refine AC (λb=>AA (λo=>absurd o (by decide))) (λb=>?_);have⟨f,c,d⟩:=E (by omega);refine AB (AE (by omega) D) λg z=>?_;have e:g=f:=by grind
 subst e;refine AC (λb=>AA (λo=>absurd o (by decide))) (λA=>?_);refine AO (λs=>AA (λ_=>⟨l,Ak _,λj k m a h _=>?_,λg z=>⟨g,z,rfl,rfl⟩,λf c _=>c⟩)) (λs=>?_);have:=l.uniq m c (by rw[a,d]);subst this;rw[s]at h;cases h;refine AB (P:=λn:A0=>(g.1.2.1=x.2.2->n.2.1=false)/\n.1=g.1) ?_ λn hn=>?_
 ·repeat' with_reducible first|refine AC ?_ ?_<;>intro b|refine AO ?_ ?_<;>intro b|refine AQ ?_ ?_<;>intro b|refine AI ?_ ?_<;>intro b|(refine BF ?_;try dsimp only)|refine BP ?_|refine BZ ?_|refine AA ?_|(refine AJ ?_ (AE ?_ ?_);rintro r ⟨hr,F⟩)
  all_goals grind
 refine AB (Kk (by dsimp only;omega) ⟨by dsimp only;omega,by dsimp only;omega⟩) λp y=>?_;subst y;refine AA λ_=>?_;have u:=sX (q:=λf:A0=>f.2.1) (n:=n) c;rw[s]at u;refine⟨l,?_,λj k m a h t=>?_,un c hn.2,λk m w=>pw c k m (by rw[d];exact w)⟩;unfold DC;dsimp only;simp at u;split at u<;>omega;have:=l.uniq m c (by rw[a,d]);subst this;rw[hn.1 t]at u;unfold DC;dsimp only;simp at u;omega
def Uw{x:A9}{s:Bd×Int}(h:0<=s.2/\s.2<=16/\j8 x/\(s.1.length:Int)=12+13*s.2):Ay (Ad (K7 x) s) λr=>r.length=220:=by
 refine AM (λ(s:Bd×Int)=>0<=s.2/\s.2<=16/\j8 x/\(s.1.length:Int)=12+13*s.2) (λ(s:Bd×Int)=>(16-s.2).toNat) h (λs c=>?_);unfold K7;obtain⟨g,j,b,k⟩:=c;have a: ∀i,(x.2.2 i).2.length<=12:=λi=>((b.2.2.2.2 i).1).1;repeat' with_reducible first|apply AC<;>intro d|apply AI<;>intro d|(apply BF;try dsimp only)|apply BP|apply BZ|apply AA|(refine AJ ?_ (Cj ?_);intro r hr)|(refine AJ ?_ (NC ?_);intro r hr)|(refine AJ ?_ (Dj ?_ ?_);intro r hr)|(refine AJ ?_ (Ca ?_);rintro r ⟨hr,l⟩)
 all_goals try dsimp only[len]at*
 all_goals try (have e:=AW (x:=s.2+1))
 all_goals first|omega|(subst_vars;(try (have q1:=a ⟨s.2.toNat,by omega⟩));(try (have f:=AW (x:=12-((x.2.2 ⟨s.2.toNat,by omega⟩).2.length:Int))));first|omega|grind)|grind
def MF{x:A9}:Ay (GX x) λr=>r.2=0->r.1.length=256:=by
 unfold GX;repeat' with_reducible first|apply AL<;>intro a|apply AI<;>intro a|apply AA|(apply AB (HH);intro r hr)|(refine AJ ?_ (Cj ?_);intro r hr)|(refine AJ ?_ (Uw ?_);intro r hr)|(refine AJ ?_ (NC ?_);intro r hr)|(refine AJ ?_ (KZ ?_);intro r hr)|(refine AJ ?_ (Ca ?_);rintro r ⟨hr,c⟩)
 all_goals try dsimp only[len]at*
 all_goals try (have e:=AW (x:=244-((220:Nat):Int)))
 all_goals first|omega|(intro b;exact absurd b (by assumption))|grind[AW]
theorem ZY{x:Unit}:Ay (Ka x) λr=>r.length=256:=by
 unfold Ka;repeat' with_reducible first|refine AA ?_|(refine AJ ?_ (NC ?_);intro r hr)
 all_goals ((try dsimp only[len]at*);(try first|omega|assumption|grind[AW]))
def Uv{x:Bd}{s:Int×A9×A9}(h:0<=s.1/\s.1<=16/\x.length=256):Ay (Ad (K6 x) s) λr=>True:=by
 refine AM (λ(s:Int×A9×A9)=>0<=s.1/\s.1<=16/\x.length=256) (λ(s:Int×A9×A9)=>(16-s.1).toNat) h (λs e=>?_);unfold K6;obtain⟨g,i,j⟩:=e;have b:=AW (x:=s.1*13);have c:=AW (x:=12+s.1*13);have d:=AW (x:=12+s.1*13+1);rw[b,c,d];repeat' with_reducible first|apply AC<;>intro a|apply AQ<;>intro a|apply AI<;>intro a|apply AA|(refine AJ ?_ (Dj ?_ ?_);intro r hr)|(refine AJ ?_ (Ds ?_ ?_ ?_);rintro r ⟨hr,f⟩)|(refine AJ ?_ (Pu ?_ ?_);rintro r ⟨hr,f⟩)
 all_goals try dsimp only[len]at*
 all_goals first|omega|grind[AW]
def X1{x:Bd}(h:x.length<=1099511627776):Ay (Jl x) λr=>True:=by
 unfold Jl;repeat' with_reducible first|apply AQ<;>intro a|apply AL<;>intro a|apply AI<;>intro a|(apply BG;try dsimp only)|(apply BE;try dsimp only)|(apply A3<;>(intro u b;try subst b))|apply AA|(apply AB (ZY);intro r hr)|(refine AJ ?_ (Cb ?_);intro r hr)|(refine AJ ?_ (KZ ?_);intro r hr)|(refine AJ ?_ (Uv ?_);intro r hr)|(apply AB (MF);intro r hr)|(refine AJ ?_ (Ds ?_ ?_ ?_);rintro r ⟨hr,c⟩)
 all_goals try dsimp only[len]at*
 all_goals first|trivial|omega|grind
def cq{x:Int}:Ay (Ml x) λr=>r.1=x:=by
 unfold Ml;repeat' with_reducible first|apply AA
 all_goals trivial
def Vq{x:Bd×Int}(h:x.1.length<=1099511627776):Ay (Ih x) λr=>r.2=0->r.1.1=x.2:=by
 unfold Ih;repeat' with_reducible first|apply AC<;>intro a|apply AQ<;>intro a|apply AL<;>intro a|apply AI<;>intro a|apply AA|(refine AJ ?_ (X1 ?_);intro r hr)|(apply AB (cq);intro r hr)
 all_goals first|assumption|(intro b;exact absurd b (by assumption))|(intro b;exact absurd b (by decide))|(intro _;assumption)|grind
def Zj{x:BY×Int×Int×Bd}(h:x.2.2.2.length<=1099511627776):Ay (Kl x) λr=>r.2=0->r.1.1=x.2.1:=by
 unfold Kl;repeat' with_reducible first|apply AC<;>intro a|apply AO<;>intro a|apply AL<;>intro a|apply AI<;>intro a|apply AA|(apply AB (F3);intro r hr)|(refine AJ ?_ (Vq ?_);intro r hr)|(refine AJ ?_ (AE ?_ ?_);rintro r ⟨hr,c⟩)
 all_goals try dsimp only[len]at*
 all_goals first|assumption|omega|(intro b;exact absurd b (by assumption))|(intro b;exact absurd b (by decide))|(intro _;assumption)|grind
def Rq{x:A9×D7}:Ay (IJ x) λr=>r.2=0->r.1.1=x.1.1:=by
 unfold IJ;repeat' with_reducible first|apply AO<;>intro a|apply AQ<;>intro a|apply AL<;>intro a|apply AI<;>intro a|apply AA|(apply AB (Rr);intro r hr)|(refine AJ ?_ (Dj ?_ ?_);intro r hr)
 all_goals first|(intro b;exact absurd b (by decide))|(intro _;rfl)|omega|grind[Tr]
def Zs{x:A9×AD}:Ay (Kt x) λr=>r.2=0->r.1.1=x.1.1:=by
 unfold Kt;repeat' with_reducible first|apply AO<;>intro b|apply AL<;>intro b|apply AI<;>intro b|apply AA|(apply AB (B8);intro r hr)|(apply AB (B6);intro r hr)|(apply AB (HH);intro r hr)|(apply AB (Rq);intro r hr)
 all_goals first|(intro a;exact absurd a (by assumption))|(intro a;exact absurd a (by decide))|(intro _;exact hr (by assumption))|grind
def Ze{x:AD×List AD}(h:x.2.length<=16777215):Ay (Kg x) λr=>r.length=x.2.length+1:=by
 unfold Kg;repeat' with_reducible first|apply AA|(refine AJ ?_ (Ac ?_);rintro r ⟨hr,b,a⟩)
 all_goals first|(simp at*;omega)|(simp at*;done)
end Go.Pm
