/- What these functions answer, part 7. Texts of the folder wip, laid in few files with shorter names by a program (wip/tools/pack.py); nothing is assumed. -/
import Derived.Test.YtimajmppopkomaaGreatK6
noncomputable section
set_option linter.unusedVariables false
set_option linter.unusedSimpArgs false
set_option linter.unusedSectionVars false
set_option linter.defProp false
set_option linter.unnecessarySimpa false
set_option linter.deprecated false
namespace Go.Pm
open Go Go.Ab
set_option maxHeartbeats 400000
def IA(x:Cv):Prop:=x.2.length<=12/\(x.1=true\/x.2=[])
def Nu(x:De):Prop:=0<=x.1/\x.1<64/\0<=x.2.1/\x.2.1<16/\IA x.2.2.1/\IA x.2.2.2
def Jq{x:Cv}:A3 (DB x) λr=>r=true↔IA x:=by
 unfold DB IA
 repeat' first
   |with_reducible apply AC<;>intro a
   |with_reducible apply AU<;>intro a
   |with_reducible apply AI<;>intro a
   |(with_reducible apply Az;try dsimp only)
   |with_reducible apply BS
   |with_reducible apply Bd
   |with_reducible apply AA
 all_goals grind
def R1{x:De}:A3 (IG x) λr=>r=true↔Nu x:=by
 unfold IG Nu
 repeat' first
   |with_reducible apply AC<;>intro a
   |with_reducible apply AI<;>intro a
   |(with_reducible apply Az;try dsimp only)
   |with_reducible apply BS
   |with_reducible apply Bd
   |with_reducible apply AA
   |(with_reducible apply AB (Jq);intro r hr)
 all_goals grind
def O0:De:=(0,0,(false,[]),(false,[]))
def TI(x:AD):Prop:=
 (x.2.1=1/\x.2.2.2.2.2.1=0/\x.2.2.2.2.2.2.2=[]/\1<=x.2.2.1/\x.2.2.1<=1073741824/\Nu x.2.2.2.2.2.2.1)\/
 (x.2.1=2/\0<x.2.2.2.1/\1<=x.2.2.2.2.2.1/\x.2.2.2.2.2.1<=x.2.2.2.1/\x.2.2.2.2.2.2.2=[]/\1<=x.2.2.1/\x.2.2.1<=1073741824/\Nu x.2.2.2.2.2.2.1)\/
 ((x.2.1=3\/x.2.1=4\/x.2.1=5)/\0<x.2.2.2.1/\x.2.2.2.2.1=0/\x.2.2.2.2.2.1=0/\x.2.2.2.2.2.2.1=O0/\x.2.2.2.2.2.2.2=[]/\1<=x.2.2.1/\x.2.2.1<=1073741824)\/
 ((x.2.1=6\/x.2.1=8)/\x.2.2.1=0/\x.2.2.2.1=0/\x.2.2.2.2.1=0/\x.2.2.2.2.2.1=0/\x.2.2.2.2.2.2.1=O0/\x.2.2.2.2.2.2.2.length<=8192)\/
 (x.2.1=7/\x.2.2.1=0/\x.2.2.2.1=0/\x.2.2.2.2.1=0/\0<=x.2.2.2.2.2.2.1.1/\x.2.2.2.2.2.2.1.1<64/\x.2.2.2.2.2.2.1.2=O0.2/\x.2.2.2.2.2.2.2=[])
def K8(x:AD):Prop:=1<=x.1/\x.1<=1099511627776/\0<=x.2.2.2.1/\x.2.2.2.1<x.1/\0<=x.2.2.2.2.1/\x.2.2.2.2.1<x.1/\0<=x.2.2.2.2.2.1/\x.2.2.2.2.2.1<x.1/\TI x
def YN{x:Int×Int}:A3 (GM x) λr=>r=true↔0<=x.1/\x.1<x.2:=by
 unfold GM;repeat' with_reducible first|apply AC<;>intro a|apply AI<;>intro a|apply AA
 all_goals grind
def Zk{x:AD}:A3 (Kl x) λr=>(r.2=true/\r.1=x)↔TI x:=by
 obtain⟨a,b,c,d,e,f,⟨g,h,⟨i,j⟩,k,l⟩,m⟩:=x;unfold Kl TI O0;dsimp only
 repeat' first
   |with_reducible apply AC<;>intro n
   |with_reducible apply AU<;>intro n
   |with_reducible apply AI<;>intro n
   |(with_reducible apply Az;try dsimp only)
   |with_reducible apply BS
   |with_reducible apply Bd
   |with_reducible apply AA
   |(with_reducible apply AB (R1);intro r hr)
 all_goals grind
def B7{x:AD}:A3 (Cd x) λr=>r=true↔K8 x:=by
 unfold Cd;refine AB Zk λn A=>?_;have e:((n.1.1==x.1)&&((n.1.2.1==x.2.1)&&((n.1.2.2.1==x.2.2.1)&&((n.1.2.2.2.1==x.2.2.2.1)&&((n.1.2.2.2.2.1==x.2.2.2.2.1)&&((n.1.2.2.2.2.2.1==x.2.2.2.2.2.1)&&((n.1.2.2.2.2.2.2.1.1==x.2.2.2.2.2.2.1.1)&&((n.1.2.2.2.2.2.2.1.2.1==x.2.2.2.2.2.2.1.2.1)&&((n.1.2.2.2.2.2.2.1.2.2.1.1==x.2.2.2.2.2.2.1.2.2.1.1)&&((n.1.2.2.2.2.2.2.1.2.2.1.2==x.2.2.2.2.2.2.1.2.2.1.2)&&((n.1.2.2.2.2.2.2.1.2.2.2.1==x.2.2.2.2.2.2.1.2.2.2.1)&&((n.1.2.2.2.2.2.2.1.2.2.2.2==x.2.2.2.2.2.2.1.2.2.2.2)&&((n.1.2.2.2.2.2.2.2==x.2.2.2.2.2.2.2)&&true)))))))))))))=true↔n.1=x:=by obtain⟨⟨a,b,c,d,e,f,⟨g,h,⟨i,j⟩,k,l⟩,m⟩,z⟩:=n;obtain⟨p,q,s,t,u,v,⟨w,y,⟨B,C⟩,D,E⟩,F⟩:=x;simp[and_assoc]
 generalize ((n.1.1==x.1)&&_)=bb at e⊢;unfold K8
 repeat' first
   |with_reducible apply AC<;>intro o
   |with_reducible apply AU<;>intro o
   |with_reducible apply AI<;>intro o
   |(with_reducible apply Az;try dsimp only)
   |with_reducible apply BS
   |with_reducible apply Bd
   |with_reducible apply AA
   |(with_reducible apply AB (YN);intro r hr)
 all_goals grind
def EX{x:Aj}:A3 (CR x) λr=>r=wi (wi (x.1+len x.2.1)-1):=by
 unfold CR;repeat' with_reducible first|apply AA
 all_goals grind
def Du(x:Aj):Prop:=1<=x.1/\x.1<=1099511627776/\x.2.1.length<=4096/\x.1-1<=x.2.2/\x.2.2<=x.1+x.2.1.length-1/\ ∀(i:Nat) (e:AD),x.2.1[i]? =some e->e.1=x.1+i/\K8 e
def V8{x:Aj}{s:Int}(h:0<=s/\s<=x.2.1.length/\x.2.1.length<=4096/\1<=x.1/\x.1<=1099511627776/\ ∀(i:Nat) (e:AD),i<s->x.2.1[i]? =some e->e.1=x.1+i/\K8 e):A3 (Ad (MU x) s) λr=>(r= .inl false/\ ¬Du x)\/(r= .inr ()/\ ∀(i:Nat) (e:AD),x.2.1[i]? =some e->e.1=x.1+i/\K8 e):=by
 refine AQ (λ(s:Int)=>0<=s/\s<=x.2.1.length/\x.2.1.length<=4096/\1<=x.1/\x.1<=1099511627776/\ ∀(i:Nat) (e:AD),i<s->x.2.1[i]? =some e->e.1=x.1+i/\K8 e) (λ(s:Int)=>((x.2.1.length:Int)-s).toNat) h (λs b=>?_);unfold MU;obtain⟨c,d,f,g,j,k⟩:=b;repeat' with_reducible first|apply AC<;>intro a|apply AO<;>intro a|apply AL<;>intro a|apply AI<;>intro a|apply AA|(apply AB (B7);intro r hr)|(refine AJ ?_ (AK ?_ ?_);rintro r ⟨hr,l⟩)
 all_goals try (first|omega|grind[AY,Du])
def Bo{x:Aj}:A3 (CK x) λr=>r=true↔Du x:=by
 unfold CK;repeat' with_reducible first|apply AC<;>intro a|apply AI<;>intro a|(apply BH;try dsimp only)|(apply A9;try dsimp only)|(apply BA<;>(intro u b;try subst b))|apply AA|(apply AB (EX);intro r hr)|(refine AJ ?_ (V8 ?_);intro r hr)
 all_goals try (first|omega|grind[AY,Du])
def Hq(x:AZ):Prop:=0<=x.1/\x.1<64/\0<=x.2.1/\x.2.1<=1099511627776/\ ∀i,IA (x.2.2 i)/\(x.2.1=0->(x.2.2 i).1=false)
def LC{x:AZ}:A3 (G8 x) λr=>r=true↔0<=x.1/\x.1<64/\0<=x.2.1/\x.2.1<=1099511627776:=by
 unfold G8;repeat' with_reducible first|apply AC<;>intro a|apply AI<;>intro a|apply AA
 all_goals grind
def V4{x:AZ}{s:Int}(h:0<=s/\s<=16/\ ∀i:Fin 16,(i.val:Int)<s->IA (x.2.2 i)/\(x.2.1=0->(x.2.2 i).1=false)):A3 (Ad (ML x) s) λr=>(r= .inl false/\ ¬ ∀i,IA (x.2.2 i)/\(x.2.1=0->(x.2.2 i).1=false))\/(r= .inr ()/\ ∀i,IA (x.2.2 i)/\(x.2.1=0->(x.2.2 i).1=false)):=by
 refine AQ (λ(s:Int)=>0<=s/\s<=16/\ ∀i:Fin 16,(i.val:Int)<s->IA (x.2.2 i)/\(x.2.1=0->(x.2.2 i).1=false)) (λ(s:Int)=>(16-s).toNat) h (λs b=>?_);unfold ML;repeat' with_reducible first|apply AC<;>intro a|apply AO<;>intro a|apply AU<;>intro a|apply AI<;>intro a|apply AA|(apply AB (Jq);intro r hr)|(refine AJ ?_ (DY ?_ ?_);intro r hr)
 all_goals ((try dsimp[len]at*);(try first|omega|assumption|grind[AY]))
def NG{x:AZ}:A3 (IE x) λr=>r=true↔ ∀i,IA (x.2.2 i)/\(x.2.1=0->(x.2.2 i).1=false):=by
 unfold IE;repeat' with_reducible first|(apply BH;try dsimp only)|(apply A9;try dsimp only)|(apply BA<;>(intro u a;try subst a))|apply AA|(refine AJ ?_ (V4 ?_);intro r hr)
 all_goals first|omega|grind
def Zg{x:AZ}:A3 (Ki x) λr=>r=true↔Hq x:=by
 unfold Ki Hq
 repeat' first
   |with_reducible apply AI<;>intro a
   |with_reducible apply AA
   |(with_reducible apply AB (LC);intro r hr)
   |(with_reducible apply AB (NG);intro r hr)
 all_goals grind
def NF{x:AZ}:A3 (Dl x) λr=>r=0->Hq x:=by
 unfold Dl Hq
 repeat' first
   |with_reducible apply AO<;>intro a
   |with_reducible apply AA
   |(with_reducible apply AB (LC);intro r hr)
   |(with_reducible apply AB (NG);intro r hr)
 all_goals grind
def jn(f:A2):Prop:=Hq f.1/\(f.2.1=true->1<=f.2.2.1/\f.2.2.1<=f.1.2.1)/\(f.2.1=false->f.2.2.1=0)
def Jj(l:List A2)(n:Int):Prop:=(∀(i:Nat) (f:A2),i<n->l[i]? =some f->jn f)/\ ∀(i j:Nat) (f g:A2),i<j->j<n->l[i]? =some f->l[j]? =some g->f.1.1≠g.1.1
def OO(x:Ba):Prop:=1<=x.1/\x.1<=64/\x.2.1.length<=x.1/\0<=x.2.2/\(x.2.1.length=0/\x.2.2=0\/x.2.2<x.2.1.length)/\Jj x.2.1 x.2.1.length
theorem Jj.step{l:List A2}{n:Int}{f:A2}(e:0<=n)(h:Jj l n)(o:l[n.toNat]? =some f)(r:jn f)(m: ∀(j:Nat) (g:A2),j<n->l[j]? =some g->g.1.1≠f.1.1):Jj l (n+1):=by
 refine⟨λi g p b=>?_,λi j g k c q b d=>?_⟩;rcases ec i n with a|a;exact h.1 i g a b;grind;rcases ec j n with a|a;exact h.2 i j g k c a b d;have:j=n.toNat:=by omega
 grind
theorem kS{l:List A2}{n:Int}{f:A2}(c:0<=n)(d:n<l.length)(a:l[n.toNat]? =some f)(b: ¬jn f): ¬Jj l l.length:=λh=>b (h.1 n.toNat f (by omega) a)
theorem kT{l:List A2}{n:Int}{f:A2}(e:0<=n)(i:n<l.length)(d:l[n.toNat]? =some f)(c: ∃(j:Nat) (g:A2),j<n/\l[j]? =some g/\g.1.1=f.1.1): ¬Jj l l.length:=λh=>by have⟨j,g,k,a,b⟩:=c;exact h.2 j n.toNat g f (by omega) (by omega) a d b
def HZ{x:Ba}{a:Int}{b:A2}{s:Int}(h:0<=s/\s<=a/\a<=x.2.1.length/\(x.2.1.length:Int)<=16777216/\ ∀(j:Nat) (g:A2),j<s->x.2.1[j]? =some g->g.1.1≠b.1.1):A3 (Ad (Ff x a b) s) λr=>(r= .inl false/\ ∃(j:Nat) (g:A2),j<a/\x.2.1[j]? =some g/\g.1.1=b.1.1)\/(r= .inr ()/\ ∀(j:Nat) (g:A2),j<a->x.2.1[j]? =some g->g.1.1≠b.1.1):=by
 refine AQ (λ(s:Int)=>0<=s/\s<=a/\a<=x.2.1.length/\(x.2.1.length:Int)<=16777216/\ ∀(j:Nat) (g:A2),j<s->x.2.1[j]? =some g->g.1.1≠b.1.1) (λ(s:Int)=>(a-s).toNat) h (λs d=>?_);unfold Ff;repeat' with_reducible first|apply AC<;>intro c|apply AU<;>intro c|apply AI<;>intro c|apply AA|(refine AJ ?_ (AK ?_ ?_);rintro r ⟨hr,e⟩)
 all_goals ((try dsimp[len]at*);(try first|omega|assumption|grind[AY]))
def WD{x:Ba}{s:Int}(h:0<=s/\s<=x.2.1.length/\(x.2.1.length:Int)<=16777216/\Jj x.2.1 s):A3 (Ad (MZ x) s) λr=>(r= .inl false/\ ¬Jj x.2.1 x.2.1.length)\/(r= .inr ()/\Jj x.2.1 x.2.1.length):=by
 refine AQ (λ(s:Int)=>0<=s/\s<=x.2.1.length/\(x.2.1.length:Int)<=16777216/\Jj x.2.1 s) (λ(s:Int)=>((x.2.1.length:Int)-s).toNat) h (λs d=>?_);unfold MZ;repeat' with_reducible first|apply AC<;>intro a|apply AO<;>intro a|apply AL<;>intro a|apply AI<;>intro a|(apply BH;try dsimp only)|(apply A9;try dsimp only)|(apply BA<;>(intro u c;try subst c))|apply AA|(apply AB (Zg);intro r hr)|(refine AJ ?_ (HZ ?_);intro r hr)|(refine AJ ?_ (HZ ?_);intro r hr)|(refine AJ ?_ (HZ ?_);intro r hr)|(refine AJ ?_ (HZ ?_);intro r hr)|(refine AJ ?_ (AK ?_ ?_);rintro r ⟨hr,f⟩)
 all_goals try (have e:=AY (x:=s+1))
 all_goals first|omega|(exact⟨by omega,by omega,by omega,by omega,λj g b=>absurd b (by omega)⟩)|grind[Jj.step,kS,kT,jn]
def Jj.zero(l:List A2):Jj l 0:=⟨λi f h=>absurd h (by omega),λi j f g h a=>absurd a (by omega)⟩
def ADn(n h:Int)(a:0<=n)(b:n<=64):(h>if wi (n-1)>0 then wi (n-1)else 0)↔ ¬(n=0/\h<=0\/h<n):=by grind[AY]
def EJ{x:Ba}:A3 (DE x) λr=>r=true↔OO x:=by
 unfold DE OO
 repeat' first
   |with_reducible apply AC<;>intro b
   |(with_reducible apply BA<;>(intro u a;try subst a))
   |with_reducible apply AA
   |(with_reducible refine AJ ?_ (WD ?_);intro r hr)
 all_goals try dsimp[len]at*
 all_goals first
  |(exact⟨by omega,by omega,by omega,Jj.zero _⟩)
  |(have c:=ADn (x.2.1.length) x.2.2 (by omega) (by omega);grind)
  |grind
def NN{x:An}:A3 (Gl x) λr=>True:=by
 unfold Gl;repeat' with_reducible first|apply AC<;>intro a|apply AU<;>intro a|apply AI<;>intro a|apply AA
 all_goals ((try dsimp[len]at*);(try first|omega|assumption|grind[AY]))
def Ss{x:An×An}:A3 (FI x) λr=>True:=by
 unfold FI;repeat' with_reducible first|apply AC<;>intro a|apply AL<;>intro a|apply AI<;>intro a|apply AA
 all_goals ((try dsimp[len]at*);(try first|omega|assumption|grind[AY]))
def F5{x:An×An}:A3 (D3 x) λr=>True:=by
 unfold D3;repeat' with_reducible first|apply AU<;>intro a|apply AL<;>intro a|apply AI<;>intro a|apply AA
 all_goals ((try dsimp[len]at*);(try first|omega|assumption|grind[AY]))
def Wz{x:Ax×Int×Cf}{s:Int}(h:0<=s/\s<=x.1.1.length/\(x.1.1.length:Int)<=16777216):A3 (Ad (NQ x) s) λr=>True:=by
 refine AQ (λ(s:Int)=>0<=s/\s<=x.1.1.length/\(x.1.1.length:Int)<=16777216) (λ(s:Int)=>((x.1.1.length:Int)-s).toNat) h (λs b=>?_);unfold NQ;repeat' with_reducible first|apply AC<;>intro a|apply AU<;>intro a|apply AI<;>intro a|apply AA|(refine AJ ?_ (AK ?_ ?_);rintro r ⟨hr,c⟩)
 all_goals ((try dsimp[len]at*);(try first|omega|assumption|grind[AY]))
def HY{x:Ax×Int×Cf}(h:x.1.1.length<=16777216):A3 (D4 x) λr=>True:=by
 unfold D4;repeat' with_reducible first|(apply BH;try dsimp only)|(apply A9;try dsimp only)|(apply BA<;>(intro u a;try subst a))|apply AA|(refine AJ ?_ (Wz ?_);intro r hr)
 all_goals ((try dsimp[len]at*);(try first|omega|assumption|grind[AY]))
def Fy(x:Ax):Prop:=x.1.length<=16777216/\x.2.length<=16777216
def PV{x:Ax}{a:Int}{s:Int}(h:s<a/\ -1<=s/\0<=a/\a<x.1.length/\x.1.length<=16777216):A3 (Ad (Il x a) s) λr=>r≠ .inl true:=by
 refine AQ (λ(s:Int)=>s<a/\ -1<=s/\0<=a/\a<x.1.length/\x.1.length<=16777216) (λ(s:Int)=>(s+1).toNat) h (λs c=>?_);unfold Il;repeat' with_reducible first|apply AC<;>intro b|apply AU<;>intro b|apply AI<;>intro b|apply AA|(apply AB (F5);intro r hr)|(refine AJ ?_ (AK ?_ ?_);rintro r ⟨hr,d⟩)
 all_goals ((try dsimp[len]at*);(try first|omega|assumption|grind[AY]))
def V9{x:Ax}{s:Int}(h:0<=s/\s<=x.1.length/\(x.1.length:Int)<=16777216):A3 (Ad (MV x) s) λr=>r≠ .inl true:=by
 refine AQ (λ(s:Int)=>0<=s/\s<=x.1.length/\(x.1.length:Int)<=16777216) (λ(s:Int)=>((x.1.length:Int)-s).toNat) h (λs c=>?_);unfold MV;repeat' with_reducible first|apply AC<;>intro a|apply AO<;>intro a|apply AI<;>intro a|(apply BH;try dsimp only)|(apply A9;try dsimp only)|(apply BA<;>(intro u b;try subst b))|apply AA|(apply AB (NN);intro r hr)|(apply AB (Ss);intro r hr)|(refine AJ ?_ (PV ?_);intro r hr)|(refine AJ ?_ (PV ?_);intro r hr)|(refine AJ ?_ (AK ?_ ?_);rintro r ⟨hr,d⟩)
 all_goals ((try dsimp[len]at*);(try first|omega|assumption|grind[AY]|((try simp (disch:=omega) only[AY,len]at*)<;>(try intros)<;>(try and_intros)<;>(try intros)<;>(first|omega|assumption|grind))))
def WB{x:Ax}{a:Int}{b:An}{s:Int}(h:0<=s/\s<=a/\(a:Int)<=16777216/\a<=x.2.length):A3 (Ad (MX x a b) s) λr=>r≠ .inl true:=by
 refine AQ (λ(s:Int)=>0<=s/\s<=a/\(a:Int)<=16777216/\a<=x.2.length) (λ(s:Int)=>((a:Int)-s).toNat) h (λs d=>?_);unfold MX;repeat' with_reducible first|apply AC<;>intro c|apply AU<;>intro c|apply AI<;>intro c|apply AA|(refine AJ ?_ (AK ?_ ?_);rintro r ⟨hr,e⟩)
 all_goals ((try dsimp[len]at*);(try first|omega|assumption|grind[AY]))
def WA{x:Ax}{s:Int}(h:0<=s/\s<=x.2.length/\(x.2.length:Int)<=16777216/\x.1.length<=16777216):A3 (Ad (MW x) s) λr=>r≠ .inl true:=by
 refine AQ (λ(s:Int)=>0<=s/\s<=x.2.length/\(x.2.length:Int)<=16777216/\x.1.length<=16777216) (λ(s:Int)=>((x.2.length:Int)-s).toNat) h (λs c=>?_);unfold MW;repeat' with_reducible first|apply AC<;>intro a|apply AO<;>intro a|apply AI<;>intro a|(apply BH;try dsimp only)|(apply A9;try dsimp only)|(apply BA<;>(intro u b;try subst b))|apply AA|(apply AB (NN);intro r hr)|(refine AJ ?_ (HY ?_);intro r hr)|(refine AJ ?_ (WB ?_);intro r hr)|(refine AJ ?_ (AK ?_ ?_);rintro r ⟨hr,d⟩)
 all_goals ((try dsimp[len]at*);(try first|omega|assumption|grind[AY]))
def Xk(x:Ax):Prop:=x.1.length+x.2.length<=1024
def E7{x:Ax}(h:Fy x):A3 (Dm x) λr=>r=true->Xk x:=by
 unfold Dm Xk;unfold Fy at h
 repeat' first
   |with_reducible apply AC<;>intro b
   |(with_reducible apply BA<;>(intro u a;try subst a))
   |with_reducible apply AA
   |(with_reducible refine AJ ?_ (V9 ?_);intro r hr)
   |(with_reducible refine AJ ?_ (WA ?_);intro r hr)
 all_goals ((try dsimp[len]at*);(try first|omega|assumption|grind[AY]))
def VTx(x:Ah):Prop:=x.2.2.2.2.1.length<=4096/\x.2.2.2.2.2.length<=8/\1<=x.1
def Wf(x:List Ah):Prop:=x.length<=64/\ ∀(i:Nat) (t:Ah),x[i]? =some t->VTx t
def PW{x:Ah}{s:Int}(h:0<=s/\s<=x.2.2.2.2.1.length/\(x.2.2.2.2.1.length:Int)<=16777216):A3 (Ad (Iq x) s) λr=>r≠ .inl true:=by
 refine AQ (λ(s:Int)=>0<=s/\s<=x.2.2.2.2.1.length/\(x.2.2.2.2.1.length:Int)<=16777216) (λ(s:Int)=>((x.2.2.2.2.1.length:Int)-s).toNat) h (λs b=>?_);unfold Iq;repeat' with_reducible first|apply AC<;>intro a|apply AI<;>intro a|apply AA|(refine AJ ?_ (AK ?_ ?_);rintro r ⟨hr,c⟩)
 all_goals ((try dsimp[len]at*);(try first|omega|assumption|grind[AY]|((try simp (disch:=omega) only[AY,len]at*)<;>(try intros)<;>(try and_intros)<;>(try intros)<;>(first|omega|assumption|grind))))
def PX{x:Ah}{s:Int}(h:0<=s/\s<=x.2.2.2.2.2.length/\(x.2.2.2.2.2.length:Int)<=16777216):A3 (Ad (Ir x) s) λr=>r≠ .inl true:=by
 refine AQ (λ(s:Int)=>0<=s/\s<=x.2.2.2.2.2.length/\(x.2.2.2.2.2.length:Int)<=16777216) (λ(s:Int)=>((x.2.2.2.2.2.length:Int)-s).toNat) h (λs b=>?_);unfold Ir;repeat' with_reducible first|apply AC<;>intro a|apply AI<;>intro a|apply AA|(refine AJ ?_ (AK ?_ ?_);rintro r ⟨hr,c⟩)
 all_goals ((try dsimp[len]at*);(try first|omega|assumption|grind[AY]|((try simp (disch:=omega) only[AY,len]at*)<;>(try intros)<;>(try and_intros)<;>(try intros)<;>(first|omega|assumption|grind))))
def Zr{x:Ah}:A3 (Kt x) λr=>r=true->VTx x:=by
 unfold Kt VTx
 repeat' first
   |with_reducible apply AC<;>intro a
   |with_reducible apply AL<;>intro a
   |(with_reducible apply BA<;>(intro u b;try subst b))
   |with_reducible apply AA
   |(with_reducible refine AJ ?_ (PW ?_);intro r hr)
   |(with_reducible refine AJ ?_ (PX ?_);intro r hr)
   |(with_reducible refine AJ ?_ (PW ?_);intro r hr)
   |(with_reducible refine AJ ?_ (PX ?_);intro r hr)
 all_goals ((try dsimp[len]at*);(try first|omega|assumption|grind[AY]))
def WG{x:List Ah}{s:Int}(h:0<=s/\s<=x.length/\(x.length:Int)<=16777216/\ ∀(i:Nat) (t:Ah),i<s->x[i]? =some t->VTx t):A3 (Ad (Mb x) s) λr=>r= .inl false\/(r= .inr ()/\ ∀(i:Nat) (t:Ah),x[i]? =some t->VTx t):=by
 refine AQ (λ(s:Int)=>0<=s/\s<=x.length/\(x.length:Int)<=16777216/\ ∀(i:Nat) (t:Ah),i<s->x[i]? =some t->VTx t) (λ(s:Int)=>((x.length:Int)-s).toNat) h (λs b=>?_);unfold Mb;repeat' with_reducible first|apply AC<;>intro a|apply AO<;>intro a|apply AI<;>intro a|apply AA|(apply AB (Zr);intro r hr)|(refine AJ ?_ (AK ?_ ?_);rintro r ⟨hr,c⟩)
 all_goals ((try dsimp[len]at*);(try first|omega|assumption|grind[AY]|((try simp (disch:=omega) only[AY,len]at*)<;>(try intros)<;>(try and_intros)<;>(try intros)<;>(first|omega|assumption|grind))))
def Di{x:List Ah}:A3 (Do x) λr=>r=true->Wf x:=by
 unfold Do Wf
 repeat' first
   |with_reducible apply AC<;>intro b
   |(with_reducible apply BA<;>(intro u a;try subst a))
   |with_reducible apply AA
   |(with_reducible refine AJ ?_ (WG ?_);intro r hr)
 all_goals ((try dsimp[len]at*);(try first|omega|assumption|grind[AY]))
def gY(x:BY):Prop:=1<=x.length/\x.length<=64
def dE{x:Int}:A3 (Ga x) λr=>True:=by
 unfold Ga;repeat' with_reducible first|apply AC<;>intro a|apply AI<;>intro a|apply AA
 all_goals ((try dsimp[len]at*);(try first|omega|assumption|grind[AY]))
def WE{x:BY}{s:Int}(h:0<=s/\s<=x.length/\(x.length:Int)<=16777216):A3 (Ad (Io x) s) λr=>r≠ .inl true:=by
 refine AQ (λ(s:Int)=>0<=s/\s<=x.length/\(x.length:Int)<=16777216) (λ(s:Int)=>((x.length:Int)-s).toNat) h (λs b=>?_);unfold Io;repeat' with_reducible first|apply AC<;>intro a|apply AO<;>intro a|apply AU<;>intro a|apply AL<;>intro a|apply AI<;>intro a|apply AA|(apply AB (dE);intro r hr)|(refine AJ ?_ (AK ?_ ?_);rintro r ⟨hr,c⟩)
 all_goals ((try dsimp[len]at*);(try first|omega|assumption|grind[AY]))
def Fv{x:BY}:A3 (Dn x) λr=>r=true->gY x:=by
 unfold Dn gY
 repeat' first
   |with_reducible apply AC<;>intro b
   |(with_reducible apply BA<;>(intro u a;try subst a))
   |with_reducible apply AA
   |(with_reducible refine AJ ?_ (WE ?_);intro r hr)
 all_goals ((try dsimp[len]at*);(try first|omega|assumption|grind[AY]))
def TE{x:List Ac×Int}{s:Int}(h:0<=s/\s<=x.1.length/\(x.1.length:Int)<=16777216):A3 (Ad (Ge x) s) λr=>r≠ .inl true:=by
 refine AQ (λ(s:Int)=>0<=s/\s<=x.1.length/\(x.1.length:Int)<=16777216) (λ(s:Int)=>((x.1.length:Int)-s).toNat) h (λs b=>?_);unfold Ge;repeat' with_reducible first|apply AC<;>intro a|apply AI<;>intro a|apply AA|(refine AJ ?_ (AK ?_ ?_);rintro r ⟨hr,c⟩)
 all_goals ((try dsimp[len]at*);(try first|omega|assumption|grind[AY]|((try simp (disch:=omega) only[AY,len]at*)<;>(try intros)<;>(try and_intros)<;>(try intros)<;>(first|omega|assumption|grind))))
def Oa{x:List Ac×Int}(h:x.1.length<=16777216):A3 (E9 x) λr=>True:=by
 unfold E9;repeat' with_reducible first|(apply BH;try dsimp only)|(apply A9;try dsimp only)|(apply BA<;>(intro u a;try subst a))|apply AA|(refine AJ ?_ (TE ?_);intro r hr)
 all_goals ((try dsimp[len]at*);(try first|omega|assumption|grind[AY]))
theorem EB{b:Type}{l:List b}{i:Nat}{a:b}(h:l[i]? =some a):i<l.length:=by grind
def aF(p:Int)(e:AD):Bool:=((e.2.1==1)||(e.2.1==2))&&(e.2.2.2.2.2.2.1.1==p)
def Bu(L:List AD)(p:Int):Int:=L.foldl (λa e=>if aF p e then e.1 else a) 0
theorem OM(L:List AD)(e:AD)(p:Int):Bu (L++[e]) p=if aF p e then e.1 else Bu L p:=by simp[Bu,fF,fG,List.foldl_nil]
def upd(x:AZ)(e:AD):AZ:=(x.1,(e.1,U3 x.2.2 e.2.2.2.2.2.2.1.2.1 e.2.2.2.2.2.2.1.2.2.2))
def st(L:List AD)(p:Int):AZ:=(L.filter (aF p)).foldl upd (p,(0,JR.all (false,[])))
def wQ(L M:List AD)(p:Int):st (L++M) p=(M.filter (aF p)).foldl upd (st L p):=by unfold st;rw[IZ,fF]
theorem vM(L:List AD)(e:AD)(p:Int):st (L++[e]) p=if aF p e then upd (st L p) e else st L p:=by rw[wQ,Tn,fD];split<;>rfl
def w8(L:List AD)(x:AZ):(L.foldl upd x).1=x.1:=by
 induction L generalizing x with
 |nil=>rfl
 |cons e L a=>exact a (upd x e)
def eQ(L:List AD)(p:Int):(st L p).1=p:=w8 _ _
def QW(L:List AD)(p:Int):(st L p).2.1=Bu L p:=by
 suffices h: ∀(L:List AD) (x:AZ),((L.filter (aF p)).foldl upd x).2.1=L.foldl (λa e=>if aF p e then e.1 else a) x.2.1 from h L _
 intro L;induction L with
 |nil=>exact λx=>rfl
 |cons e L b=>intro x;rw[Tn,fG];split;exact b (upd x e);exact b x
def rY(n:Int)(L:List AD)(D:List Ac)(R:List DZ):Prop:=
 ∀p,0<=p->p<n->(∀d∈D,d.1=p->d.2.2=Bu L p)/\ ∀r,R[p.toNat]? =some r->r.1<=Bu L p/\((∀d∈D,d.1≠p)->r.1=Bu L p)
def KP(n:Int)(L:List AD)(F:List A2)(D:List Ac)(R:List DZ):Prop:=
 ∀p,0<=p->p<n->(∀f∈F,f.1.1=p->f.1=st L p)/\(∀d∈D,d.1=p->d.2.2=Bu L p)/\
  ∀r,R[p.toNat]? =some r->r.1<=Bu L p/\((∀d∈D,d.1≠p)->(∀f∈F,f.1.1=p->f.2.1=false)->r.1=Bu L p)
def EOK(n:Int)(M:List AD)(e:AD):Prop:=
 (e.2.1=1\/e.2.1=2->e.2.2.2.2.1=Bu M e.2.2.2.2.2.2.1.1/\GX (st M e.2.2.2.2.2.2.1.1).2.2 e.2.2.2.2.2.2.1.2.1=some e.2.2.2.2.2.2.1.2.2.1)/\(e.2.1=7->e.2.2.2.2.2.1=Bu M e.2.2.2.2.2.2.1.1)/\
  (e.2.1=6-> ∀c,C0 e.2.2.2.2.2.2.2=some (c,0)->c.1=n->rY n M c.2.2.2.1 c.2.2.2.2)
def LI(n:Int)(L:List AD):Prop:= ∀(i:Nat) (e:AD),L[i]? =some e->EOK n (L.take i) e
def LI.nil(n:Int):LI n []:=λi e h=>by simp at h
def LI.app{n:Int}{L:List AD}{e:AD}(h:LI n L)(c:EOK n L e):LI n (L++[e]):=by intro i f b;rcases PJ i L.length with a|a|a;rw[B6 a]at b;rw[aI (by omega)];exact h i f b;grind;grind[List.getElem?_eq_none]
def LI.pre{n:Int}{L T:List AD}(h:LI n (L++T)):LI n L:=by intro i f a;have:=h i f (by grind);grind
def FD(B:Int->Prop)(n:Int)(F:List A2)(D:List Ac):Prop:= ∀f∈F,0<=f.1.1/\f.1.1<n/\(∀d∈D,d.1≠f.1.1)/\B f.1.1
variable {B:Int->Prop}
def KI(B:Int->Prop)(k:AP):Prop:=LI k.1 k.2.2.1.2.1/\KP k.1 k.2.2.1.2.1 k.2.2.2.1.2.1 k.2.2.2.2.2.2.2 k.2.2.2.2.2.2.1/\FD B k.1 k.2.2.2.1.2.1 k.2.2.2.2.2.2.2
def FD.sub{n:Int}{F G:List A2}{D:List Ac}(h:FD B n F D)(a: ∀g∈G,∃f∈F,f.1.1=g.1.1/\f.1=g.1):FD B n G D:=by intro g c;have⟨f,b,e,_⟩:=a g c;rw[<-e];exact h f b
def jC{p b:Int}: ∀(L:List AD) (a:Int),a<b->(∀e∈L,e.1<b)->L.foldl (λa e=>if aF p e then e.1 else a) a<b
 |[],a,ha,_=>ha
 |e::L,a,ha,h=>by refine jC L _ ?_ λf c=>h f (CN _ c);show(if aF p e=true then e.1 else a)<b;split;exact h e JS;exact ha
def fV{l:Aj}(h:Du l)(p:Int):Bu l.2.1 p<l.1+l.2.1.length:=by have⟨a,_,_,_,_,b⟩:=h;refine jC _ _ (by omega) λe c=>?_;grind[List.getElem?_of_mem]
def KP.app{n:Int}{L:List AD}{F:List A2}{D:List Ac}{R:List DZ}{e:AD}(h:KP n L F D R)(c:e.2.1≠1/\e.2.1≠2):KP n (L++[e]) F D R:=by intro p a b;rw[(by grind[OM,aF]:Bu (L++[e]) p=Bu L p),(by grind[vM,aF]:st (L++[e]) p=st L p)];exact h p a b
def KP.frames{n:Int}{L:List AD}{F G:List A2}{D:List Ac}{R:List DZ}(h:KP n L F D R)
  (m: ∀g∈G,∃f∈F,f.1.1=g.1.1/\f.1=g.1) (o: ∀f∈F,f.2.1=true-> ∃g∈G,g.1.1=f.1.1/\g.2.1=true):KP n L G D R:=by
 intro p w x;obtain⟨a,b,c⟩:=h p w x;refine⟨λg v e=>?_,b,λr hr=>⟨(c r hr).1,λt u=>(c r hr).2 t λf d e=>?_⟩⟩;obtain⟨f,d,j,k⟩:=m g v;rw[<-k];exact a f d (j.trans e);cases s:f.2.1 with
 |false=>rfl
 |true=>obtain⟨g,q,l,i⟩:=o f d s;rw[u g q (l.trans e)]at i;cases i
def KP.written{n:Int}{L:List AD}{F G:List A2}{D:List Ac}{R:List DZ}{q d:Int}{w:DZ}(h:KP n L F D R)(q0:0≤q)(A:d=Bu L q)(B:q<n)
  (s: ∀g∈G,∃f∈F,f.1.1=g.1.1/\f.1=g.1) (t: ∀f∈F,f.1.1≠q->f∈G) (l:R[q.toNat]? =some w):
  KP n L G D (R.set q.toNat ((if d>w.1 then d else w.1),w.2)):=by
 intro p y z;obtain⟨a,b,c⟩:=h p y z;refine⟨λg x e=>?_,b,λr hr=>?_⟩;obtain⟨f,i,m,o⟩:=s g x;rw[<-o];exact a f i (m.trans e);by_cases k:p=q;subst k;have j:p.toNat<R.length:=by rcases Ao p.toNat R.length with h|h;exact h;rw[Ck h]at l;cases l
 rw[Hi j]at hr;have:=(c w l).1;have e:r.1=Bu L p:=by rw[<-Cl hr];dsimp only;split<;>omega
 exact⟨by omega,λ_ _=>e⟩;rw[Dt (by omega)]at hr;refine⟨(c r hr).1,λu v=>(c r hr).2 u λf i e=>?_⟩;exact v f (t f i (by omega)) e
def wO{F:List A2}{i:Nat}{f n:A2}(a:F[i]? =some f)(hn:n.1=f.1): ∀g∈F.set i n,∃f∈F,f.1.1=g.1.1/\f.1=g.1:=by grind
def rR{F:List A2}{i:Nat}{f n:A2}(c:F[i]? =some f): ∀g∈F,g.1.1≠f.1.1->g∈F.set i n:=by intro g a b;have⟨j,d⟩:=EV a;apply BL (i:=j);grind
def KP.change{n:Int}{L:List AD}{F:List A2}{D:List Ac}{R:List DZ}{e:AD}{i:Nat}{f g:A2}(h:KP n L F D R)(G:FD B n F D)
  (t:e.2.1=1\/e.2.1=2) (u:F[i]? =some f) (I:f.1.1=e.2.2.2.2.2.2.1.1) (v:g.1=upd f.1 e) (y:g.2.1=true)
  (J: ∀j k,F[j]? =some k->k.1.1=f.1.1->j=i) (H:Bu L f.1.1<e.1):KP n (L++[e]) (F.set i g) D R:=by
 have w:i<F.length:=by rcases Ao i F.length with h|h;exact h;rw[Ck h]at u;cases u
 have A:g∈F.set i g:=BL (i:=i) (Hi w);have C:g.1.1=f.1.1:=by rw[v];rfl
 intro p K M;obtain⟨a,b,c⟩:=h p K M;have E:aF p e=(f.1.1==p):=by rw[I];unfold aF;rcases t with h|h<;>simp[h]
 rw[OM,vM,E];by_cases l:f.1.1=p;subst l;rw[beq_self_eq_true,if_pos rfl,if_pos rfl];refine⟨λk t m=>?_,λd o m=>absurd m ((G f (BL u)).2.2.1 d o),λr hr=>⟨by have:=(c r hr).1;omega,λ_ q=>?_⟩⟩;obtain⟨j,x⟩:=EV t;by_cases s:j=i;subst s;rw[Hi w]at x;rw[<-Cl x,v];exact congrArg (λz=>upd z e) (a f (BL u) rfl);rw[Dt (λh=>s h.symm)]at x;exact absurd (J j k x m) s;have:=q g A C;rw[y]at this;cases this;rw[if_neg (by simpa using l),if_neg (by simpa using l)];refine⟨λk t m=>?_,b,λr hr=>⟨(c r hr).1,λo q=>(c r hr).2 o λk t m=>?_⟩⟩;rcases Tk t with h|h;exact a k h m;subst h;exact absurd (C.symm.trans m) l;exact q k (rR u k t (by omega)) m
def FD.set{n:Int}{F:List A2}{D:List Ac}{i:Nat}{f g:A2}(h:FD B n F D)(b:F[i]? =some f)(c:g.1.1=f.1.1):FD B n (F.set i g) D:=by intro k d;rcases Tk d with a|a;exact h k a;subst a;rw[c];exact h f (BL b)
def KP.supply{n:Int}{L:List AD}{F:List A2}{D l:List Ac}{R:List DZ}{x:AZ}{g:A2}(h:KP n L F D R)(y:x=st L x.1)
  (w: ∀f∈F,f.1.1≠x.1) (t:g.1=x) (i:(g.2.1=true/\l=D.filter λd=>d.1 !=x.1)\/(g.2.1=false/\(∀d∈D,d.1≠x.1)/\l=D)):KP n L (F++[g]) l R:=by
 intro p z A;obtain⟨a,b,c⟩:=h p z A;have v: ∀d∈l,d∈D:=by rcases i with⟨_,e⟩|⟨_,_,e⟩<;>subst e;exact λd i=>(Bq.1 i).1;exact λd i=>i
 refine⟨λf j e=>?_,λd i=>b d (v d i),λr hr=>⟨(c r hr).1,λq s=>(c r hr).2 ?_ λf j=>s f (HQ _ j)⟩⟩;rcases At.1 j with j|j;exact a f j e;rw[BE]at j;subst j;rw[t]at e⊢;rw[<-e];exact y;intro d k e;rcases i with⟨u,o⟩|⟨_,_,o⟩<;>subst o;by_cases m:p=x.1;have:=s g (by simp) (by rw[t,m]);rw[u]at this;cases this;exact q d (Bq.2 ⟨k,by simp;omega⟩) e;exact q d k e
def FD.supply{n:Int}{F:List A2}{D b:List Ac}{p:Int}{g:A2}(h:FD B n F D)(k:0<=p)(l:p<n)(i:B p)(j:g.1.1=p)(e: ∀d∈b,d∈D)(hn: ∀d∈b,d.1≠p):FD B n (F++[g]) b:=by intro f a;rcases At.1 a with a|a;exact⟨(h f a).1,(h f a).2.1,λd c=>(h f a).2.2.1 d (e d c),(h f a).2.2.2⟩;grind
end Go.Pm
namespace Go.Pm
open Go Go.Ab
set_option maxHeartbeats 400000
variable {B:Int->Prop}
def SB(k:AP):Prop:=Fy k.2.2.2.2.1/\k.2.2.2.2.2.1.length<=16777216/\k.2.2.2.2.2.2.2.length<=16777216
def SK(B:Int->Prop)(k:AP):Prop:=Fy k.2.2.2.2.1/\k.2.2.2.2.2.1.length<=16777216/\k.2.2.2.2.2.2.2.length<=16777216/\KI B k
def SK.sb{k:AP}(h:SK B k):SB k:=⟨h.1,h.2.1,h.2.2.1⟩
def SK.ki{k:AP}(h:SK B k):KI B k:=h.2.2.2
def SB.sk{k:AP}(h:SB k)(g:KI B k):SK B k:=⟨h.1,h.2.1,h.2.2,g⟩
def VK(k:AP):Prop:=1<=k.1/\k.1<=64/\Du k.2.2.1/\OO k.2.2.2.1/\Xk k.2.2.2.2.1/\Wf k.2.2.2.2.2.1/\gY k.2.2.2.2.2.2.1/\k.2.2.2.2.2.2.1.length=k.1
def Zv{x:AP}(h:SB x):A3 (Kx x) λr=>r=true->VK x:=by
 unfold Kx VK;unfold SB at h
 repeat' first
   |with_reducible apply AI<;>intro a
   |with_reducible apply AA
   |(with_reducible apply AB (Bo);intro r hr)
   |(with_reducible apply AB (EJ);intro r hr)
   |(with_reducible refine AJ ?_ (E7 ?_);intro r hr)
   |(with_reducible apply AB (Di);intro r hr)
   |(with_reducible apply AB (Fv);intro r hr)
   |(with_reducible refine AJ ?_ (Oa ?_);intro r hr)
 all_goals ((try dsimp[len]at*);(try first|omega|assumption|grind[AY]))
def WH{x:AP×Int}{s:Int×Ac}(h:0<=s.1/\s.1<=x.1.2.2.2.2.2.2.2.length/\x.1.2.2.2.2.2.2.2.length<=16777216/\ ∀(i:Nat) (d:Ac),i<s.1->x.1.2.2.2.2.2.2.2[i]? =some d->d.1≠x.2):A3 (Ad (Md x) s) λr=>(∃d∈x.1.2.2.2.2.2.2.2,r= .inl (true,d)/\d.1=x.2)\/ ∃z,r= .inr z/\ ∀d∈x.1.2.2.2.2.2.2.2,d.1≠x.2:=by
 refine AQ (λ(s:Int×Ac)=>0<=s.1/\s.1<=x.1.2.2.2.2.2.2.2.length/\x.1.2.2.2.2.2.2.2.length<=16777216/\ ∀(i:Nat) (d:Ac),i<s.1->x.1.2.2.2.2.2.2.2[i]? =some d->d.1≠x.2) (λ(s:Int×Ac)=>((x.1.2.2.2.2.2.2.2.length:Int)-s.1).toNat) h (λs j=>?_);have⟨c,m,f,g⟩:=j;unfold Md;refine AC (λa=>?_) (λa=>AA (.inr ⟨_,rfl,λd b=>?_⟩));simp[len]at a;refine AB (AK c a) λv o=>?_;apply AU<;>intro n;grind[AB,AK,AA,Option.some.inj];have e:=AY (x:=s.1+1);refine AA ⟨⟨by dsimp only;omega,by dsimp only;omega,f,λi d k b=>?_⟩,by dsimp only;omega⟩;dsimp only at k;by_cases l:(i:Int)<s.1;exact g i d l b;have:i=s.1.toNat:=by omega
 grind[Option.some.inj];grind[List.getElem?_of_mem,Nat.lt_or_ge,List.getElem?_eq_none]
def JJ{x:AP×Int}(h:SB x.1):A3 (Eo x) λr=>(r.2=true->r.1∈x.1.2.2.2.2.2.2.2/\r.1.1=x.2)/\(r.2=false-> ∀d∈x.1.2.2.2.2.2.2.2,d.1≠x.2):=by unfold Eo;refine AB (WH ⟨by omega,by dsimp only;omega,h.2.2,λi d a=>absurd a (by dsimp only;omega)⟩) λv b=>?_;grind[BH,AA,A9]
def WI{x:AP}{s:Int}(h:0<=s/\s<=x.2.2.2.2.2.1.length/\(x.2.2.2.2.2.1.length:Int)<=16777216):A3 (Ad (Me x) s) λr=>r≠ .inl true:=by
 refine AQ (λ(s:Int)=>0<=s/\s<=x.2.2.2.2.2.1.length/\(x.2.2.2.2.2.1.length:Int)<=16777216) (λ(s:Int)=>((x.2.2.2.2.2.1.length:Int)-s).toNat) h (λs b=>?_);unfold Me;repeat' with_reducible first|apply AC<;>intro a|apply AI<;>intro a|apply AA|(refine AJ ?_ (AK ?_ ?_);rintro r ⟨hr,c⟩)
 all_goals ((try dsimp[len]at*);(try first|omega|assumption|grind[AY]))
def WJ{x:AP}{s:Int}(h:0<=s/\s<=x.2.2.2.1.2.1.length/\(x.2.2.2.1.2.1.length:Int)<=16777216/\SB x):A3 (Ad (Mf x) s) λr=>r≠ .inl true:=by
 refine AQ (λ(s:Int)=>0<=s/\s<=x.2.2.2.1.2.1.length/\(x.2.2.2.1.2.1.length:Int)<=16777216/\SB x) (λ(s:Int)=>((x.2.2.2.1.2.1.length:Int)-s).toNat) h (λs b=>?_);unfold Mf;repeat' with_reducible first|apply AC<;>intro a|apply AI<;>intro a|apply AA|(refine AJ ?_ (JJ ?_);intro r hr)|(refine AJ ?_ (AK ?_ ?_);rintro r ⟨hr,c⟩)
 all_goals ((try dsimp[len]at*);(try first|omega|assumption|grind[AY]))
def WK{x:AP}{s:Int}(h:0<=s/\s<=x.2.2.2.2.1.1.length/\(x.2.2.2.2.1.1.length:Int)<=16777216):A3 (Ad (Mg x) s) λr=>r≠ .inl true:=by
 refine AQ (λ(s:Int)=>0<=s/\s<=x.2.2.2.2.1.1.length/\(x.2.2.2.2.1.1.length:Int)<=16777216) (λ(s:Int)=>((x.2.2.2.2.1.1.length:Int)-s).toNat) h (λs b=>?_);unfold Mg;repeat' with_reducible first|apply AC<;>intro a|apply AI<;>intro a|apply AA|(refine AJ ?_ (AK ?_ ?_);rintro r ⟨hr,c⟩)
 all_goals ((try dsimp[len]at*);(try first|omega|assumption|grind[AY]))
def WL{x:AP}{s:Int}(h:0<=s/\s<=x.2.2.2.2.1.2.length/\(x.2.2.2.2.1.2.length:Int)<=16777216):A3 (Ad (Mh x) s) λr=>r≠ .inl true:=by
 refine AQ (λ(s:Int)=>0<=s/\s<=x.2.2.2.2.1.2.length/\(x.2.2.2.2.1.2.length:Int)<=16777216) (λ(s:Int)=>((x.2.2.2.2.1.2.length:Int)-s).toNat) h (λs b=>?_);unfold Mh;repeat' with_reducible first|apply AC<;>intro a|apply AI<;>intro a|apply AA|(refine AJ ?_ (AK ?_ ?_);rintro r ⟨hr,c⟩)
 all_goals ((try dsimp[len]at*);(try first|omega|assumption|grind[AY]))
def Bp{x:AP}(h:SB x):A3 (BT x) λr=>r=true->VK x:=by
 unfold BT;repeat' with_reducible first|apply AO<;>intro a|apply AI<;>intro a|(apply BH;try dsimp only)|(apply A9;try dsimp only)|(apply BA<;>(intro u b;try subst b))|apply AA|(refine AJ ?_ (Zv ?_);intro r hr)|(refine AJ ?_ (WI ?_);intro r hr)|(refine AJ ?_ (WJ ?_);intro r hr)|(refine AJ ?_ (WK ?_);intro r hr)|(refine AJ ?_ (WL ?_);intro r hr)
 all_goals ((try dsimp[len]at*);(try first|omega|assumption|grind[SB,VK,Fy,OO]))
def W8{x:List Ah×Int}{s:Int}(h:0<=s/\s<=x.1.length/\(x.1.length:Int)<=16777216):A3 (Ad (JH x) s) λr=> ∀u,r= .inl u->0<=u/\u<x.1.length/\ ∃t,x.1[u.toNat]? =some t/\t.1=x.2:=by
 refine AQ (λ(s:Int)=>0<=s/\s<=x.1.length/\(x.1.length:Int)<=16777216) (λ(s:Int)=>((x.1.length:Int)-s).toNat) h (λs b=>?_);unfold JH;repeat' with_reducible first|apply AC<;>intro a|apply AU<;>intro a|apply AI<;>intro a|apply AA|(refine AJ ?_ (AK ?_ ?_);rintro r ⟨hr,c⟩)
 all_goals ((try dsimp[len]at*);(try first|omega|assumption|grind[AY]))
def He{x:List Ah×Int}(h:x.1.length<=16777216):A3 (EZ x) λr=> -1<=r/\r<x.1.length/\(0<=r-> ∃t,x.1[r.toNat]? =some t/\t.1=x.2):=by
 unfold EZ;repeat' with_reducible first|(apply BH;try dsimp only)|(apply A9;try dsimp only)|(apply BA<;>(intro u a;try subst a))|apply AA|(refine AJ ?_ (W8 ?_);intro r hr)
 all_goals ((try dsimp[len]at*);(try first|omega|assumption|grind[AY]))
def FQ{x:List Ah×Int}(h:x.1.length<=16777216):A3 (CG x) λr=> -1<=r/\r<x.1.length/\(0<=r-> ∃t,x.1[r.toNat]? =some t/\t.1=x.2):=by
 unfold CG;repeat' with_reducible first|apply AA|(refine AJ ?_ (He ?_);intro r hr)
 all_goals ((try dsimp[len]at*);(try first|omega|assumption|grind[AY]))
def iN(p:Ba)(id:Int):Prop:= ∃(i:Nat) (f:A2),p.2.1[i]? =some f/\f.1.1=id
def W7{x:Ba×Int}{s:Int}(h:0<=s/\s<=x.1.2.1.length/\(x.1.2.1.length:Int)<=16777216/\ ∀(i:Nat) (f:A2),i<s->x.1.2.1[i]? =some f->f.1.1≠x.2):A3 (Ad (NR x) s) λr=>(∃u,r= .inl u/\0<=u/\u<x.1.2.1.length/\ ∃f,x.1.2.1[u.toNat]? =some f/\f.1.1=x.2)\/(r= .inr ()/\ ¬iN x.1 x.2):=by
 refine AQ (λ(s:Int)=>0<=s/\s<=x.1.2.1.length/\(x.1.2.1.length:Int)<=16777216/\ ∀(i:Nat) (f:A2),i<s->x.1.2.1[i]? =some f->f.1.1≠x.2) (λ(s:Int)=>((x.1.2.1.length:Int)-s).toNat) h (λs b=>?_);unfold NR;repeat' with_reducible first|apply AC<;>intro a|apply AU<;>intro a|apply AI<;>intro a|apply AA|(refine AJ ?_ (AK ?_ ?_);rintro r ⟨hr,c⟩)
 all_goals try (have e:=AY (x:=s+1))
 all_goals first|omega|grind[iN]
def GO{x:Ba×Int}(h:x.1.2.1.length<=16777216):A3 (FJ x) λr=> -1<=r/\r<x.1.2.1.length/\(0<=r-> ∃f,x.1.2.1[r.toNat]? =some f/\f.1.1=x.2)/\(r<0-> ¬iN x.1 x.2):=by refine AB (W7 (by refine⟨by omega,by omega,by omega,λi f a=>absurd a (by omega)⟩)) λs b=>?_;grind[BH,AA,A9]
def FO{x:Ba×Int}:A3 (D5 x) λr=> -1<=r/\r<x.1.2.1.length/\(0<=r->OO x.1/\ ∃f,x.1.2.1[r.toNat]? =some f/\f.1.1=x.2)/\(OO x.1->iN x.1 x.2->0<=r):=by
 unfold D5;repeat' with_reducible first|apply AO<;>intro b|apply AI<;>intro b|apply AA|(apply AB (EJ);intro r hr)|(refine AJ ?_ (GO ?_);intro r hr)
 all_goals first|omega|(have a:OO x.1:=(by grind);have:=a.1;have:=a.2.1;have:=a.2.2.1;omega)|grind
def IJ{x:Ba×Int}:A3 (Fh x) λr=>(r.2=true->OO x.1/\Hq r.1/\iN x.1 x.2/\r.1.1=x.2/\ ∃f∈x.1.2.1,f.1=r.1)/\(r.2=false->OO x.1-> ¬iN x.1 x.2):=by
 unfold Fh;repeat' with_reducible first|apply AC<;>intro a|apply AI<;>intro a|apply AA|(apply AB (FO);intro r hr)|(refine AJ ?_ (AK ?_ ?_);rintro r ⟨hr,b⟩)
 all_goals first|omega|(simp;grind)|grind[OO,Jj,jn,iN]
theorem Du.last{x:Aj}(h:Du x):wi (wi (x.1+len x.2.1)-1)=x.1+x.2.1.length-1:=by have⟨a,b,c,d,e,f⟩:=h;grind[AY]
def Du.at{x:Aj}{n:Int}{e:AD}(h:Du x)(a:x.1<=n)(b:n<=x.1+x.2.1.length-1)(c:x.2.1[(wi (n-x.1)).toNat]? =some e):K8 e/\e.1=n:=by have⟨a1,a2,a3,a4,a5,a6⟩:=h;grind[AY]
theorem Du.append{x:Aj}{e:AD}{l:List AD}(h:Du x)(b:x.2.1.length≠4096)(d:K8 e)(c:e.1=x.1+x.2.1.length)(a:l=x.2.1++[e]):Du (x.1,l,x.2.2):=by have⟨a1,a2,a3,a4,a5,a6⟩:=h;subst a;refine⟨a1,a2,by simp;omega,a4,by simp;omega,λi f g=>?_⟩;grind[Nat.lt_or_ge,List.getElem?_append_right,List.getElem?_eq_none]
def Du.force{x:Aj}{n:Int}(h:Du x)(a:n<=x.1+x.2.1.length-1):Du (x.1,x.2.1,if n>x.2.2 then n else x.2.2):=by have⟨a1,a2,a3,a4,a5,a6⟩:=h;refine⟨a1,a2,a3,?_,?_,a6⟩<;>(dsimp only;split<;>omega)
def GN{x:Aj}:A3 (FH x) λr=>Du x->r=x.1+x.2.1.length-1:=by
 unfold FH;repeat' with_reducible first|apply AO<;>intro a|apply AI<;>intro a|apply AA|(apply AB (Bo);intro r hr)|(apply AB (EX);intro r hr)
 all_goals ((try dsimp[len]at*);(try first|omega|assumption|grind[Du.last]))
def JF{x:Aj×Int}:A3 (EG x) λr=>(r.2=0->Du r.1/\r.1.2.1=x.1.2.1/\r.1.1=x.1.1/\x.1.2.2<=r.1.2.2/\x.2<=r.1.2.2):=by
 unfold EG;repeat' with_reducible first|apply AC<;>intro a|apply AO<;>intro a|apply AI<;>intro a|apply AA|(apply AB (Bo);intro r hr)|(apply AB (EX);intro r hr)
 all_goals try (intro _;have b:Du x.1:=by grind
                have c:=b.last;exact⟨b.force (by omega),rfl,rfl,by dsimp only;split<;>omega,by dsimp only;split<;>omega⟩)
 all_goals ((try dsimp[len]at*);(try first|omega|assumption|grind[AY]))
theorem Gk{x:Aj×Int}:A3 (Ex x) λr=>(r.2=0->K8 r.1/\r.1.1=x.2/\x.1.2.1[(x.2-x.1.1).toNat]? =some r.1/\x.1.1<=x.2)/\(Du x.1->x.1.1<=x.2->x.2<=x.1.1+x.1.2.1.length-1->r.2=0):=by
 unfold Ex;repeat' with_reducible first|apply AC<;>intro c|apply AO<;>intro c|apply AI<;>intro c|apply AA|(apply AB (Bo);intro r hr)|(apply AB (EX);intro r hr)|(refine AJ ?_ (AK ?_ ?_);rintro r ⟨hr,f⟩)
 all_goals try (have a:Du x.1:=by grind)
 all_goals try (have e:=a.last;have:=a.1;have:=a.2.1;have:=a.2.2.1)
 all_goals try (have d:wi (x.2-x.1.1)=x.2-x.1.1:=AY)
 all_goals try (have b:=a.at (n:=x.2) (by omega) (by omega) hr;rw[d]at hr;exact⟨λ_=>⟨b.1,b.2,hr,by omega⟩,λ_ _ _=>rfl⟩)
 all_goals ((try dsimp[len]at*);(try first|omega|assumption|grind[AY]))
def YO{x:Aj×AD}:A3 (Jr x) λr=>(r.2.2=0->Du r.1/\Du x.1/\r.1.2.1=x.1.2.1++[(r.2.1,x.2.2)]/\r.1.1=x.1.1/\r.2.1=x.1.1+x.1.2.1.length/\r.1.2.2=x.1.2.2):=by
 unfold Jr;repeat' with_reducible first|apply AO<;>intro b|apply AU<;>intro b|apply AI<;>intro b|apply AA|(apply AB (Bo);intro r hr)|(apply AB (EX);intro r hr)|(apply AB (B7);intro r hr)|(refine AJ ?_ (Ae ?_);rintro r ⟨hr,c,d⟩)
 all_goals try (have a:Du x.1:=by grind)
 all_goals try (have c:=a.last;have:=a.1;have:=a.2.1;have:=a.2.2.1)
 all_goals ((try dsimp[len]at*);(try first|omega|assumption|grind[AY,Du.append]))
def B4{x:AD}:A3 (A6 x) λr=>r=true↔x.2.1=1\/x.2.1=2:=by
 unfold A6;repeat' with_reducible first|apply AU<;>intro a|apply AI<;>intro a|apply AA
 all_goals ((try dsimp[len]at*);(try first|omega|assumption|grind[AY]))
end Go.Pm
namespace Go.Pm
open Go Go.Ab
set_option maxHeartbeats 400000
def mW(n:Int):0<=IntKind.wrap .u64 n:=by rw[SN];omega
theorem aR(l:List Int):(GU l).length=l.length:=by simp[GU]
def YG{x:Bb×Int×Int}{s:Bb×Int}(h:0<=s.2/\s.2<=x.2.2/\x.2.2<=8/\(s.1.length:Int)=x.1.length+s.2/\x.1.length<=1099511627776):A3 (Ad (GK x) s) λr=>(r.length:Int)=x.1.length+x.2.2:=by
 refine AQ (λ(s:Bb×Int)=>0<=s.2/\s.2<=x.2.2/\x.2.2<=8/\(s.1.length:Int)=x.1.length+s.2/\x.1.length<=1099511627776) (λ(s:Bb×Int)=>(x.2.2-s.2).toNat) h (λs b=>?_);unfold GK;repeat' with_reducible first|apply AC<;>intro a|apply AI<;>intro a|apply AA|apply YE|(refine AJ ?_ (Cu ?_);rintro r ⟨hr,c⟩)
 all_goals try (have d:=mW (wi (8*s.2));omega)
 all_goals ((try dsimp[len]at*);(try first|omega|assumption|grind[AY,aR]))
def DD{x:Bb×Int×Int}(h:x.1.length<=1099511627776):A3 (Al x) λr=>(1<=x.2.2->x.2.2<=8->(r.length:Int)=x.1.length+x.2.2)/\r.length<=x.1.length+8:=by
 unfold Al;repeat' with_reducible first|apply AC<;>intro a|apply AI<;>intro a|apply AA|(refine AJ ?_ (YG ?_);intro r hr)
 all_goals ((try dsimp[len]at*);(try first|omega|assumption|grind[AY]))
def wH{n:Int}(h:n<=4):(2:Int)^(8*n.toNat)<=4294967296:=by
 have:n.toNat=0\/n.toNat=1\/n.toNat=2\/n.toNat=3\/n.toNat=4:=by omega
 rcases this with h|h|h|h|h<;>rw[h]<;>decide
def ABL{n:Int}(h:n<=2):(2:Int)^(8*n.toNat)<=65536:=by
 have:n.toNat=0\/n.toNat=1\/n.toNat=2:=by omega
 rcases this with h|h|h<;>rw[h]<;>decide
def zK{a b:Int}{k:Nat}(e:0<=a)(c:a<2^k)(f:0<=b)(d:b<2^k)(g:k<=64):(0:Int)<=((BitVec.toNat (BitVec.ofInt 64 a|||BitVec.ofInt 64 b):Nat):Int)/\((BitVec.toNat (BitVec.ofInt 64 a|||BitVec.ofInt 64 b):Nat):Int)<2^k:=by
 refine⟨by omega,?_⟩;obtain⟨n,rfl⟩:=Ei e;obtain⟨m,rfl⟩:=Ei f;have hn:n<2^k:=by exact_mod_cast c
 have h:m<2^k:=by exact_mod_cast d
 have i:2^k<=2^64:=aL (by decide) g;rw[BitVec.toNat_or];simp[eW,eX];rw[Vo (by omega),Vo (by omega)];exact_mod_cast Nat.or_lt_two_pow hn h
def sg{a v i:Int}(d:0≤i)(e:i<8)(c:0≤a)(b:a<2^(8*i.toNat))(g:0≤v)(h:v<256):
  0<=IntKind.wrap .u64 (((BitVec.toNat ((BitVec.ofInt 64 a)|||(BitVec.ofInt 64 (IntKind.wrap .u64 ((IntKind.wrap .u64 v)*(2^(min (Int.toNat (IntKind.wrap .u64 (wi (8*i)))) 64))))))):Nat):Int)/\
  IntKind.wrap .u64 (((BitVec.toNat ((BitVec.ofInt 64 a)|||(BitVec.ofInt 64 (IntKind.wrap .u64 ((IntKind.wrap .u64 v)*(2^(min (Int.toNat (IntKind.wrap .u64 (wi (8*i)))) 64))))))):Nat):Int)<2^(8*(wi (i+1)).toNat):=by
 rw[(AY),(AY),(by rw[SN];omega:IntKind.wrap .u64 (8*i)=8*i),(by rw[SN];omega:IntKind.wrap .u64 v=v)];obtain⟨n,rfl⟩:=Ei d;obtain⟨m,rfl⟩:=Ei g;rw[(by omega:min (8*(n:Int)).toNat 64=8*n)];rw[(by omega:((n:Int)+1).toNat=n+1)];rw[(by omega:((n:Int)).toNat=n)]at b;have f:(m:Int)*2^(8*n)<2^(8*(n+1)):=by
  have:(m*2^(8*n):Nat)<2^(8*(n+1)):=by rw[(by grind[Nat.mul_add,Nat.pow_add]:2^(8*(n+1))=256*2^(8*n))];exact Nat.mul_lt_mul_of_pos_right (by omega) (Nat.pow_pos (by decide))
  exact_mod_cast this
 have l:(2:Int)^(8*(n+1))<=2^64:=by have:(2^(8*(n+1)):Nat)<=2^64:=aL (by decide) (by omega);exact_mod_cast this
 have j:(0:Int)<=(m:Int)*2^(8*n):=by
  have:(0:Int)<=((m*2^(8*n):Nat):Int):=by omega
  exact_mod_cast this
 rw[(by rw[SN];omega:IntKind.wrap .u64 ((m:Int)*2^(8*n))=(m:Int)*2^(8*n))];have⟨q1,q2⟩:=zK (k:=8*(n+1)) c (by grind[Nat.pow_le_pow_right]) j f (by omega);grind[BitVec.toNat,SN]
def YF{x:Bb×Int×Int}{s:Int×Int}(h:0<=s.2/\s.2<=x.2.2/\x.2.2<=8/\0<=x.2.1/\x.2.1+x.2.2<=x.1.length/\x.1.length<=1099511627776/\0<=s.1/\s.1<2^(8*s.2.toNat)):A3 (Ad (GJ x) s) λr=>0<=r/\r<2^(8*x.2.2.toNat):=by
 refine AQ (λ(s:Int×Int)=>0<=s.2/\s.2<=x.2.2/\x.2.2<=8/\0<=x.2.1/\x.2.1+x.2.2<=x.1.length/\x.1.length<=1099511627776/\0<=s.1/\s.1<2^(8*s.2.toNat)) (λ(s:Int×Int)=>(x.2.2-s.2).toNat) h (λs n=>?_);unfold GJ;have⟨d,q,f,g,j,k,l,m⟩:=n;repeat' with_reducible first|apply AC<;>intro o|apply AI<;>intro o|apply AA|apply YE|(refine AJ ?_ (Si ?_ ?_);rintro r ⟨hr,p⟩)
 all_goals try (have t:=mW (wi (8*s.2));omega)
 all_goals (first|(have⟨b,c⟩:=sg (a:=s.1) (v:=r) (i:=s.2) d (by omega) l m hr p;have e:=AY (x:=s.2+1);exact⟨⟨by omega,by omega,f,g,j,k,b,c⟩,by dsimp only;omega⟩)|skip)
 all_goals ((try dsimp[len]at*);(try first|omega|assumption|grind[AY]))
def CU{x:Bb×Int×Int}(h:x.1.length<=1099511627776):A3 (Av x) λr=>r.2=0->0<=x.2.1/\x.2.1+x.2.2<=x.1.length/\(x.2.2<=4->0<=r.1/\r.1<4294967296)/\(x.2.2<=2->r.1<65536):=by
 unfold Av;repeat' with_reducible first|apply AC<;>intro c|apply AI<;>intro c|apply AA|(refine AJ ?_ (YF ?_);intro r hr)
 all_goals dsimp[len]at*
 all_goals first
  |omega
  |(intro d;exact absurd d (by decide))
  |(have e:=AY (x:=(x.1.length:Int)-x.2.1);exact⟨by omega,by omega,by omega,by omega,by omega,h,by omega,by simp⟩)
  |(intro _;have e:=AY (x:=(x.1.length:Int)-x.2.1);refine⟨by omega,by omega,λb=>?_,λa=>?_⟩;(have:=wH b;rw[AY];omega);(have:=ABL a;rw[AY];omega))
def YI  {s:Int×Int}(h:0<=s.2/\s.2<=8):A3 (Ad (HX) s) λr=>True:=by
 refine AQ (λ(s:Int×Int)=>0<=s.2/\s.2<=8) (λ(s:Int×Int)=>(8-s.2).toNat) h (λs b=>?_);unfold HX;repeat' with_reducible first|apply AC<;>intro a|apply AU<;>intro a|apply AI<;>intro a|(apply Az;try dsimp only)|apply BS|apply Bd|apply AA
 all_goals ((try dsimp[len]at*);(try first|omega|assumption|grind[AY]))
def YH{x:Bb}{s:Int×Int}(h:0<=s.2/\s.2<=x.length/\x.length<=1099511627776):A3 (Ad (HW x) s) λr=>True:=by
 refine AQ (λ(s:Int×Int)=>0<=s.2/\s.2<=x.length/\x.length<=1099511627776) (λ(s:Int×Int)=>((x.length:Int)-s.2).toNat) h (λs b=>?_);unfold HW;repeat' with_reducible first|apply AC<;>intro a|apply AI<;>intro a|apply AA|(refine AJ ?_ (YI ?_);intro r hr)|(refine AJ ?_ (Si ?_ ?_);rintro r ⟨hr,c⟩)
 all_goals ((try dsimp[len]at*);(try first|omega|assumption|grind[AY]))
def Ot{x:Bb}(h:x.length<=1099511627776):A3 (Ew x) λr=>True:=by
 unfold Ew;repeat' with_reducible first|apply AA|(refine AJ ?_ (YH ?_);intro r hr)
 all_goals ((try dsimp[len]at*);(try first|omega|assumption|grind[AY]))
theorem Rz{x:Bb}:A3 (EF x) λr=>r.length<=8408:=by
 unfold EF;repeat' with_reducible first|apply AC<;>intro a|apply AI<;>intro a|apply AA|(refine AJ ?_ (DD ?_);intro r hr)|(refine AJ ?_ (Ot ?_);intro r hr)|(refine AJ ?_ (Cu ?_);rintro r ⟨hr,b⟩)
 all_goals dsimp[len]at*
 all_goals ((try dsimp[len]at*);(try first|omega|assumption|grind[AY]))
theorem QD{x:Bb×Int}(h:x.1.length<=1099511627776):A3 (Bz x) λr=>r.2.2=0->r.1.length<=8392/\x.2+8+r.1.length=r.2.1/\0<=x.2/\r.2.1<=x.1.length:=by
 unfold Bz;repeat' with_reducible first|apply AC<;>intro a|apply AL<;>intro a|apply AI<;>intro a|apply AA|(refine AJ ?_ (CU ?_);intro r hr)|(refine AJ ?_ (Ot ?_);intro r hr)|(refine AJ ?_ (Dh ?_ ?_ ?_);rintro r ⟨hr,b⟩)
 all_goals dsimp[len]at*
 all_goals ((try dsimp[len]at*);(try first|omega|assumption|grind[AY]))
def bO{x:Bb×Cv}(h:x.1.length<=1099511627776)(b:x.2.2.length<=16777216):A3 (F4 x) λr=>r.length<=x.1.length+8+x.2.2.length:=by
 unfold F4;repeat' with_reducible first|apply AO<;>intro a|apply AI<;>intro a|apply AA|(refine AJ ?_ (DD ?_);intro r hr)|(refine AJ ?_ (Cu ?_);rintro r ⟨hr,c⟩)
 all_goals ((try dsimp[len]at*);(try first|omega|assumption|grind[AY]))
def TI.lens{x:AD}(h:TI x):x.2.2.2.2.2.2.1.2.2.1.2.length<=12/\x.2.2.2.2.2.2.1.2.2.2.2.length<=12/\x.2.2.2.2.2.2.2.length<=8192:=by grind[TI,Nu,IA,O0]
theorem YM{x:AD}:A3 (FM x) λr=>r.1.length<=8400:=by
 unfold FM;repeat' with_reducible first|apply AO<;>intro a|apply AI<;>intro a|apply AA|(apply AB (B7);intro r hr)|(refine AJ ?_ (DD ?_);intro r hr)|(refine AJ ?_ (bO ?_ ?_);intro r hr)|(refine AJ ?_ (Cu ?_);rintro r ⟨hr,b⟩)
 all_goals try (have c:=(TI.lens (x:=x) (by unfold K8 at*;grind)))
 all_goals ((try dsimp[len]at*);(try first|omega|assumption|grind[AY]))
def ABD(k:Nat):(0:Int)<256^k:=by have:0<256^k:=Nat.pow_pos (by decide);grind
def AD5(b k:Nat):(b:Int)*256^k=((b*256^k:Nat):Int):=by grind
def D9(n:Int):Nat->Bb
 |0=>[]
 |k+1=>UInt8.ofNat (n%256).toNat::D9 (n/256) k
def jQ:Bb->Nat
 |[]=>0
 |b::r=>b.toNat+256*jQ r
theorem BB: ∀(k:Nat) (n:Int),(D9 n k).length=k
 |0,n=>rfl
 |k+1,n=>by rw[D9,CD,BB k]
theorem nl: ∀l:Bb,jQ l<256^l.length
 |[]=>by simp[jQ]
 |b::r=>by have a:=nl r;have c:=b.toNat_lt;grind[jQ,List.length_cons,Nat.pow_succ]
def wD: ∀l:Bb,D9 (jQ l:Int) l.length=l
 |[]=>rfl
 |b::r=>by have a:=b.toNat_lt;rw[CD,D9,(by rw[jQ];omega:((jQ (b::r):Nat):Int)/256=(jQ r:Int)),(by rw[jQ];omega:(((jQ (b::r):Nat):Int)%256).toNat=b.toNat),wD r];simp
def pe: ∀(k:Nat) (n m:Int),n%256^k=m%256^k->D9 n k=D9 m k
 |0,_,_,_=>rfl
 |k+1,n,m,h=>by
  have e:(256:Int)^(k+1)=256^k*256:=Int.pow_succ ..;have b:n%256=m%256:=by have a:n%256^(k+1)%256=n%256:=Int.emod_emod_of_dvd n ⟨256^k,by rw[e,Int.mul_comm]⟩;simp_all
  have c:n/256%256^k=m/256%256^k:=by
   have g: ∀x:Int,x/256%256^k=x%256^(k+1)/256:=λx=>by have d:=jt (x/256) (256^k);have f:=jt x (256*256^k);grind[Int.ediv_ediv_of_nonneg]
   grind
  rw[D9,D9,b,pe k _ _ c]
def nk: ∀(k:Nat) (n:Int),D9 n (k+1)=D9 n k++[UInt8.ofNat (n/256^k%256).toNat]
 |0,n=>by simp[D9]
 |k+1,n=>by rw[D9,nk k (n/256),D9];grind[Int.pow_succ,Int.mul_comm,Int.ediv_ediv_of_nonneg]
def mP: ∀(k:Nat) (n:Int),((jQ (D9 n k):Nat):Int)=n%256^k
 |0,n=>by simp[D9,jQ]
 |k+1,n=>by
  rw[D9,jQ];have b:(UInt8.ofNat (n%256).toNat).toNat=(n%256).toNat:=by grind[UInt8.toNat_ofNat']
  have c:=mP k (n/256);have a:=jt (n/256) (256^k);grind[Int.mul_ediv_add_emod,Int.ediv_ediv_of_nonneg]
theorem nm: ∀(l:Bb) (b:UInt8),jQ (l++[b])=jQ l+b.toNat*256^l.length
 |[],b=>by simp[jQ]
 |a::r,b=>by rw[fA,jQ,nm r b,jQ,CD,Nat.pow_succ,Nat.mul_add];grind
def aE(k:Nat)(n:Int):Prop:=(k<=7->0<=n/\n<256^k)/\ -9223372036854775808<=n/\n<=9223372036854775807
theorem Xa{k:Nat}(f:k<=8){n m:Int}(hn:aE k n)(d:aE k m)(h:D9 n k=D9 m k):n=m:=by
 have e:=mP k n;rw[h,mP k m]at e;by_cases c:k<=7;have a:=hn.1 c;have b:=d.1 c;grind[Int.emod_eq_of_lt];have:k=8:=by omega
 have a:=hn.2;have b:=d.2;grind
def rd(l:Bb):Int:=wi (jQ l:Int)
def AD6{k:Nat}(h:k<=7):(256:Int)^k<=72057594037927936:=by
 have:k=0\/k=1\/k=2\/k=3\/k=4\/k=5\/k=6\/k=7:=by omega
 grind
theorem vB{l:Bb}(h:l.length<=8):aE l.length (rd l):=by have b:=nl l;have d:rd l=((jQ l:Int)+9223372036854775808)%18446744073709551616-9223372036854775808:=z0 _;refine⟨λa=>?_,by omega⟩;have c:=AD6 a;grind
theorem qy{l:Bb}(h:l.length<=8):D9 (rd l) l.length=l:=by
 rw[show D9 (rd l) l.length=D9 (jQ l:Int) l.length from ?_,wD];apply pe;by_cases a:l.length<=7;have c:=AD6 a;have b:(jQ l:Int)<256^l.length:=by grind[nl]
 have:rd l=(jQ l:Int):=by unfold rd;exact AY
 rw[this];have:l.length=8:=by omega
 rw[this,show(256:Int)^8=18446744073709551616 by decide];unfold rd;rw[z0];omega
theorem kw{k:Nat}{n:Int}(a:k<=8)(h:aE k n):rd (D9 n k)=n:=by grind[BB,Xa,vB,D9,qy]
def u5(k:Nat):(2:Int)^(8*k)=256^k:=by grind[Int.pow_mul]
def zW{n:Int}{i:Int}(c:0<=i)(d:i<8):GU ([IntKind.wrap .u8 (Int.fdiv (IntKind.wrap .u64 n) (2^(min (Int.toNat (IntKind.wrap .u64 (wi (8*i)))) 64)))]:List Int)=[UInt8.ofNat (n/256^i.toNat%256).toNat]:=by
 have a:wi (8*i)=8*i:=AY;have b:IntKind.wrap .u64 (8*i)=8*i:=by rw[SN];omega
 rw[a,b,show min (8*i).toNat 64=8*i.toNat by omega,u5];have e:=ABD i.toNat
 rw[eZ _ (by omega),SN,AEI];have:n%18446744073709551616/256^i.toNat%256=n/256^i.toNat%256:=by
  have:i.toNat=0\/i.toNat=1\/i.toNat=2\/i.toNat=3\/i.toNat=4\/i.toNat=5\/i.toNat=6\/i.toNat=7:=by omega
  rcases this with h|h|h|h|h|h|h|h<;>rw[h];rw[show(256:Int)^0=1 by decide];omega;rw[show(256:Int)^1=256 by decide];omega;rw[show(256:Int)^2=65536 by decide];omega;rw[show(256:Int)^3=16777216 by decide];omega;rw[show(256:Int)^4=4294967296 by decide];omega;rw[show(256:Int)^5=1099511627776 by decide];omega;rw[show(256:Int)^6=281474976710656 by decide];omega;rw[show(256:Int)^7=72057594037927936 by decide];omega
 rw[this];rfl
theorem HN{s:Bb}{n:Int}{k:Int}(h:s.length<=1099511627776)(i:1<=k)(j:k<=8):Al (s,(n,k))=some (s++D9 n k.toNat):=by
 have key:A3 (Ad (GK (s,(n,k))) (s,0)) λr=>r=s++D9 n k.toNat:=by refine AQ (λ(t:Bb×Int)=>0<=t.2/\t.2<=k/\t.1=s++D9 n t.2.toNat) (λt=>(k-t.2).toNat) ⟨Ak _,by dsimp only;omega,by simp[D9]⟩ ?_;rintro⟨l,a⟩ ⟨b,g,c⟩;dsimp only at b g c;subst c;unfold GK;dsimp only;refine AC (λd=>?_) (λd=>AA (by rw[show a=k by omega]));refine AC (λe=>absurd e (by have:=mW (wi (8*a));omega)) (λ_=>?_);rw[zW b (by omega)];refine AB (Cu (by rw[Af,BB];simp;omega)) λv f=>AA ?_;rw[(AY)];refine⟨⟨by omega,by omega,?_⟩,by omega⟩;rw[f.1,show(a+1).toNat=a.toNat+1 by omega,nk,A0]
 obtain⟨r,hr,rfl⟩:=key;unfold Al;grind
def ti{a t:Bb}{i:Int}(c:0<=i)(d:i<t.length)(e:(a.length:Int)<=2199023255552)(f:(t.length:Int)<=2199023255552): ∃b:UInt8,six (a++t) (wi ((a.length:Int)+i))=some (b.toNat:Int)/\t.take (i+1).toNat=t.take i.toNat++[b]:=by obtain⟨k,rfl⟩:=Ei c;refine⟨t[k],?_,?_⟩;grind[AY,six];simp_all
theorem ACx{a b k:Nat}(h:a<256^k)(f:b<256)(g:k<8):BitVec.toNat (BitVec.ofInt 64 (a:Int)|||BitVec.ofInt 64 ((b:Int)*256^k))=a+b*256^k:=by
 have e:(256:Nat)^k=2^(8*k):=by rw[Nat.pow_mul]
 have d:a+b*256^k<256^(k+1):=by
  have:b*256^k+256^k<=256*256^k:=by rw[<-Nat.succ_mul];exact PL _ (by omega)
  omega
 have c:(256:Nat)^(k+1)<=2^64:=by rw[show(2:Nat)^64=256^8 by decide];exact aL (by decide) (by omega)
 rw[AD5];rw[BitVec.toNat_or,eW,eW,eX,eX,Vo (by omega),Vo (by omega)];grind[Nat.mul_comm,Nat.two_pow_add_eq_or_of_lt]
theorem vt{a:Nat}{b:UInt8}{i:Int}(g:0<=i)(h:i<8)(k:a<256^i.toNat)(j:Int)(d:j=8*i):IntKind.wrap .u64 (((BitVec.toNat ((BitVec.ofInt 64 (a:Int))|||(BitVec.ofInt 64 (IntKind.wrap .u64 ((IntKind.wrap .u64 (b.toNat:Int))*(2^(min (Int.toNat j) 64))))))):Nat):Int)=((a+b.toNat*256^i.toNat:Nat):Int):=by
 have l:=b.toNat_lt;have c:(256:Nat)^(i.toNat+1)<=2^64:=by rw[show(2:Nat)^64=256^8 by decide];exact aL (by decide) (by omega)
 have e:a+b.toNat*256^i.toNat<256^(i.toNat+1):=by
  have:b.toNat*256^i.toNat+256^i.toNat<=256*256^i.toNat:=by rw[<-Nat.succ_mul];exact PL _ (by omega)
  omega
 rw[d,(by rw[SN];omega:IntKind.wrap .u64 (b.toNat:Int)=b.toNat),show min (8*i).toNat 64=8*i.toNat by omega,u5];have f:IntKind.wrap .u64 ((b.toNat:Int)*256^i.toNat)=(b.toNat:Int)*256^i.toNat:=by rw[SN,AD5];omega
 grind[ACx,SN]
theorem gW{a t:Bb}{k:Int}(h:(a.length:Int)+t.length<=2199023255552)(v:1<=k)(w:k<=8):Av (a++t,((a.length:Int),k))=if k<=t.length then some (rd (t.take k.toNat),0)else some (0,5):=by
 unfold Av;dsimp only;have d:len (a++t)=(a.length:Int)+t.length:=by unfold len;rw[List.length_append];omega
 rw[decide_eq_false (by omega),cond_false,decide_eq_false (by omega),cond_false,decide_eq_false (by omega),cond_false,decide_eq_false (by omega),cond_false];have q:wi (len (a++t)-(a.length:Int))=t.length:=by rw[d,AY];omega
 by_cases g:k<=t.length;rw[decide_eq_false (by omega),cond_false,if_pos g];have key:A3 (Ad (GJ (a++t,((a.length:Int),k))) (0,0)) λr=>r=(jQ (t.take k.toNat):Int):=by
  refine AQ (λ(s:Int×Int)=>0<=s.2/\s.2<=k/\s.1=(jQ (t.take s.2.toNat):Int)) (λs=>(k-s.2).toNat) ⟨Ak _,by dsimp only;omega,by simp[jQ]⟩ ?_;rintro⟨x,c⟩ ⟨f,u,l⟩;dsimp only at f u l;subst l;unfold GJ;dsimp only;refine AC (λo=>?_) (λo=>AA (by rw[show c=k by omega]));obtain⟨b,q1,q2⟩:=ti (a:=a) (t:=t) (i:=c) f (by omega) (by omega) (by omega);rw[q1,AE];refine AC (λp=>absurd p (by have:=mW (wi (8*c));omega)) (λ_=>AA ?_);have e:wi (c+1)=c+1:=AY;have m:wi (8*c)=8*c:=AY;have n:IntKind.wrap .u64 (8*c)=8*c:=by rw[SN];omega
  have j:(t.take c.toNat).length=c.toNat:=by rw[Bh];omega
  dsimp only;rw[e,vt f (by omega) (by have:=nl (t.take c.toNat);rwa [j]at this) _ (by rw[m,n])];refine⟨⟨by omega,by omega,?_⟩,by omega⟩;rw[q2,nm,j]
 obtain⟨r,hr,rfl⟩:=key;rw[hr];rfl;rw[decide_eq_true (by omega),cond_true,if_neg g]
theorem Xd{a t:Bb}{k:Int}(h:(a.length:Int)+t.length<=2199023255552)(p:1<=k)(q:k<=8):CE (a++t,((a.length:Int),k))=if k<=t.length then some (rd (t.take k.toNat),0)else some (0,5):=by
 unfold CE;dsimp only;have f:len (a++t)=(a.length:Int)+t.length:=by grind
 rw[decide_eq_false (by omega),cond_false,decide_eq_false (by omega),cond_false,decide_eq_false (by omega),cond_false,decide_eq_false (by omega),cond_false];have m:wi (len (a++t)-(a.length:Int))=t.length:=by grind[AY]
 by_cases l:k<=t.length;rw[decide_eq_false (by omega),cond_false,if_pos l];have key:A3 (Ad (Sk (a++t,((a.length:Int),k))) (0,0)) λr=>r=(jQ (t.take k.toNat):Int):=by refine AQ (λ(s:Int×Int)=>0<=s.2/\s.2<=k/\s.1=(jQ (t.take s.2.toNat):Int)) (λs=>(k-s.2).toNat) ⟨Ak _,by dsimp only;omega,by simp[jQ]⟩ ?_;rintro⟨u,c⟩ ⟨d,n,e⟩;dsimp only at d n e;subst e;unfold Sk;dsimp only;refine AC (λg=>?_) (λg=>AA (by rw[show c=k by omega]));have⟨b,q1,q2⟩:=ti (a:=a) (t:=t) (i:=c) d (by omega) (by omega) (by omega);have o:wi (8*c)=8*c:=AY;rw[q1,AE];refine AC (λj=>absurd j (by omega)) (λ_=>AA ?_);grind[AY,vt,nl,nm]
 obtain⟨r,hr,rfl⟩:=key;rw[hr];rfl;grind
def Nl(x:Bb×Int×Int):Option Bb:=
 bif decide (x.1.length<=1099511627776)&&(decide (1<=x.2.2)&&decide (x.2.2<=8))then some (x.1++D9 x.2.1 x.2.2.toNat)else none
def J9(x:Bb×Int):Option Bb:=
 bif (x.1==[0])&&(decide (0<=x.2)&&decide (x.2<=8000))then some (List.replicate x.2.toNat 0)else none
end Go.Pm
