/- What these functions answer, part 8. Texts of the folder wip, laid in few files with shorter names by a program (wip/tools/pack.py); nothing is assumed. -/
import Derived.Test.YtacnadmajkjfbaaGreatK7
import Derived.KernelRfl
noncomputable section
set_option linter.unusedVariables false
set_option linter.unusedSimpArgs false
set_option linter.unusedSectionVars false
set_option linter.defProp false
set_option linter.unnecessarySimpa false
set_option linter.deprecated false
namespace Go.Pm
open Go Go.Ab
set_option maxHeartbeats 400000
def HS(x:FE):Prop:=x.2.length<=12/\(x.1=true\/x.2=[])
def TW(x:D6):Prop:=0<=x.1/\x.1<64/\0<=x.2.1/\x.2.1<16/\HS x.2.2.1/\HS x.2.2.2
def Jd{x:FE}:Az (DF x) λr=>r=true↔HS x:=by
 unfold DF HS
 repeat' first
   |with_reducible apply AC<;>intro a
   |with_reducible apply AQ<;>intro a
   |with_reducible apply AI<;>intro a
   |(with_reducible apply BE;try dsimp only)
   |with_reducible apply BP
   |with_reducible apply BX
   |with_reducible apply AA
 all_goals grind
def RY{x:D6}:Az (IG x) λr=>r=true↔TW x:=by
 unfold IG TW
 repeat' first
   |with_reducible apply AC<;>intro a
   |with_reducible apply AI<;>intro a
   |(with_reducible apply BE;try dsimp only)
   |with_reducible apply BP
   |with_reducible apply BX
   |with_reducible apply AA
   |(with_reducible apply AB (Jd);intro r hr)
 all_goals grind
def Oi:D6:=(0,0,(false,[]),(false,[]))
def U8(x:AD):Prop:=
 (x.2.1=1/\x.2.2.2.2.2.1=0/\x.2.2.2.2.2.2.2=[]/\1<=x.2.2.1/\x.2.2.1<=1073741824/\TW x.2.2.2.2.2.2.1)\/
 (x.2.1=2/\0<x.2.2.2.1/\1<=x.2.2.2.2.2.1/\x.2.2.2.2.2.1<=x.2.2.2.1/\x.2.2.2.2.2.2.2=[]/\1<=x.2.2.1/\x.2.2.1<=1073741824/\TW x.2.2.2.2.2.2.1)\/
 ((x.2.1=3\/x.2.1=4\/x.2.1=5)/\0<x.2.2.2.1/\x.2.2.2.2.1=0/\x.2.2.2.2.2.1=0/\x.2.2.2.2.2.2.1=Oi/\x.2.2.2.2.2.2.2=[]/\1<=x.2.2.1/\x.2.2.1<=1073741824)\/
 ((x.2.1=6\/x.2.1=8)/\x.2.2.1=0/\x.2.2.2.1=0/\x.2.2.2.2.1=0/\x.2.2.2.2.2.1=0/\x.2.2.2.2.2.2.1=Oi/\x.2.2.2.2.2.2.2.length<=8192)\/
 (x.2.1=7/\x.2.2.1=0/\x.2.2.2.1=0/\x.2.2.2.2.1=0/\0<=x.2.2.2.2.2.2.1.1/\x.2.2.2.2.2.2.1.1<64/\x.2.2.2.2.2.2.1.2=Oi.2/\x.2.2.2.2.2.2.2=[])
def OE(x:AD):Prop:=1<=x.1/\x.1<=1099511627776/\0<=x.2.2.2.1/\x.2.2.2.1<x.1/\0<=x.2.2.2.2.1/\x.2.2.2.2.1<x.1/\0<=x.2.2.2.2.2.1/\x.2.2.2.2.2.1<x.1/\U8 x
def Xf{x:Int×Int}:Az (GW x) λr=>r=true↔0<=x.1/\x.1<x.2:=by
 unfold GW;repeat' with_reducible first|apply AC<;>intro a|apply AI<;>intro a|apply AA
 all_goals grind
def ZC{x:AD}:Az (KW x) λr=>(r.2=true/\r.1=x)↔U8 x:=by
 obtain⟨a,b,c,d,e,f,⟨g,h,⟨i,j⟩,k,l⟩,m⟩:=x;unfold KW U8 Oi;dsimp only
 repeat' first
   |with_reducible apply AC<;>intro n
   |with_reducible apply AQ<;>intro n
   |with_reducible apply AI<;>intro n
   |(with_reducible apply BE;try dsimp only)
   |with_reducible apply BP
   |with_reducible apply BX
   |with_reducible apply AA
   |(with_reducible apply AB (RY);intro r hr)
 all_goals grind
def CA{x:AD}:Az (Ck x) λr=>r=true↔OE x:=by
 unfold Ck;refine AB ZC λn A=>?_;have e:((n.1.1==x.1)&&((n.1.2.1==x.2.1)&&((n.1.2.2.1==x.2.2.1)&&((n.1.2.2.2.1==x.2.2.2.1)&&((n.1.2.2.2.2.1==x.2.2.2.2.1)&&((n.1.2.2.2.2.2.1==x.2.2.2.2.2.1)&&((n.1.2.2.2.2.2.2.1.1==x.2.2.2.2.2.2.1.1)&&((n.1.2.2.2.2.2.2.1.2.1==x.2.2.2.2.2.2.1.2.1)&&((n.1.2.2.2.2.2.2.1.2.2.1.1==x.2.2.2.2.2.2.1.2.2.1.1)&&((n.1.2.2.2.2.2.2.1.2.2.1.2==x.2.2.2.2.2.2.1.2.2.1.2)&&((n.1.2.2.2.2.2.2.1.2.2.2.1==x.2.2.2.2.2.2.1.2.2.2.1)&&((n.1.2.2.2.2.2.2.1.2.2.2.2==x.2.2.2.2.2.2.1.2.2.2.2)&&((n.1.2.2.2.2.2.2.2==x.2.2.2.2.2.2.2)&&true)))))))))))))=true↔n.1=x:=by obtain⟨⟨a,b,c,d,e,f,⟨g,h,⟨i,j⟩,k,l⟩,m⟩,z⟩:=n;obtain⟨p,q,s,t,u,v,⟨w,y,⟨B,C⟩,D,E⟩,F⟩:=x;simp[and_assoc]
 generalize ((n.1.1==x.1)&&_)=bb at e⊢;unfold OE
 repeat' first
   |with_reducible apply AC<;>intro o
   |with_reducible apply AQ<;>intro o
   |with_reducible apply AI<;>intro o
   |(with_reducible apply BE;try dsimp only)
   |with_reducible apply BP
   |with_reducible apply BX
   |with_reducible apply AA
   |(with_reducible apply AB (Xf);intro r hr)
 all_goals grind
def EP{x:Aj}:Az (CW x) λr=>r=wi (wi (x.1+len x.2.1)-1):=by
 unfold CW;repeat' with_reducible first|apply AA
 all_goals grind
def D0(x:Aj):Prop:=1<=x.1/\x.1<=1099511627776/\x.2.1.length<=4096/\x.1-1<=x.2.2/\x.2.2<=x.1+x.2.1.length-1/\ ∀(i:Nat) (e:AD),x.2.1[i]? =some e->e.1=x.1+i/\OE e
def VV{x:Aj}{s:Int}(h:0<=s/\s<=x.2.1.length/\x.2.1.length<=4096/\1<=x.1/\x.1<=1099511627776/\ ∀(i:Nat) (e:AD),i<s->x.2.1[i]? =some e->e.1=x.1+i/\OE e):Az (Ad (MD x) s) λr=>(r= .inl false/\ ¬D0 x)\/(r= .inr ()/\ ∀(i:Nat) (e:AD),x.2.1[i]? =some e->e.1=x.1+i/\OE e):=by
 refine AM (λ(s:Int)=>0<=s/\s<=x.2.1.length/\x.2.1.length<=4096/\1<=x.1/\x.1<=1099511627776/\ ∀(i:Nat) (e:AD),i<s->x.2.1[i]? =some e->e.1=x.1+i/\OE e) (λ(s:Int)=>((x.2.1.length:Int)-s).toNat) h (λs b=>?_);unfold MD;obtain⟨c,d,f,g,j,k⟩:=b;repeat' with_reducible first|apply AC<;>intro a|apply AO<;>intro a|apply AL<;>intro a|apply AI<;>intro a|apply AA|(apply AB (CA);intro r hr)|(refine AJ ?_ (AE ?_ ?_);rintro r ⟨hr,l⟩)
 all_goals try (first|omega|grind[AW,D0])
def Bp{x:Aj}:Az (CK x) λr=>r=true↔D0 x:=by
 unfold CK;repeat' with_reducible first|apply AC<;>intro a|apply AI<;>intro a|(apply BF;try dsimp only)|(apply BC;try dsimp only)|(apply A2<;>(intro u b;try subst b))|apply AA|(apply AB (EP);intro r hr)|(refine AJ ?_ (VV ?_);intro r hr)
 all_goals try (first|omega|grind[AW,D0])
def je(x:A8):Prop:=0<=x.1/\x.1<64/\0<=x.2.1/\x.2.1<=1099511627776/\ ∀i,HS (x.2.2 i)/\(x.2.1=0->(x.2.2 i).1=false)
def Pu{x:A8}:Az (HD x) λr=>r=true↔0<=x.1/\x.1<64/\0<=x.2.1/\x.2.1<=1099511627776:=by
 unfold HD;repeat' with_reducible first|apply AC<;>intro a|apply AI<;>intro a|apply AA
 all_goals grind
def VQ{x:A8}{s:Int}(h:0<=s/\s<=16/\ ∀i:Fin 16,(i.val:Int)<s->HS (x.2.2 i)/\(x.2.1=0->(x.2.2 i).1=false)):Az (Ad (L5 x) s) λr=>(r= .inl false/\ ¬ ∀i,HS (x.2.2 i)/\(x.2.1=0->(x.2.2 i).1=false))\/(r= .inr ()/\ ∀i,HS (x.2.2 i)/\(x.2.1=0->(x.2.2 i).1=false)):=by
 refine AM (λ(s:Int)=>0<=s/\s<=16/\ ∀i:Fin 16,(i.val:Int)<s->HS (x.2.2 i)/\(x.2.1=0->(x.2.2 i).1=false)) (λ(s:Int)=>(16-s).toNat) h (λs b=>?_);unfold L5;repeat' with_reducible first|apply AC<;>intro a|apply AO<;>intro a|apply AQ<;>intro a|apply AI<;>intro a|apply AA|(apply AB (Jd);intro r hr)|(refine AJ ?_ (Dh ?_ ?_);intro r hr)
 all_goals ((try dsimp[len]at*);(try first|omega|assumption|grind[AW]))
def RW{x:A8}:Az (IE x) λr=>r=true↔ ∀i,HS (x.2.2 i)/\(x.2.1=0->(x.2.2 i).1=false):=by
 unfold IE;repeat' with_reducible first|(apply BF;try dsimp only)|(apply BC;try dsimp only)|(apply A2<;>(intro u a;try subst a))|apply AA|(refine AJ ?_ (VQ ?_);intro r hr)
 all_goals first|omega|grind
def Y8{x:A8}:Az (KT x) λr=>r=true↔je x:=by
 unfold KT je
 repeat' first
   |with_reducible apply AI<;>intro a
   |with_reducible apply AA
   |(with_reducible apply AB (Pu);intro r hr)
   |(with_reducible apply AB (RW);intro r hr)
 all_goals grind
def HC{x:A8}:Az (Ed x) λr=>r=0->je x:=by
 unfold Ed je
 repeat' first
   |with_reducible apply AO<;>intro a
   |with_reducible apply AA
   |(with_reducible apply AB (Pu);intro r hr)
   |(with_reducible apply AB (RW);intro r hr)
 all_goals grind
def iG(f:A0):Prop:=je f.1/\(f.2.1=true->1<=f.2.2.1/\f.2.2.1<=f.1.2.1)/\(f.2.1=false->f.2.2.1=0)
def JY(l:List A0)(n:Int):Prop:=(∀(i:Nat) (f:A0),i<n->l[i]? =some f->iG f)/\ ∀(i j:Nat) (f g:A0),i<j->j<n->l[i]? =some f->l[j]? =some g->f.1.1≠g.1.1
def OF(x:BY):Prop:=1<=x.1/\x.1<=64/\x.2.1.length<=x.1/\0<=x.2.2/\(x.2.1.length=0/\x.2.2=0\/x.2.2<x.2.1.length)/\JY x.2.1 x.2.1.length
theorem JY.step{l:List A0}{n:Int}{f:A0}(e:0<=n)(h:JY l n)(o:l[n.toNat]? =some f)(r:iG f)(m: ∀(j:Nat) (g:A0),j<n->l[j]? =some g->g.1.1≠f.1.1):JY l (n+1):=by
 refine⟨λi g p b=>?_,λi j g k c q b d=>?_⟩;rcases di i n with a|a;exact h.1 i g a b;grind;rcases di j n with a|a;exact h.2 i j g k c a b d;have:j=n.toNat:=by omega
 grind
theorem jB{l:List A0}{n:Int}{f:A0}(c:0<=n)(d:n<l.length)(a:l[n.toNat]? =some f)(b: ¬iG f): ¬JY l l.length:=λh=>b (h.1 n.toNat f (by omega) a)
theorem jC{l:List A0}{n:Int}{f:A0}(e:0<=n)(i:n<l.length)(d:l[n.toNat]? =some f)(c: ∃(j:Nat) (g:A0),j<n/\l[j]? =some g/\g.1.1=f.1.1): ¬JY l l.length:=λh=>by have⟨j,g,k,a,b⟩:=c;exact h.2 j n.toNat g f (by omega) (by omega) a d b
def Hf{x:BY}{a:Int}{b:A0}{s:Int}(h:0<=s/\s<=a/\a<=x.2.1.length/\(x.2.1.length:Int)<=16777216/\ ∀(j:Nat) (g:A0),j<s->x.2.1[j]? =some g->g.1.1≠b.1.1):Az (Ad (FZ x a b) s) λr=>(r= .inl false/\ ∃(j:Nat) (g:A0),j<a/\x.2.1[j]? =some g/\g.1.1=b.1.1)\/(r= .inr ()/\ ∀(j:Nat) (g:A0),j<a->x.2.1[j]? =some g->g.1.1≠b.1.1):=by
 refine AM (λ(s:Int)=>0<=s/\s<=a/\a<=x.2.1.length/\(x.2.1.length:Int)<=16777216/\ ∀(j:Nat) (g:A0),j<s->x.2.1[j]? =some g->g.1.1≠b.1.1) (λ(s:Int)=>(a-s).toNat) h (λs d=>?_);unfold FZ;repeat' with_reducible first|apply AC<;>intro c|apply AQ<;>intro c|apply AI<;>intro c|apply AA|(refine AJ ?_ (AE ?_ ?_);rintro r ⟨hr,e⟩)
 all_goals ((try dsimp[len]at*);(try first|omega|assumption|grind[AW]))
def Va{x:BY}{s:Int}(h:0<=s/\s<=x.2.1.length/\(x.2.1.length:Int)<=16777216/\JY x.2.1 s):Az (Ad (MI x) s) λr=>(r= .inl false/\ ¬JY x.2.1 x.2.1.length)\/(r= .inr ()/\JY x.2.1 x.2.1.length):=by
 refine AM (λ(s:Int)=>0<=s/\s<=x.2.1.length/\(x.2.1.length:Int)<=16777216/\JY x.2.1 s) (λ(s:Int)=>((x.2.1.length:Int)-s).toNat) h (λs d=>?_);unfold MI;repeat' with_reducible first|apply AC<;>intro a|apply AO<;>intro a|apply AL<;>intro a|apply AI<;>intro a|(apply BF;try dsimp only)|(apply BC;try dsimp only)|(apply A2<;>(intro u c;try subst c))|apply AA|(apply AB (Y8);intro r hr)|(refine AJ ?_ (Hf ?_);intro r hr)|(refine AJ ?_ (Hf ?_);intro r hr)|(refine AJ ?_ (Hf ?_);intro r hr)|(refine AJ ?_ (Hf ?_);intro r hr)|(refine AJ ?_ (AE ?_ ?_);rintro r ⟨hr,f⟩)
 all_goals try (have e:=AW (x:=s+1))
 all_goals first|omega|(exact⟨by omega,by omega,by omega,by omega,λj g b=>absurd b (by omega)⟩)|grind[JY.step,jB,jC,iG]
def JY.zero(l:List A0):JY l 0:=⟨λi f h=>absurd h (by omega),λi j f g h a=>absurd a (by omega)⟩
def ABr(n h:Int)(a:0<=n)(b:n<=64):(h>if wi (n-1)>0 then wi (n-1)else 0)↔ ¬(n=0/\h<=0\/h<n):=by grind[AW]
def EB{x:BY}:Az (DG x) λr=>r=true↔OF x:=by
 unfold DG OF
 repeat' first
   |with_reducible apply AC<;>intro b
   |(with_reducible apply A2<;>(intro u a;try subst a))
   |with_reducible apply AA
   |(with_reducible refine AJ ?_ (Va ?_);intro r hr)
 all_goals try dsimp[len]at*
 all_goals first
  |(exact⟨by omega,by omega,by omega,JY.zero _⟩)
  |(have c:=ABr (x.2.1.length) x.2.2 (by omega) (by omega);grind)
  |grind
def M7{x:Ao}:Az (Gs x) λr=>True:=by
 unfold Gs;repeat' with_reducible first|apply AC<;>intro a|apply AQ<;>intro a|apply AI<;>intro a|apply AA
 all_goals ((try dsimp[len]at*);(try first|omega|assumption|grind[AW]))
def SC{x:Ao×Ao}:Az (FA x) λr=>True:=by
 unfold FA;repeat' with_reducible first|apply AC<;>intro a|apply AL<;>intro a|apply AI<;>intro a|apply AA
 all_goals ((try dsimp[len]at*);(try first|omega|assumption|grind[AW]))
def GC{x:Ao×Ao}:Az (Dv x) λr=>True:=by
 unfold Dv;repeat' with_reducible first|apply AQ<;>intro a|apply AL<;>intro a|apply AI<;>intro a|apply AA
 all_goals ((try dsimp[len]at*);(try first|omega|assumption|grind[AW]))
def WL{x:Aw×Int×Cl}{s:Int}(h:0<=s/\s<=x.1.1.length/\(x.1.1.length:Int)<=16777216):Az (Ad (NA x) s) λr=>True:=by
 refine AM (λ(s:Int)=>0<=s/\s<=x.1.1.length/\(x.1.1.length:Int)<=16777216) (λ(s:Int)=>((x.1.1.length:Int)-s).toNat) h (λs b=>?_);unfold NA;repeat' with_reducible first|apply AC<;>intro a|apply AQ<;>intro a|apply AI<;>intro a|apply AA|(refine AJ ?_ (AE ?_ ?_);rintro r ⟨hr,c⟩)
 all_goals ((try dsimp[len]at*);(try first|omega|assumption|grind[AW]))
def He{x:Aw×Int×Cl}(h:x.1.1.length<=16777216):Az (Dw x) λr=>True:=by
 unfold Dw;repeat' with_reducible first|(apply BF;try dsimp only)|(apply BC;try dsimp only)|(apply A2<;>(intro u a;try subst a))|apply AA|(refine AJ ?_ (WL ?_);intro r hr)
 all_goals ((try dsimp[len]at*);(try first|omega|assumption|grind[AW]))
def F7(x:Aw):Prop:=x.1.length<=16777216/\x.2.length<=16777216
def PH{x:Aw}{a:Int}{s:Int}(h:s<a/\ -1<=s/\0<=a/\a<x.1.length/\x.1.length<=16777216):Az (Ad (Ie x a) s) λr=>r≠ .inl true:=by
 refine AM (λ(s:Int)=>s<a/\ -1<=s/\0<=a/\a<x.1.length/\x.1.length<=16777216) (λ(s:Int)=>(s+1).toNat) h (λs c=>?_);unfold Ie;repeat' with_reducible first|apply AC<;>intro b|apply AQ<;>intro b|apply AI<;>intro b|apply AA|(apply AB (GC);intro r hr)|(refine AJ ?_ (AE ?_ ?_);rintro r ⟨hr,d⟩)
 all_goals ((try dsimp[len]at*);(try first|omega|assumption|grind[AW]))
def VW{x:Aw}{s:Int}(h:0<=s/\s<=x.1.length/\(x.1.length:Int)<=16777216):Az (Ad (ME x) s) λr=>r≠ .inl true:=by
 refine AM (λ(s:Int)=>0<=s/\s<=x.1.length/\(x.1.length:Int)<=16777216) (λ(s:Int)=>((x.1.length:Int)-s).toNat) h (λs c=>?_);unfold ME;repeat' with_reducible first|apply AC<;>intro a|apply AO<;>intro a|apply AI<;>intro a|(apply BF;try dsimp only)|(apply BC;try dsimp only)|(apply A2<;>(intro u b;try subst b))|apply AA|(apply AB (M7);intro r hr)|(apply AB (SC);intro r hr)|(refine AJ ?_ (PH ?_);intro r hr)|(refine AJ ?_ (PH ?_);intro r hr)|(refine AJ ?_ (AE ?_ ?_);rintro r ⟨hr,d⟩)
 all_goals ((try dsimp[len]at*);(try first|omega|assumption|grind[AW]|((try simp (disch:=omega) only[AW,len]at*)<;>(try intros)<;>(try and_intros)<;>(try intros)<;>(first|omega|assumption|grind))))
def VY{x:Aw}{a:Int}{b:Ao}{s:Int}(h:0<=s/\s<=a/\(a:Int)<=16777216/\a<=x.2.length):Az (Ad (MG x a b) s) λr=>r≠ .inl true:=by
 refine AM (λ(s:Int)=>0<=s/\s<=a/\(a:Int)<=16777216/\a<=x.2.length) (λ(s:Int)=>((a:Int)-s).toNat) h (λs d=>?_);unfold MG;repeat' with_reducible first|apply AC<;>intro c|apply AQ<;>intro c|apply AI<;>intro c|apply AA|(refine AJ ?_ (AE ?_ ?_);rintro r ⟨hr,e⟩)
 all_goals ((try dsimp[len]at*);(try first|omega|assumption|grind[AW]))
def VX{x:Aw}{s:Int}(h:0<=s/\s<=x.2.length/\(x.2.length:Int)<=16777216/\x.1.length<=16777216):Az (Ad (MF x) s) λr=>r≠ .inl true:=by
 refine AM (λ(s:Int)=>0<=s/\s<=x.2.length/\(x.2.length:Int)<=16777216/\x.1.length<=16777216) (λ(s:Int)=>((x.2.length:Int)-s).toNat) h (λs c=>?_);unfold MF;repeat' with_reducible first|apply AC<;>intro a|apply AO<;>intro a|apply AI<;>intro a|(apply BF;try dsimp only)|(apply BC;try dsimp only)|(apply A2<;>(intro u b;try subst b))|apply AA|(apply AB (M7);intro r hr)|(refine AJ ?_ (He ?_);intro r hr)|(refine AJ ?_ (VY ?_);intro r hr)|(refine AJ ?_ (AE ?_ ?_);rintro r ⟨hr,d⟩)
 all_goals ((try dsimp[len]at*);(try first|omega|assumption|grind[AW]))
def W3(x:Aw):Prop:=x.1.length+x.2.length<=1024
def Ew{x:Aw}(h:F7 x):Az (Di x) λr=>r=true->W3 x:=by
 unfold Di W3;unfold F7 at h
 repeat' first
   |with_reducible apply AC<;>intro b
   |(with_reducible apply A2<;>(intro u a;try subst a))
   |with_reducible apply AA
   |(with_reducible refine AJ ?_ (VW ?_);intro r hr)
   |(with_reducible refine AJ ?_ (VX ?_);intro r hr)
 all_goals ((try dsimp[len]at*);(try first|omega|assumption|grind[AW]))
def yF(x:Ah):Prop:=x.2.2.2.2.1.length<=4096/\x.2.2.2.2.2.length<=8/\1<=x.1
def V2(x:List Ah):Prop:=x.length<=64/\ ∀(i:Nat) (t:Ah),x[i]? =some t->yF t
def PI{x:Ah}{s:Int}(h:0<=s/\s<=x.2.2.2.2.1.length/\(x.2.2.2.2.1.length:Int)<=16777216):Az (Ad (Ii x) s) λr=>r≠ .inl true:=by
 refine AM (λ(s:Int)=>0<=s/\s<=x.2.2.2.2.1.length/\(x.2.2.2.2.1.length:Int)<=16777216) (λ(s:Int)=>((x.2.2.2.2.1.length:Int)-s).toNat) h (λs b=>?_);unfold Ii;repeat' with_reducible first|apply AC<;>intro a|apply AI<;>intro a|apply AA|(refine AJ ?_ (AE ?_ ?_);rintro r ⟨hr,c⟩)
 all_goals ((try dsimp[len]at*);(try first|omega|assumption|grind[AW]|((try simp (disch:=omega) only[AW,len]at*)<;>(try intros)<;>(try and_intros)<;>(try intros)<;>(first|omega|assumption|grind))))
def PJ{x:Ah}{s:Int}(h:0<=s/\s<=x.2.2.2.2.2.length/\(x.2.2.2.2.2.length:Int)<=16777216):Az (Ad (Ij x) s) λr=>r≠ .inl true:=by
 refine AM (λ(s:Int)=>0<=s/\s<=x.2.2.2.2.2.length/\(x.2.2.2.2.2.length:Int)<=16777216) (λ(s:Int)=>((x.2.2.2.2.2.length:Int)-s).toNat) h (λs b=>?_);unfold Ij;repeat' with_reducible first|apply AC<;>intro a|apply AI<;>intro a|apply AA|(refine AJ ?_ (AE ?_ ?_);rintro r ⟨hr,c⟩)
 all_goals ((try dsimp[len]at*);(try first|omega|assumption|grind[AW]|((try simp (disch:=omega) only[AW,len]at*)<;>(try intros)<;>(try and_intros)<;>(try intros)<;>(first|omega|assumption|grind))))
def ZJ{x:Ah}:Az (Kf x) λr=>r=true->yF x:=by
 unfold Kf yF
 repeat' first
   |with_reducible apply AC<;>intro a
   |with_reducible apply AL<;>intro a
   |(with_reducible apply A2<;>(intro u b;try subst b))
   |with_reducible apply AA
   |(with_reducible refine AJ ?_ (PI ?_);intro r hr)
   |(with_reducible refine AJ ?_ (PJ ?_);intro r hr)
   |(with_reducible refine AJ ?_ (PI ?_);intro r hr)
   |(with_reducible refine AJ ?_ (PJ ?_);intro r hr)
 all_goals ((try dsimp[len]at*);(try first|omega|assumption|grind[AW]))
def Vd{x:List Ah}{s:Int}(h:0<=s/\s<=x.length/\(x.length:Int)<=16777216/\ ∀(i:Nat) (t:Ah),i<s->x[i]? =some t->yF t):Az (Ad (MK x) s) λr=>r= .inl false\/(r= .inr ()/\ ∀(i:Nat) (t:Ah),x[i]? =some t->yF t):=by
 refine AM (λ(s:Int)=>0<=s/\s<=x.length/\(x.length:Int)<=16777216/\ ∀(i:Nat) (t:Ah),i<s->x[i]? =some t->yF t) (λ(s:Int)=>((x.length:Int)-s).toNat) h (λs b=>?_);unfold MK;repeat' with_reducible first|apply AC<;>intro a|apply AO<;>intro a|apply AI<;>intro a|apply AA|(apply AB (ZJ);intro r hr)|(refine AJ ?_ (AE ?_ ?_);rintro r ⟨hr,c⟩)
 all_goals ((try dsimp[len]at*);(try first|omega|assumption|grind[AW]|((try simp (disch:=omega) only[AW,len]at*)<;>(try intros)<;>(try and_intros)<;>(try intros)<;>(first|omega|assumption|grind))))
def De{x:List Ah}:Az (Dk x) λr=>r=true->V2 x:=by
 unfold Dk V2
 repeat' first
   |with_reducible apply AC<;>intro b
   |(with_reducible apply A2<;>(intro u a;try subst a))
   |with_reducible apply AA
   |(with_reducible refine AJ ?_ (Vd ?_);intro r hr)
 all_goals ((try dsimp[len]at*);(try first|omega|assumption|grind[AW]))
def fE(x:BW):Prop:=1<=x.length/\x.length<=64
def cJ{x:Int}:Az (Gg x) λr=>True:=by
 unfold Gg;repeat' with_reducible first|apply AC<;>intro a|apply AI<;>intro a|apply AA
 all_goals ((try dsimp[len]at*);(try first|omega|assumption|grind[AW]))
def Vb{x:BW}{s:Int}(h:0<=s/\s<=x.length/\(x.length:Int)<=16777216):Az (Ad (Ig x) s) λr=>r≠ .inl true:=by
 refine AM (λ(s:Int)=>0<=s/\s<=x.length/\(x.length:Int)<=16777216) (λ(s:Int)=>((x.length:Int)-s).toNat) h (λs b=>?_);unfold Ig;repeat' with_reducible first|apply AC<;>intro a|apply AO<;>intro a|apply AQ<;>intro a|apply AL<;>intro a|apply AI<;>intro a|apply AA|(apply AB (cJ);intro r hr)|(refine AJ ?_ (AE ?_ ?_);rintro r ⟨hr,c⟩)
 all_goals ((try dsimp[len]at*);(try first|omega|assumption|grind[AW]))
def Fz{x:BW}:Az (Dj x) λr=>r=true->fE x:=by
 unfold Dj fE
 repeat' first
   |with_reducible apply AC<;>intro b
   |(with_reducible apply A2<;>(intro u a;try subst a))
   |with_reducible apply AA
   |(with_reducible refine AJ ?_ (Vb ?_);intro r hr)
 all_goals ((try dsimp[len]at*);(try first|omega|assumption|grind[AW]))
def Sa{x:List AZ×Int}{s:Int}(h:0<=s/\s<=x.1.length/\(x.1.length:Int)<=16777216):Az (Ad (Gl x) s) λr=>r≠ .inl true:=by
 refine AM (λ(s:Int)=>0<=s/\s<=x.1.length/\(x.1.length:Int)<=16777216) (λ(s:Int)=>((x.1.length:Int)-s).toNat) h (λs b=>?_);unfold Gl;repeat' with_reducible first|apply AC<;>intro a|apply AI<;>intro a|apply AA|(refine AJ ?_ (AE ?_ ?_);rintro r ⟨hr,c⟩)
 all_goals ((try dsimp[len]at*);(try first|omega|assumption|grind[AW]|((try simp (disch:=omega) only[AW,len]at*)<;>(try intros)<;>(try and_intros)<;>(try intros)<;>(first|omega|assumption|grind))))
def OQ{x:List AZ×Int}(h:x.1.length<=16777216):Az (Ey x) λr=>True:=by
 unfold Ey;repeat' with_reducible first|(apply BF;try dsimp only)|(apply BC;try dsimp only)|(apply A2<;>(intro u a;try subst a))|apply AA|(refine AJ ?_ (Sa ?_);intro r hr)
 all_goals ((try dsimp[len]at*);(try first|omega|assumption|grind[AW]))
theorem FV{b:Type}{l:List b}{i:Nat}{a:b}(h:l[i]? =some a):i<l.length:=by grind
def rP(p:Int)(e:AD):Bool:=((e.2.1==1)||(e.2.1==2))&&(e.2.2.2.2.2.2.1.1==p)
def GM(L:List AD)(p:Int):Int:=L.foldl (λa e=>if rP p e then e.1 else a) 0
def TO(L:List AD)(e:AD)(p:Int):GM (L++[e]) p=if rP p e then e.1 else GM L p:=by simp only[GM,YI,YJ,List.foldl_nil]
def pX(n:Int)(L:List AD)(D:List AZ)(R:List DX):Prop:=
 ∀p,0<=p->p<n->(∀d∈D,d.1=p->d.2.2=GM L p)/\ ∀r,R[p.toNat]? =some r->r.1<=GM L p/\((∀d∈D,d.1≠p)->r.1=GM L p)
def KP(n:Int)(L:List AD)(F:List A0)(D:List AZ)(R:List DX):Prop:=
 ∀p,0<=p->p<n->(∀f∈F,f.1.1=p->f.1.2.1=GM L p)/\(∀d∈D,d.1=p->d.2.2=GM L p)/\
  ∀r,R[p.toNat]? =some r->r.1<=GM L p/\((∀d∈D,d.1≠p)->(∀f∈F,f.1.1=p->f.2.1=false)->r.1=GM L p)
def EOK(n:Int)(M:List AD)(e:AD):Prop:=
 (e.2.1=1\/e.2.1=2->e.2.2.2.2.1=GM M e.2.2.2.2.2.2.1.1)/\(e.2.1=7->e.2.2.2.2.2.1=GM M e.2.2.2.2.2.2.1.1)/\
  (e.2.1=6-> ∀c,C2 e.2.2.2.2.2.2.2=some (c,0)->c.1=n->pX n M c.2.2.2.1 c.2.2.2.2)
def LI(n:Int)(L:List AD):Prop:= ∀(i:Nat) (e:AD),L[i]? =some e->EOK n (L.take i) e
def LI.nil(n:Int):LI n []:=λi e h=>by simp at h
def LI.app{n:Int}{L:List AD}{e:AD}(h:LI n L)(c:EOK n L e):LI n (L++[e]):=by intro i f a;rcases O7 i L.length with b|b|b;rw[B6 b]at a;rw[fJ (by omega)];exact h i f a;grind;rw[Cs (by simp;omega)]at a;cases a
def LI.pre{n:Int}{L T:List AD}(h:LI n (L++T)):LI n L:=by intro i f a;have:=h i f (by grind);grind
def FD(n:Int)(F:List A0)(D:List AZ):Prop:= ∀f∈F,0<=f.1.1/\f.1.1<n/\ ∀d∈D,d.1≠f.1.1
def KI(k:AP):Prop:=LI k.1 k.2.2.1.2.1/\KP k.1 k.2.2.1.2.1 k.2.2.2.1.2.1 k.2.2.2.2.2.2.2 k.2.2.2.2.2.2.1/\FD k.1 k.2.2.2.1.2.1 k.2.2.2.2.2.2.2
def FD.sub{n:Int}{F G:List A0}{D:List AZ}(h:FD n F D)(a: ∀g∈G,∃f∈F,f.1.1=g.1.1/\f.1.2.1=g.1.2.1):FD n G D:=by intro g c;obtain⟨f,b,e,_⟩:=a g c;rw[<-e];exact h f b
def ld{p b:Int}: ∀(L:List AD) (a:Int),a<b->(∀e∈L,e.1<b)->L.foldl (λa e=>if rP p e then e.1 else a) a<b
 |[],a,ha,_=>ha
 |e::L,a,ha,h=>by refine ld L _ ?_ λf c=>h f (CD _ c);show(if rP p e=true then e.1 else a)<b;split;exact h e JK;exact ha
def uz{l:Aj}(h:D0 l)(p:Int):GM l.2.1 p<l.1+l.2.1.length:=by obtain⟨b,_,_,_,_,c⟩:=h;refine ld _ _ (by omega) λe a=>?_;obtain⟨i,d⟩:=Es a;grind
def KP.app{n:Int}{L:List AD}{F:List A0}{D:List AZ}{R:List DX}{e:AD}(h:KP n L F D R)(a:e.2.1≠1/\e.2.1≠2):KP n (L++[e]) F D R:=by
 intro p c d;have b:GM (L++[e]) p=GM L p:=by
  rw[TO];have:rP p e=false:=by simp[rP,a.1,a.2]
  grind
 rw[b];exact h p c d
def KP.frames{n:Int}{L:List AD}{F G:List A0}{D:List AZ}{R:List DX}(h:KP n L F D R)
  (m: ∀g∈G,∃f∈F,f.1.1=g.1.1/\f.1.2.1=g.1.2.1) (o: ∀f∈F,f.2.1=true-> ∃g∈G,g.1.1=f.1.1/\g.2.1=true):KP n L G D R:=by
 intro p w x;obtain⟨a,b,c⟩:=h p w x;refine⟨λg v e=>?_,b,λr hr=>⟨(c r hr).1,λt u=>(c r hr).2 t λf d e=>?_⟩⟩;obtain⟨f,d,j,k⟩:=m g v;rw[<-k];exact a f d (j.trans e);cases s:f.2.1 with
 |false=>rfl
 |true=>obtain⟨g,q,l,i⟩:=o f d s;rw[u g q (l.trans e)]at i;cases i
def KP.written{n:Int}{L:List AD}{F G:List A0}{D:List AZ}{R:List DX}{q d:Int}{w:DX}(h:KP n L F D R)(q0:0≤q)(A:d=GM L q)(B:q<n)
  (s: ∀g∈G,∃f∈F,f.1.1=g.1.1/\f.1.2.1=g.1.2.1) (t: ∀f∈F,f.1.1≠q->f∈G) (l:R[q.toNat]? =some w):
  KP n L G D (R.set q.toNat ((if d>w.1 then d else w.1),w.2)):=by
 intro p y z;obtain⟨a,b,c⟩:=h p y z;refine⟨λg x e=>?_,b,λr hr=>?_⟩;obtain⟨f,i,m,o⟩:=s g x;rw[<-o];exact a f i (m.trans e);by_cases k:p=q;subst k;have j:p.toNat<R.length:=by rcases Ap p.toNat R.length with h|h;exact h;rw[Cs h]at l;cases l
 rw[G9 j]at hr;have:=(c w l).1;have e:r.1=GM L p:=by rw[<-Ch hr];dsimp only;split<;>omega
 exact⟨by omega,λ_ _=>e⟩;rw[D1 (by omega)]at hr;refine⟨(c r hr).1,λu v=>(c r hr).2 u λf i e=>?_⟩;exact v f (t f i (by omega)) e
def uR{F:List A0}{i:Nat}{f n:A0}(a:F[i]? =some f)(hn:n.1=f.1): ∀g∈F.set i n,∃f∈F,f.1.1=g.1.1/\f.1.2.1=g.1.2.1:=by grind
def pQ{F:List A0}{i:Nat}{f n:A0}(c:F[i]? =some f): ∀g∈F,g.1.1≠f.1.1->g∈F.set i n:=by intro g a b;obtain⟨j,d⟩:=Es a;apply BJ (i:=j);grind
def KP.change{n:Int}{L:List AD}{F:List A0}{D:List AZ}{R:List DX}{e:AD}{i:Nat}{f g:A0}(h:KP n L F D R)(C:FD n F D)
  (s:e.2.1=1\/e.2.1=2) (v:F[i]? =some f) (G:f.1.1=e.2.2.2.2.2.2.1.1) (A:g.1.1=f.1.1) (x:g.1.2.1=e.1) (y:g.2.1=true)
  (H: ∀j k,F[j]? =some k->k.1.1=f.1.1->j=i) (E:GM L f.1.1<e.1):KP n (L++[e]) (F.set i g) D R:=by
 have u:i<F.length:=by rcases Ap i F.length with h|h;exact h;rw[Cs h]at v;cases v
 have z:g∈F.set i g:=BJ (i:=i) (G9 u);intro p I J;obtain⟨a,b,c⟩:=h p I J;have B:rP p e=(f.1.1==p):=by rw[G];unfold rP;rcases s with h|h<;>simp[h]
 rw[TO,B];by_cases t:f.1.1=p;subst t;rw[beq_self_eq_true,if_pos rfl];refine⟨λk s l=>?_,λd m l=>absurd l ((C f (BJ v)).2.2 d m),λr hr=>⟨by have:=(c r hr).1;omega,λ_ o=>?_⟩⟩;obtain⟨j,w⟩:=Es s;by_cases q:j=i;subst q;rw[G9 u]at w;rw[<-Ch w];exact x;rw[D1 (λh=>q h.symm)]at w;exact absurd (H j k w l) q;have:=o g z A;rw[y]at this;cases this;rw[if_neg (by simpa using t)];refine⟨λk s l=>?_,b,λr hr=>⟨(c r hr).1,λm o=>(c r hr).2 m λk s l=>?_⟩⟩;rcases Nk s with h|h;exact a k h l;subst h;exact absurd (A.symm.trans l) t;exact o k (pQ v k s (by omega)) l
def FD.set{n:Int}{F:List A0}{D:List AZ}{i:Nat}{f g:A0}(h:FD n F D)(b:F[i]? =some f)(c:g.1.1=f.1.1):FD n (F.set i g) D:=by intro k d;rcases Nk d with a|a;exact h k a;subst a;rw[c];exact h f (BJ b)
def KP.supply{n:Int}{L:List AD}{F:List A0}{D l:List AZ}{R:List DX}{x:A8}{g:A0}(h:KP n L F D R)(y:x.2.1=GM L x.1)
  (w: ∀f∈F,f.1.1≠x.1) (t:g.1=x) (i:(g.2.1=true/\l=D.filter λd=>d.1 !=x.1)\/(g.2.1=false/\(∀d∈D,d.1≠x.1)/\l=D)):KP n L (F++[g]) l R:=by
 intro p z A;obtain⟨a,b,c⟩:=h p z A;have v: ∀d∈l,d∈D:=by rcases i with⟨_,e⟩|⟨_,_,e⟩<;>subst e;exact λd i=>(Bb.1 i).1;exact λd i=>i
 refine⟨λf j e=>?_,λd i=>b d (v d i),λr hr=>⟨(c r hr).1,λq s=>(c r hr).2 ?_ λf j=>s f (HW _ j)⟩⟩;rcases Ar.1 j with j|j;exact a f j e;rw[A3]at j;subst j;rw[t]at e⊢;rw[y,e];intro d k e;rcases i with⟨u,o⟩|⟨_,_,o⟩<;>subst o;by_cases m:p=x.1;have:=s g (by simp) (by rw[t,m]);rw[u]at this;cases this;exact q d (Bb.2 ⟨k,by simp;omega⟩) e;exact q d k e
def FD.supply{n:Int}{F:List A0}{D b:List AZ}{p:Int}{g:A0}(h:FD n F D)(j:0<=p)(k:p<n)(i:g.1.1=p)(e: ∀d∈b,d∈D)(hn: ∀d∈b,d.1≠p):FD n (F++[g]) b:=by intro f a;rcases Ar.1 a with a|a;exact⟨(h f a).1,(h f a).2.1,λd c=>(h f a).2.2 d (e d c)⟩;grind
def SB(k:AP):Prop:=F7 k.2.2.2.2.1/\k.2.2.2.2.2.1.length<=16777216/\k.2.2.2.2.2.2.2.length<=16777216
def SK(k:AP):Prop:=F7 k.2.2.2.2.1/\k.2.2.2.2.2.1.length<=16777216/\k.2.2.2.2.2.2.2.length<=16777216/\KI k
def SK.sb{k:AP}(h:SK k):SB k:=⟨h.1,h.2.1,h.2.2.1⟩
def SK.ki{k:AP}(h:SK k):KI k:=h.2.2.2
def SB.sk{k:AP}(h:SB k)(g:KI k):SK k:=⟨h.1,h.2.1,h.2.2,g⟩
def VK(k:AP):Prop:=1<=k.1/\k.1<=64/\D0 k.2.2.1/\OF k.2.2.2.1/\W3 k.2.2.2.2.1/\V2 k.2.2.2.2.2.1/\fE k.2.2.2.2.2.2.1/\k.2.2.2.2.2.2.1.length=k.1
def ZN{x:AP}(h:SB x):Az (Kj x) λr=>r=true->VK x:=by
 unfold Kj VK;unfold SB at h
 repeat' first
   |with_reducible apply AI<;>intro a
   |with_reducible apply AA
   |(with_reducible apply AB (Bp);intro r hr)
   |(with_reducible apply AB (EB);intro r hr)
   |(with_reducible refine AJ ?_ (Ew ?_);intro r hr)
   |(with_reducible apply AB (De);intro r hr)
   |(with_reducible apply AB (Fz);intro r hr)
   |(with_reducible refine AJ ?_ (OQ ?_);intro r hr)
 all_goals ((try dsimp[len]at*);(try first|omega|assumption|grind[AW]))
def Ve{x:AP×Int}{s:Int×AZ}(h:0<=s.1/\s.1<=x.1.2.2.2.2.2.2.2.length/\x.1.2.2.2.2.2.2.2.length<=16777216/\ ∀(i:Nat) (d:AZ),i<s.1->x.1.2.2.2.2.2.2.2[i]? =some d->d.1≠x.2):Az (Ad (MM x) s) λr=>(∃d∈x.1.2.2.2.2.2.2.2,r= .inl (true,d)/\d.1=x.2)\/ ∃z,r= .inr z/\ ∀d∈x.1.2.2.2.2.2.2.2,d.1≠x.2:=by
 refine AM (λ(s:Int×AZ)=>0<=s.1/\s.1<=x.1.2.2.2.2.2.2.2.length/\x.1.2.2.2.2.2.2.2.length<=16777216/\ ∀(i:Nat) (d:AZ),i<s.1->x.1.2.2.2.2.2.2.2[i]? =some d->d.1≠x.2) (λ(s:Int×AZ)=>((x.1.2.2.2.2.2.2.2.length:Int)-s.1).toNat) h (λs j=>?_);have⟨c,m,f,g⟩:=j;unfold MM;refine AC (λa=>?_) (λa=>AA (.inr ⟨_,rfl,λd b=>?_⟩));simp[len]at a;refine AB (AE c a) λv o=>?_;apply AQ<;>intro n;grind[AB,AE,AA,Option.some.inj];have e:=AW (x:=s.1+1);refine AA ⟨⟨by dsimp only;omega,by dsimp only;omega,f,λi d k b=>?_⟩,by dsimp only;omega⟩;dsimp only at k;by_cases l:(i:Int)<s.1;exact g i d l b;have:i=s.1.toNat:=by omega
 grind[Option.some.inj];grind[List.getElem?_of_mem,Nat.lt_or_ge,List.getElem?_eq_none]
def JC{x:AP×Int}(h:SB x.1):Az (Ee x) λr=>(r.2=true->r.1∈x.1.2.2.2.2.2.2.2/\r.1.1=x.2)/\(r.2=false-> ∀d∈x.1.2.2.2.2.2.2.2,d.1≠x.2):=by unfold Ee;refine AB (Ve ⟨by omega,by dsimp only;omega,h.2.2,λi d a=>absurd a (by dsimp only;omega)⟩) λv b=>?_;grind[BF,AA,BC]
def Vf{x:AP}{s:Int}(h:0<=s/\s<=x.2.2.2.2.2.1.length/\(x.2.2.2.2.2.1.length:Int)<=16777216):Az (Ad (MN x) s) λr=>r≠ .inl true:=by
 refine AM (λ(s:Int)=>0<=s/\s<=x.2.2.2.2.2.1.length/\(x.2.2.2.2.2.1.length:Int)<=16777216) (λ(s:Int)=>((x.2.2.2.2.2.1.length:Int)-s).toNat) h (λs b=>?_);unfold MN;repeat' with_reducible first|apply AC<;>intro a|apply AI<;>intro a|apply AA|(refine AJ ?_ (AE ?_ ?_);rintro r ⟨hr,c⟩)
 all_goals ((try dsimp[len]at*);(try first|omega|assumption|grind[AW]))
def Vg{x:AP}{s:Int}(h:0<=s/\s<=x.2.2.2.1.2.1.length/\(x.2.2.2.1.2.1.length:Int)<=16777216/\SB x):Az (Ad (MO x) s) λr=>r≠ .inl true:=by
 refine AM (λ(s:Int)=>0<=s/\s<=x.2.2.2.1.2.1.length/\(x.2.2.2.1.2.1.length:Int)<=16777216/\SB x) (λ(s:Int)=>((x.2.2.2.1.2.1.length:Int)-s).toNat) h (λs b=>?_);unfold MO;repeat' with_reducible first|apply AC<;>intro a|apply AI<;>intro a|apply AA|(refine AJ ?_ (JC ?_);intro r hr)|(refine AJ ?_ (AE ?_ ?_);rintro r ⟨hr,c⟩)
 all_goals ((try dsimp[len]at*);(try first|omega|assumption|grind[AW]))
def Vh{x:AP}{s:Int}(h:0<=s/\s<=x.2.2.2.2.1.1.length/\(x.2.2.2.2.1.1.length:Int)<=16777216):Az (Ad (MP x) s) λr=>r≠ .inl true:=by
 refine AM (λ(s:Int)=>0<=s/\s<=x.2.2.2.2.1.1.length/\(x.2.2.2.2.1.1.length:Int)<=16777216) (λ(s:Int)=>((x.2.2.2.2.1.1.length:Int)-s).toNat) h (λs b=>?_);unfold MP;repeat' with_reducible first|apply AC<;>intro a|apply AI<;>intro a|apply AA|(refine AJ ?_ (AE ?_ ?_);rintro r ⟨hr,c⟩)
 all_goals ((try dsimp[len]at*);(try first|omega|assumption|grind[AW]))
def Vi{x:AP}{s:Int}(h:0<=s/\s<=x.2.2.2.2.1.2.length/\(x.2.2.2.2.1.2.length:Int)<=16777216):Az (Ad (MQ x) s) λr=>r≠ .inl true:=by
 refine AM (λ(s:Int)=>0<=s/\s<=x.2.2.2.2.1.2.length/\(x.2.2.2.2.1.2.length:Int)<=16777216) (λ(s:Int)=>((x.2.2.2.2.1.2.length:Int)-s).toNat) h (λs b=>?_);unfold MQ;repeat' with_reducible first|apply AC<;>intro a|apply AI<;>intro a|apply AA|(refine AJ ?_ (AE ?_ ?_);rintro r ⟨hr,c⟩)
 all_goals ((try dsimp[len]at*);(try first|omega|assumption|grind[AW]))
def By{x:AP}(h:SB x):Az (Bd x) λr=>r=true->VK x:=by
 unfold Bd;repeat' with_reducible first|apply AO<;>intro a|apply AI<;>intro a|(apply BF;try dsimp only)|(apply BC;try dsimp only)|(apply A2<;>(intro u b;try subst b))|apply AA|(refine AJ ?_ (ZN ?_);intro r hr)|(refine AJ ?_ (Vf ?_);intro r hr)|(refine AJ ?_ (Vg ?_);intro r hr)|(refine AJ ?_ (Vh ?_);intro r hr)|(refine AJ ?_ (Vi ?_);intro r hr)
 all_goals ((try dsimp[len]at*);(try first|omega|assumption|grind[SB,VK,F7,OF]))
def WP{x:List Ah×Int}{s:Int}(h:0<=s/\s<=x.1.length/\(x.1.length:Int)<=16777216):Az (Ad (JA x) s) λr=> ∀u,r= .inl u->0<=u/\u<x.1.length/\ ∃t,x.1[u.toNat]? =some t/\t.1=x.2:=by
 refine AM (λ(s:Int)=>0<=s/\s<=x.1.length/\(x.1.length:Int)<=16777216) (λ(s:Int)=>((x.1.length:Int)-s).toNat) h (λs b=>?_);unfold JA;repeat' with_reducible first|apply AC<;>intro a|apply AQ<;>intro a|apply AI<;>intro a|apply AA|(refine AJ ?_ (AE ?_ ?_);rintro r ⟨hr,c⟩)
 all_goals ((try dsimp[len]at*);(try first|omega|assumption|grind[AW]))
def Hi{x:List Ah×Int}(h:x.1.length<=16777216):Az (ER x) λr=> -1<=r/\r<x.1.length/\(0<=r-> ∃t,x.1[r.toNat]? =some t/\t.1=x.2):=by
 unfold ER;repeat' with_reducible first|(apply BF;try dsimp only)|(apply BC;try dsimp only)|(apply A2<;>(intro u a;try subst a))|apply AA|(refine AJ ?_ (WP ?_);intro r hr)
 all_goals ((try dsimp[len]at*);(try first|omega|assumption|grind[AW]))
def FK{x:List Ah×Int}(h:x.1.length<=16777216):Az (CG x) λr=> -1<=r/\r<x.1.length/\(0<=r-> ∃t,x.1[r.toNat]? =some t/\t.1=x.2):=by
 unfold CG;repeat' with_reducible first|apply AA|(refine AJ ?_ (Hi ?_);intro r hr)
 all_goals ((try dsimp[len]at*);(try first|omega|assumption|grind[AW]))
def gC(p:BY)(id:Int):Prop:= ∃(i:Nat) (f:A0),p.2.1[i]? =some f/\f.1.1=id
def WO{x:BY×Int}{s:Int}(h:0<=s/\s<=x.1.2.1.length/\(x.1.2.1.length:Int)<=16777216/\ ∀(i:Nat) (f:A0),i<s->x.1.2.1[i]? =some f->f.1.1≠x.2):Az (Ad (NB x) s) λr=>(∃u,r= .inl u/\0<=u/\u<x.1.2.1.length/\ ∃f,x.1.2.1[u.toNat]? =some f/\f.1.1=x.2)\/(r= .inr ()/\ ¬gC x.1 x.2):=by
 refine AM (λ(s:Int)=>0<=s/\s<=x.1.2.1.length/\(x.1.2.1.length:Int)<=16777216/\ ∀(i:Nat) (f:A0),i<s->x.1.2.1[i]? =some f->f.1.1≠x.2) (λ(s:Int)=>((x.1.2.1.length:Int)-s).toNat) h (λs b=>?_);unfold NB;repeat' with_reducible first|apply AC<;>intro a|apply AQ<;>intro a|apply AI<;>intro a|apply AA|(refine AJ ?_ (AE ?_ ?_);rintro r ⟨hr,c⟩)
 all_goals try (have e:=AW (x:=s+1))
 all_goals first|omega|grind[gC]
def GY{x:BY×Int}(h:x.1.2.1.length<=16777216):Az (FB x) λr=> -1<=r/\r<x.1.2.1.length/\(0<=r-> ∃f,x.1.2.1[r.toNat]? =some f/\f.1.1=x.2)/\(r<0-> ¬gC x.1 x.2):=by refine AB (WO (by refine⟨by omega,by omega,by omega,λi f a=>absurd a (by omega)⟩)) λs b=>?_;grind[BF,AA,BC]
def FJ{x:BY×Int}:Az (Dx x) λr=> -1<=r/\r<x.1.2.1.length/\(0<=r->OF x.1/\ ∃f,x.1.2.1[r.toNat]? =some f/\f.1.1=x.2)/\(OF x.1->gC x.1 x.2->0<=r):=by
 unfold Dx;repeat' with_reducible first|apply AO<;>intro b|apply AI<;>intro b|apply AA|(apply AB (EB);intro r hr)|(refine AJ ?_ (GY ?_);intro r hr)
 all_goals first|omega|(have a:OF x.1:=(by grind);have:=a.1;have:=a.2.1;have:=a.2.2.1;omega)|grind
def IJ{x:BY×Int}:Az (Fb x) λr=>(r.2=true->OF x.1/\je r.1/\gC x.1 x.2/\r.1.1=x.2/\ ∃f∈x.1.2.1,f.1=r.1)/\(r.2=false->OF x.1-> ¬gC x.1 x.2):=by
 unfold Fb;repeat' with_reducible first|apply AC<;>intro a|apply AI<;>intro a|apply AA|(apply AB (FJ);intro r hr)|(refine AJ ?_ (AE ?_ ?_);rintro r ⟨hr,b⟩)
 all_goals first|omega|(simp;grind)|grind[OF,JY,iG,gC]
theorem D0.last{x:Aj}(h:D0 x):wi (wi (x.1+len x.2.1)-1)=x.1+x.2.1.length-1:=by have⟨a,b,c,d,e,f⟩:=h;grind[AW]
def D0.at{x:Aj}{n:Int}{e:AD}(h:D0 x)(a:x.1<=n)(b:n<=x.1+x.2.1.length-1)(c:x.2.1[(wi (n-x.1)).toNat]? =some e):OE e/\e.1=n:=by have⟨a1,a2,a3,a4,a5,a6⟩:=h;grind[AW]
theorem D0.append{x:Aj}{e:AD}{l:List AD}(h:D0 x)(b:x.2.1.length≠4096)(d:OE e)(c:e.1=x.1+x.2.1.length)(a:l=x.2.1++[e]):D0 (x.1,l,x.2.2):=by have⟨a1,a2,a3,a4,a5,a6⟩:=h;subst a;refine⟨a1,a2,by simp;omega,a4,by simp;omega,λi f g=>?_⟩;grind[Nat.lt_or_ge,List.getElem?_append_right,List.getElem?_eq_none]
def D0.force{x:Aj}{n:Int}(h:D0 x)(a:n<=x.1+x.2.1.length-1):D0 (x.1,x.2.1,if n>x.2.2 then n else x.2.2):=by have⟨a1,a2,a3,a4,a5,a6⟩:=h;refine⟨a1,a2,a3,?_,?_,a6⟩<;>(dsimp only;split<;>omega)
def GX{x:Aj}:Az (E9 x) λr=>D0 x->r=x.1+x.2.1.length-1:=by
 unfold E9;repeat' with_reducible first|apply AO<;>intro a|apply AI<;>intro a|apply AA|(apply AB (Bp);intro r hr)|(apply AB (EP);intro r hr)
 all_goals ((try dsimp[len]at*);(try first|omega|assumption|grind[D0.last]))
def I8{x:Aj×Int}:Az (D8 x) λr=>(r.2=0->D0 r.1/\r.1.2.1=x.1.2.1/\r.1.1=x.1.1):=by
 unfold D8;repeat' with_reducible first|apply AC<;>intro a|apply AO<;>intro a|apply AI<;>intro a|apply AA|(apply AB (Bp);intro r hr)|(apply AB (EP);intro r hr)
 all_goals try (intro _;have b:D0 x.1:=by grind
                have c:=b.last;exact⟨b.force (by omega),rfl,rfl⟩)
 all_goals ((try dsimp[len]at*);(try first|omega|assumption|grind[AW]))
def Gr{x:Aj×Int}:Az (Em x) λr=>(r.2=0->OE r.1/\r.1.1=x.2/\x.1.2.1[(x.2-x.1.1).toNat]? =some r.1/\x.1.1<=x.2)/\(D0 x.1->x.1.1<=x.2->x.2<=x.1.1+x.1.2.1.length-1->r.2=0):=by
 unfold Em;repeat' with_reducible first|apply AC<;>intro c|apply AO<;>intro c|apply AI<;>intro c|apply AA|(apply AB (Bp);intro r hr)|(apply AB (EP);intro r hr)|(refine AJ ?_ (AE ?_ ?_);rintro r ⟨hr,f⟩)
 all_goals try (have a:D0 x.1:=by grind)
 all_goals try (have e:=a.last;have:=a.1;have:=a.2.1;have:=a.2.2.1)
 all_goals try (have d:wi (x.2-x.1.1)=x.2-x.1.1:=AW)
 all_goals try (have b:=a.at (n:=x.2) (by omega) (by omega) hr;rw[d]at hr;exact⟨λ_=>⟨b.1,b.2,hr,by omega⟩,λ_ _ _=>rfl⟩)
 all_goals ((try dsimp[len]at*);(try first|omega|assumption|grind[AW]))
def Xg{x:Aj×AD}:Az (Jf x) λr=>(r.2.2=0->D0 r.1/\D0 x.1/\r.1.2.1=x.1.2.1++[(r.2.1,x.2.2)]/\r.1.1=x.1.1/\r.2.1=x.1.1+x.1.2.1.length):=by
 unfold Jf;repeat' with_reducible first|apply AO<;>intro b|apply AQ<;>intro b|apply AI<;>intro b|apply AA|(apply AB (Bp);intro r hr)|(apply AB (EP);intro r hr)|(apply AB (CA);intro r hr)|(refine AJ ?_ (Ac ?_);rintro r ⟨hr,c,d⟩)
 all_goals try (have a:D0 x.1:=by grind)
 all_goals try (have c:=a.last;have:=a.1;have:=a.2.1;have:=a.2.2.1)
 all_goals ((try dsimp[len]at*);(try first|omega|assumption|grind[AW,D0.append]))
def B7{x:AD}:Az (A6 x) λr=>r=true↔x.2.1=1\/x.2.1=2:=by
 unfold A6;repeat' with_reducible first|apply AQ<;>intro a|apply AI<;>intro a|apply AA
 all_goals ((try dsimp[len]at*);(try first|omega|assumption|grind[AW]))
def kj(n:Int):0<=IntKind.wrap .u64 n:=by rw[S1];omega
theorem LJ(l:List Int):(Gw l).length=l.length:=by simp[Gw]
theorem XY{x:Bc×Int×Int}{s:Bc×Int}(h:0<=s.2/\s.2<=x.2.2/\x.2.2<=8/\(s.1.length:Int)=x.1.length+s.2/\x.1.length<=1099511627776):Az (Ad (GS x) s) λr=>(r.length:Int)=x.1.length+x.2.2:=by
 refine AM (λ(s:Bc×Int)=>0<=s.2/\s.2<=x.2.2/\x.2.2<=8/\(s.1.length:Int)=x.1.length+s.2/\x.1.length<=1099511627776) (λ(s:Bc×Int)=>(x.2.2-s.2).toNat) h (λs b=>?_);unfold GS;repeat' with_reducible first|refine AC ?_ ?_<;>intro a|refine AI ?_ ?_<;>intro a|refine AA ?_|refine XW ?_|(refine AJ ?_ (CY ?_);rintro r ⟨hr,c⟩)
 all_goals try (have d:=kj (wi (8*s.2));omega)
 all_goals ((try dsimp only[len]at*);(try first|omega|assumption|grind[AW,LJ]))
theorem Cj{x:Bc×Int×Int}(h:x.1.length<=1099511627776):Az (Al x) λr=>(1<=x.2.2->x.2.2<=8->(r.length:Int)=x.1.length+x.2.2)/\r.length<=x.1.length+8:=by
 unfold Al;repeat' with_reducible first|refine AC ?_ ?_<;>intro a|refine AI ?_ ?_<;>intro a|refine AA ?_|(refine AJ ?_ (XY ?_);intro r hr)
 all_goals ((try dsimp only[len]at*);(try first|omega|assumption|grind[AW]))
def uK{n:Int}(h:n<=4):(2:Int)^(8*n.toNat)<=4294967296:=by
 have:n.toNat=0\/n.toNat=1\/n.toNat=2\/n.toNat=3\/n.toNat=4:=by omega
 rcases this with h|h|h|h|h<;>rw[h]<;>decide
def zW{n:Int}(h:n<=2):(2:Int)^(8*n.toNat)<=65536:=by
 have:n.toNat=0\/n.toNat=1\/n.toNat=2:=by omega
 rcases this with h|h|h<;>rw[h]<;>decide
def xJ{a b:Int}{k:Nat}(e:0<=a)(c:a<2^k)(f:0<=b)(d:b<2^k)(g:k<=64):(0:Int)<=((BitVec.toNat (BitVec.ofInt 64 a|||BitVec.ofInt 64 b):Nat):Int)/\((BitVec.toNat (BitVec.ofInt 64 a|||BitVec.ofInt 64 b):Nat):Int)<2^k:=by
 refine⟨by omega,?_⟩;obtain⟨n,rfl⟩:=EZ e;obtain⟨m,rfl⟩:=EZ f;have hn:n<2^k:=by exact_mod_cast c
 have h:m<2^k:=by exact_mod_cast d
 have i:2^k<=2^64:=VE (by decide) g;rw[BitVec.toNat_or];simp only[S8,S9];rw[S7 (by omega),S7 (by omega)];exact_mod_cast Nat.or_lt_two_pow hn h
def qN{a v i:Int}(q:0≤i)(r:i<8)(p:0≤a)(b:a<2^(8*i.toNat))(u:0≤v)(w:v<256):
  0<=IntKind.wrap .u64 (((BitVec.toNat ((BitVec.ofInt 64 a)|||(BitVec.ofInt 64 (IntKind.wrap .u64 ((IntKind.wrap .u64 v)*(2^(min (Int.toNat (IntKind.wrap .u64 (wi (8*i)))) 64))))))):Nat):Int)/\
  IntKind.wrap .u64 (((BitVec.toNat ((BitVec.ofInt 64 a)|||(BitVec.ofInt 64 (IntKind.wrap .u64 ((IntKind.wrap .u64 v)*(2^(min (Int.toNat (IntKind.wrap .u64 (wi (8*i)))) 64))))))):Nat):Int)<2^(8*(wi (i+1)).toNat):=by
 have f:wi (i+1)=i+1:=AW;have g:wi (8*i)=8*i:=AW;have h:IntKind.wrap .u64 (8*i)=8*i:=by rw[S1];omega
 have j:IntKind.wrap .u64 v=v:=by rw[S1];omega
 rw[f,g,h,j];obtain⟨n,rfl⟩:=EZ q;obtain⟨m,rfl⟩:=EZ u;have s:min (8*(n:Int)).toNat 64=8*n:=by omega
 rw[s];have e:((n:Int)+1).toNat=n+1:=by omega
 have d:((n:Int)).toNat=n:=by omega
 rw[e];rw[d]at b;have t:(m:Int)*2^(8*n)<2^(8*(n+1)):=by
  have:(m*2^(8*n):Nat)<2^(8*(n+1)):=by
   have o:2^(8*(n+1))=256*2^(8*n):=by rw[Nat.mul_add,Zq];omega
   rw[o];exact Nat.mul_lt_mul_of_pos_right (by omega) (Nat.pow_pos (by decide))
  exact_mod_cast this
 have z:(2:Int)^(8*(n+1))<=2^64:=by have:(2^(8*(n+1)):Nat)<=2^64:=VE (by decide) (by omega);exact_mod_cast this
 have x:(0:Int)<=(m:Int)*2^(8*n):=by
  have:(0:Int)<=((m*2^(8*n):Nat):Int):=by omega
  exact_mod_cast this
 have l:IntKind.wrap .u64 ((m:Int)*2^(8*n))=(m:Int)*2^(8*n):=by rw[S1];omega
 rw[l];have c:a<2^(8*(n+1)):=by
  have:(2:Int)^(8*n)<=2^(8*(n+1)):=by have:(2^(8*n):Nat)<=2^(8*(n+1)):=VE (by decide) (by omega);exact_mod_cast this
  omega
 obtain⟨q1,q2⟩:=xJ (k:=8*(n+1)) p c x t (by omega);generalize ((BitVec.toNat _:Nat):Int)=y at q1 q2;rw[S1];omega
theorem XX{x:Bc×Int×Int}{s:Int×Int}(h:0<=s.2/\s.2<=x.2.2/\x.2.2<=8/\0<=x.2.1/\x.2.1+x.2.2<=x.1.length/\x.1.length<=1099511627776/\0<=s.1/\s.1<2^(8*s.2.toNat)):Az (Ad (GR x) s) λr=>0<=r/\r<2^(8*x.2.2.toNat):=by
 refine AM (λ(s:Int×Int)=>0<=s.2/\s.2<=x.2.2/\x.2.2<=8/\0<=x.2.1/\x.2.1+x.2.2<=x.1.length/\x.1.length<=1099511627776/\0<=s.1/\s.1<2^(8*s.2.toNat)) (λ(s:Int×Int)=>(x.2.2-s.2).toNat) h (λs n=>?_);unfold GR;obtain⟨d,q,f,g,j,k,l,m⟩:=n;repeat' with_reducible first|refine AC ?_ ?_<;>intro o|refine AI ?_ ?_<;>intro o|refine AA ?_|refine XW ?_|(refine AJ ?_ (Pe ?_ ?_);rintro r ⟨hr,p⟩)
 all_goals try (have t:=kj (wi (8*s.2));omega)
 all_goals (first|(obtain⟨b,c⟩:=qN (a:=s.1) (v:=r) (i:=s.2) d (by omega) l m hr p;have e:=AW (x:=s.2+1) (by omega);exact⟨⟨by omega,by omega,f,g,j,k,b,c⟩,by dsimp only;omega⟩)|skip)
 all_goals ((try dsimp only[len]at*);(try first|omega|assumption|grind[AW]))
def CZ{x:Bc×Int×Int}(h:x.1.length<=1099511627776):Az (Av x) λr=>r.2=0->0<=x.2.1/\x.2.1+x.2.2<=x.1.length/\(x.2.2<=4->0<=r.1/\r.1<4294967296)/\(x.2.2<=2->r.1<65536):=by
 unfold Av;repeat' with_reducible first|apply AC<;>intro c|apply AI<;>intro c|apply AA|(refine AJ ?_ (XX ?_);intro r hr)
 all_goals dsimp only[len]at*
 all_goals first
  |omega
  |(intro d;exact absurd d (by decide))
  |(have e:=AW (x:=(x.1.length:Int)-x.2.1);exact⟨by omega,by omega,by omega,by omega,by omega,h,by omega,by simp⟩)
  |(intro _;have e:=AW (x:=(x.1.length:Int)-x.2.1);refine⟨by omega,by omega,λb=>?_,λa=>?_⟩;(have:=uK b;rw[AW];omega);(have:=zW a;rw[AW];omega))
theorem Xa  {s:Int×Int}(h:0<=s.2/\s.2<=8):Az (Ad (Hd) s) λr=>True:=by
 refine AM (λ(s:Int×Int)=>0<=s.2/\s.2<=8) (λ(s:Int×Int)=>(8-s.2).toNat) h (λs b=>?_);unfold Hd;repeat' with_reducible first|refine AC ?_ ?_<;>intro a|refine AQ ?_ ?_<;>intro a|refine AI ?_ ?_<;>intro a|(refine BE ?_;try dsimp only)|refine BP ?_|refine BX ?_|refine AA ?_
 all_goals ((try dsimp only[len]at*);(try first|omega|assumption|grind[AW]))
theorem XZ{x:Bc}{s:Int×Int}(h:0<=s.2/\s.2<=x.length/\x.length<=1099511627776):Az (Ad (Ha x) s) λr=>True:=by
 refine AM (λ(s:Int×Int)=>0<=s.2/\s.2<=x.length/\x.length<=1099511627776) (λ(s:Int×Int)=>((x.length:Int)-s.2).toNat) h (λs b=>?_);unfold Ha;repeat' with_reducible first|refine AC ?_ ?_<;>intro a|refine AI ?_ ?_<;>intro a|refine AA ?_|(refine AJ ?_ (Xa ?_);intro r hr)|(refine AJ ?_ (Pe ?_ ?_);rintro r ⟨hr,c⟩)
 all_goals ((try dsimp only[len]at*);(try first|omega|assumption|grind[AW]))
theorem KQ{x:Bc}(h:x.length<=1099511627776):Az (El x) λr=>True:=by
 unfold El;repeat' with_reducible first|refine AA ?_|(refine AJ ?_ (XZ ?_);intro r hr)
 all_goals ((try dsimp only[len]at*);(try first|omega|assumption|grind[AW]))
theorem RV{x:Bc}:Az (D7 x) λr=>r.length<=8408:=by
 unfold D7;repeat' with_reducible first|refine AC ?_ ?_<;>intro a|refine AI ?_ ?_<;>intro a|refine AA ?_|(refine AJ ?_ (Cj ?_);intro r hr)|(refine AJ ?_ (KQ ?_);intro r hr)|(refine AJ ?_ (CY ?_);rintro r ⟨hr,b⟩)
 all_goals dsimp only[len]at*
 all_goals ((try dsimp only[len]at*);(try first|omega|assumption|grind[AW]))
theorem Pt{x:Bc×Int}(h:x.1.length<=1099511627776):Az (Bx x) λr=>r.2.2=0->r.1.length<=8392/\x.2+8+r.1.length=r.2.1/\0<=x.2/\r.2.1<=x.1.length:=by
 unfold Bx;repeat' with_reducible first|refine AC ?_ ?_<;>intro a|refine AL ?_ ?_<;>intro a|refine AI ?_ ?_<;>intro a|refine AA ?_|(refine AJ ?_ (CZ ?_);intro r hr)|(refine AJ ?_ (KQ ?_);intro r hr)|(refine AJ ?_ (Dq ?_ ?_ ?_);rintro r ⟨hr,b⟩)
 all_goals dsimp only[len]at*
 all_goals ((try dsimp only[len]at*);(try first|omega|assumption|grind[AW]))
theorem My{x:Int}(h:0<=x/\x<=16777216):Az (Gp x) λr=>(r.length:Int)=x:=by
 unfold Gp;repeat' with_reducible first|refine AA ?_|(refine AJ ?_ (jy ?_ ?_);rintro r ⟨hr,a⟩)
 all_goals ((try dsimp only[len]at*);(try first|omega|assumption|grind[AW,LJ]))
theorem ac{x:Bc×FE}(h:x.1.length<=1099511627776)(b:x.2.2.length<=16777216):Az (GB x) λr=>r.length<=x.1.length+8+x.2.2.length:=by
 unfold GB;repeat' with_reducible first|refine AO ?_ ?_<;>intro a|refine AI ?_ ?_<;>intro a|refine AA ?_|(refine AJ ?_ (Cj ?_);intro r hr)|(refine AJ ?_ (CY ?_);rintro r ⟨hr,c⟩)
 all_goals ((try dsimp only[len]at*);(try first|omega|assumption|grind[AW]))
def U8.lens{x:AD}(h:U8 x):x.2.2.2.2.2.2.1.2.2.1.2.length<=12/\x.2.2.2.2.2.2.1.2.2.2.2.length<=12/\x.2.2.2.2.2.2.2.length<=8192:=by unfold U8 TW HS Oi at h;grind
theorem Xe{x:AD}:Az (FH x) λr=>r.1.length<=8400:=by
 unfold FH;repeat' with_reducible first|refine AO ?_ ?_<;>intro a|refine AI ?_ ?_<;>intro a|refine AA ?_|(refine AB (CA) ?_;intro r hr)|(refine AJ ?_ (Cj ?_);intro r hr)|(refine AJ ?_ (ac ?_ ?_);intro r hr)|(refine AJ ?_ (CY ?_);rintro r ⟨hr,b⟩)
 all_goals try (have c:=(U8.lens (x:=x) (by unfold OE at*;grind)))
 all_goals ((try dsimp only[len]at*);(try first|omega|assumption|grind[AW]))
def ACj(k:Nat):(256:Int)^k=((256^k:Nat):Int):=by grind
def zP(k:Nat):(0:Int)<256^k:=by have:0<256^k:=Nat.pow_pos (by decide);grind
def AB9(b k:Nat):(b:Int)*256^k=((b*256^k:Nat):Int):=by grind
def EY(n:Int):Nat->Bc
 |0=>[]
 |k+1=>UInt8.ofNat (n%256).toNat::EY (n/256) k
def gx:Bc->Nat
 |[]=>0
 |b::r=>b.toNat+256*gx r
theorem BN: ∀(k:Nat) (n:Int),(EY n k).length=k
 |0,n=>rfl
 |k+1,n=>by rw[EY,BV,BN k]
def mC: ∀l:Bc,gx l<256^l.length
 |[]=>by simp[gx]
 |b::r=>by have a:=mC r;have c:=b.toNat_lt;rw[gx,BV,Nat.pow_succ];omega
def uG: ∀l:Bc,EY (gx l:Int) l.length=l
 |[]=>rfl
 |b::r=>by
  have d:=b.toNat_lt;have a:((gx (b::r):Nat):Int)/256=(gx r:Int):=by rw[gx];omega
  have c:(((gx (b::r):Nat):Int)%256).toNat=b.toNat:=by rw[gx];omega
  rw[BV,EY,a,c,uG r];simp
def ni: ∀(k:Nat) (n m:Int),n%256^k=m%256^k->EY n k=EY m k
 |0,_,_,_=>rfl
 |k+1,n,m,h=>by
  have e:(256:Int)^(k+1)=256^k*256:=Int.pow_succ ..;have b:n%256=m%256:=by have a:n%256^(k+1)%256=n%256:=Int.emod_emod_of_dvd n ⟨256^k,by rw[e,Int.mul_comm]⟩;simp_all
  have c:n/256%256^k=m/256%256^k:=by
   have g: ∀x:Int,x/256%256^k=x%256^(k+1)/256:=λx=>by have d:=dj (x/256) (256^k);have f:=dj x (256*256^k);have i:x/(256*256^k)=x/256/256^k:=(iK (by decide)).symm;grind
   grind
  rw[EY,EY,b,ni k _ _ c]
def qZ: ∀(k:Nat) (n:Int),EY n (k+1)=EY n k++[UInt8.ofNat (n/256^k%256).toNat]
 |0,n=>by simp[EY]
 |k+1,n=>by
  rw[EY,qZ k (n/256),EY];have:n/256/256^k=n/256^(k+1):=by rw[Int.pow_succ,Int.mul_comm,iK (by decide)]
  grind
def o9: ∀(k:Nat) (n:Int),((gx (EY n k):Nat):Int)=n%256^k
 |0,n=>by simp[EY,gx]
 |k+1,n=>by
  rw[EY,gx];have d:(UInt8.ofNat (n%256).toNat).toNat=(n%256).toNat:=by rw[VG];omega
  have e:=o9 k (n/256);have a:=dj (n/256) (256^k);have b:=dj n (256*256^k);have c:n/(256*256^k)=n/256/256^k:=(iK (by decide)).symm;grind
def mD: ∀(l:Bc) (b:UInt8),gx (l++[b])=gx l+b.toNat*256^l.length
 |[],b=>by simp[gx]
 |a::r,b=>by rw[Dn,gx,mD r b,gx,BV,Nat.pow_succ,Nat.mul_add];grind
def Wz(k:Nat)(n:Int):Prop:=(k<=7->0<=n/\n<256^k)/\ -9223372036854775808<=n/\n<=9223372036854775807
def o7{k:Nat}(f:k<=8){n m:Int}(hn:Wz k n)(e:Wz k m)(h:EY n k=EY m k):n=m:=by
 have c:=o9 k n;rw[h,o9 k m]at c;by_cases d:k<=7;have a:=hn.1 d;have b:=e.1 d;rw[Int.emod_eq_of_lt a.1 a.2,Int.emod_eq_of_lt b.1 b.2]at c;grind;have:k=8:=by omega
 have a:=hn.2;have b:=e.2;grind
def rd(l:Bc):Int:=wi (gx l:Int)
def ACA{k:Nat}(h:k<=7):(256:Int)^k<=72057594037927936:=by
 have:k=0\/k=1\/k=2\/k=3\/k=4\/k=5\/k=6\/k=7:=by omega
 grind
theorem ss{l:Bc}(h:l.length<=8):Wz l.length (rd l):=by have b:=mC l;have d:rd l=((gx l:Int)+9223372036854775808)%18446744073709551616-9223372036854775808:=yA _;refine⟨λa=>?_,by omega⟩;have c:=ACA a;grind
theorem o8{l:Bc}(h:l.length<=8):EY (rd l) l.length=l:=by
 rw[show EY (rd l) l.length=EY (gx l:Int) l.length from ?_,uG];apply ni;by_cases a:l.length<=7;have c:=ACA a;have b:(gx l:Int)<256^l.length:=by rw[ACj];have:=mC l;omega
 have:rd l=(gx l:Int):=by unfold rd;exact AW
 rw[this];have:l.length=8:=by omega
 rw[this,show(256:Int)^8=18446744073709551616 by decide];unfold rd;rw[yA];omega
theorem jW{k:Nat}{n:Int}(a:k<=8)(h:Wz k n):rd (EY n k)=n:=by have b:=BN k n;refine o7 (k:=k) a ?_ h ?_;have:=ss (l:=EY n k) (by omega);grind;have:=o8 (l:=EY n k) (by omega);grind
def xR(k:Nat):(2:Int)^(8*k)=256^k:=by rw[Int.pow_mul];rfl
def xT{n:Int}{i:Int}(c:0<=i)(d:i<8):Gw ([IntKind.wrap .u8 (Int.fdiv (IntKind.wrap .u64 n) (2^(min (Int.toNat (IntKind.wrap .u64 (wi (8*i)))) 64)))]:List Int)=[UInt8.ofNat (n/256^i.toNat%256).toNat]:=by
 have a:wi (8*i)=8*i:=AW;have b:IntKind.wrap .u64 (8*i)=8*i:=by rw[S1];omega
 rw[a,b,show min (8*i).toNat 64=8*i.toNat by omega,xR];have e:=zP i.toNat
 rw[YB _ (by omega),S1,zx];have:n%18446744073709551616/256^i.toNat%256=n/256^i.toNat%256:=by
  have:i.toNat=0\/i.toNat=1\/i.toNat=2\/i.toNat=3\/i.toNat=4\/i.toNat=5\/i.toNat=6\/i.toNat=7:=by omega
  rcases this with h|h|h|h|h|h|h|h<;>rw[h];rw[show(256:Int)^0=1 by decide];omega;rw[show(256:Int)^1=256 by decide];omega;rw[show(256:Int)^2=65536 by decide];omega;rw[show(256:Int)^3=16777216 by decide];omega;rw[show(256:Int)^4=4294967296 by decide];omega;rw[show(256:Int)^5=1099511627776 by decide];omega;rw[show(256:Int)^6=281474976710656 by decide];omega;rw[show(256:Int)^7=72057594037927936 by decide];omega
 rw[this];rfl
theorem HU{s:Bc}{n:Int}{k:Int}(h:s.length<=1099511627776)(j:1<=k)(l:k<=8):Al (s,(n,k))=some (s++EY n k.toNat):=by
 have key:Az (Ad (GS (s,(n,k))) (s,0)) λr=>r=s++EY n k.toNat:=by refine AM (λ(t:Bc×Int)=>0<=t.2/\t.2<=k/\t.1=s++EY n t.2.toNat) (λt=>(k-t.2).toNat) ⟨Af _,by dsimp only;omega,by simp[EY]⟩ ?_;rintro⟨m,a⟩ ⟨b,i,c⟩;dsimp only at b i c;subst c;unfold GS;dsimp only;refine AC (λd=>?_) (λd=>AA (by rw[show a=k by omega]));refine AC (λf=>absurd f (by have:=kj (wi (8*a));omega)) (λ_=>?_);rw[xT b (by omega)];refine AB (CY (by rw[Ag,BN];simp;omega)) λv g=>AA ?_;have e:wi (a+1)=a+1:=AW;rw[e];refine⟨⟨by omega,by omega,?_⟩,by omega⟩;rw[g.1,show(a+1).toNat=a.toNat+1 by omega,qZ,Ax]
 obtain⟨r,hr,rfl⟩:=key;unfold Al;grind
def rI{a t:Bc}{i:Int}(c:0<=i)(d:i<t.length)(e:(a.length:Int)<=2199023255552)(f:(t.length:Int)<=2199023255552): ∃b:UInt8,six (a++t) (wi ((a.length:Int)+i))=some (b.toNat:Int)/\t.take (i+1).toNat=t.take i.toNat++[b]:=by obtain⟨k,rfl⟩:=EZ c;refine⟨t[k],?_,?_⟩;rw[AW];unfold six;grind;simp_all
def AA7{a b k:Nat}(h:a<256^k)(i:b<256)(j:k<8):BitVec.toNat (BitVec.ofInt 64 (a:Int)|||BitVec.ofInt 64 ((b:Int)*256^k))=a+b*256^k:=by
 have e:(256:Nat)^k=2^(8*k):=by rw[Nat.pow_mul]
 have g:a+b*256^k<256^(k+1):=by
  have:b*256^k+256^k<=256*256^k:=by rw[<-fO];exact O8 _ (by omega)
  omega
 have f:(256:Nat)^(k+1)<=2^64:=by rw[show(2:Nat)^64=256^8 by decide];exact VE (by decide) (by omega)
 have d:b*256^k<2^64:=by omega
 have c:a<2^64:=by omega
 rw[AB9];rw[BitVec.toNat_or,S8,S8,S9,S9,S7 c,S7 d];rw[Nat.or_comm,e,Nat.mul_comm,<-Nat.two_pow_add_eq_or_of_lt (by rw[<-e];exact h)];omega
def tq{a:Nat}{b:UInt8}{i:Int}(l:0<=i)(m:i<8)(f:a<256^i.toNat)(j:Int)(h:j=8*i):IntKind.wrap .u64 (((BitVec.toNat ((BitVec.ofInt 64 (a:Int))|||(BitVec.ofInt 64 (IntKind.wrap .u64 ((IntKind.wrap .u64 (b.toNat:Int))*(2^(min (Int.toNat j) 64))))))):Nat):Int)=((a+b.toNat*256^i.toNat:Nat):Int):=by
 have g:=b.toNat_lt;have e:(256:Nat)^(i.toNat+1)<=2^64:=by rw[show(2:Nat)^64=256^8 by decide];exact VE (by decide) (by omega)
 have k:a+b.toNat*256^i.toNat<256^(i.toNat+1):=by
  have:b.toNat*256^i.toNat+256^i.toNat<=256*256^i.toNat:=by rw[<-fO];exact O8 _ (by omega)
  omega
 have c:IntKind.wrap .u64 (b.toNat:Int)=b.toNat:=by rw[S1];omega
 rw[h,c,show min (8*i).toNat 64=8*i.toNat by omega,xR];have d:IntKind.wrap .u64 ((b.toNat:Int)*256^i.toNat)=(b.toNat:Int)*256^i.toNat:=by rw[S1,AB9];omega
 rw[d,AA7 f g (by omega),S1];omega
theorem fB{a t:Bc}{k:Int}(h:(a.length:Int)+t.length<=2199023255552)(v:1<=k)(w:k<=8):Av (a++t,((a.length:Int),k))=if k<=t.length then some (rd (t.take k.toNat),0)else some (0,5):=by
 unfold Av;dsimp only;have d:len (a++t)=(a.length:Int)+t.length:=by unfold len;rw[List.length_append];omega
 rw[decide_eq_false (by omega),cond_false,decide_eq_false (by omega),cond_false,decide_eq_false (by omega),cond_false,decide_eq_false (by omega),cond_false];have q:wi (len (a++t)-(a.length:Int))=t.length:=by rw[d,AW];omega
 by_cases g:k<=t.length;rw[decide_eq_false (by omega),cond_false,if_pos g];have key:Az (Ad (GR (a++t,((a.length:Int),k))) (0,0)) λr=>r=(gx (t.take k.toNat):Int):=by
  refine AM (λ(s:Int×Int)=>0<=s.2/\s.2<=k/\s.1=(gx (t.take s.2.toNat):Int)) (λs=>(k-s.2).toNat) ⟨Af _,by dsimp only;omega,by simp[gx]⟩ ?_;rintro⟨x,c⟩ ⟨f,u,l⟩;dsimp only at f u l;subst l;unfold GR;dsimp only;refine AC (λo=>?_) (λo=>AA (by rw[show c=k by omega]));obtain⟨b,q1,q2⟩:=rI (a:=a) (t:=t) (i:=c) f (by omega) (by omega) (by omega);rw[q1,AF];refine AC (λp=>absurd p (by have:=kj (wi (8*c));omega)) (λ_=>AA ?_);have e:wi (c+1)=c+1:=AW;have m:wi (8*c)=8*c:=AW;have n:IntKind.wrap .u64 (8*c)=8*c:=by rw[S1];omega
  have j:(t.take c.toNat).length=c.toNat:=by rw[CH];omega
  dsimp only;rw[e,tq f (by omega) (by have:=mC (t.take c.toNat);rwa [j]at this) _ (by rw[m,n])];refine⟨⟨by omega,by omega,?_⟩,by omega⟩;rw[q2,mD,j]
 obtain⟨r,hr,rfl⟩:=key;rw[hr];rfl;rw[decide_eq_true (by omega),cond_true,if_neg g]
def bQ{a t:Bc}{k:Int}(h:(a.length:Int)+t.length<=2199023255552)(u:1<=k)(v:k<=8):CN (a++t,((a.length:Int),k))=if k<=t.length then some (rd (t.take k.toNat),0)else some (0,5):=by
 unfold CN;dsimp only;have d:len (a++t)=(a.length:Int)+t.length:=by grind
 rw[decide_eq_false (by omega),cond_false,decide_eq_false (by omega),cond_false,decide_eq_false (by omega),cond_false,decide_eq_false (by omega),cond_false];have p:wi (len (a++t)-(a.length:Int))=t.length:=by rw[d,AW];omega
 by_cases o:k<=t.length;rw[decide_eq_false (by omega),cond_false,if_pos o];have key:Az (Ad (R5 (a++t,((a.length:Int),k))) (0,0)) λr=>r=(gx (t.take k.toNat):Int):=by
  refine AM (λ(s:Int×Int)=>0<=s.2/\s.2<=k/\s.1=(gx (t.take s.2.toNat):Int)) (λs=>(k-s.2).toNat) ⟨Af _,by dsimp only;omega,by simp[gx]⟩ ?_;rintro⟨w,c⟩ ⟨f,q,j⟩;dsimp only at f q j;subst j;unfold R5;dsimp only;refine AC (λm=>?_) (λm=>AA (by rw[show c=k by omega]));obtain⟨b,q1,q2⟩:=rI (a:=a) (t:=t) (i:=c) f (by omega) (by omega) (by omega);have l:wi (8*c)=8*c:=AW;rw[q1,AF];refine AC (λn=>absurd n (by omega)) (λ_=>AA ?_);have e:wi (c+1)=c+1:=AW;have g:(t.take c.toNat).length=c.toNat:=by grind
  rw[e,tq f (by omega) (by have:=mC (t.take c.toNat);rwa [g]at this) _ l];refine⟨⟨by omega,by omega,?_⟩,by omega⟩;rw[q2,mD,g]
 obtain⟨r,hr,rfl⟩:=key;rw[hr];rfl;grind
def Vx(c:BitVec 32):BitVec 32:=if c.getLsbD 0=true then(c>>>1)^^^2197175160#32 else c>>>1
def fh:Nat->BitVec 32->BitVec 32
 |0,c=>c
 |n+1,c=>Vx (fh n c)
def cW(c:BitVec 32)(b:UInt8):BitVec 32:=fh 8 (c^^^BitVec.ofNat 32 b.toNat)
def yg(s:Bc):BitVec 32:=4294967295#32^^^s.foldl cW 4294967295#32
def Ti(s:Bc):Int:=((yg s).toNat:Int)
def bm{a b:BitVec 32}(h:a^^^b=0#32):a=b:=by simp_all
def vW(a b:BitVec 32):Vx (a^^^b)=Vx a^^^Vx b:=by
 unfold Vx;rw[BitVec.getLsbD_xor,BitVec.ushiftRight_xor_distrib];cases a.getLsbD 0<;>cases b.getLsbD 0<;>simp;grind;grind;have:a>>>1^^^2197175160#32^^^(b>>>1^^^2197175160#32)=(a>>>1^^^b>>>1)^^^(2197175160#32^^^2197175160#32):=by ac_rfl
 grind
def o6: ∀(n:Nat) (a b:BitVec 32),fh n (a^^^b)=fh n a^^^fh n b
 |0,a,b=>rfl
 |n+1,a,b=>by rw[fh,fh,fh,o6 n,vW]
def tJ{c:BitVec 32}(h:Vx c=0#32):c=0#32:=by
 unfold Vx at h;by_cases b:c.getLsbD 0=true;rw[if_pos b]at h;have d:=bm h;have a:(c>>>1).getLsbD 31=(2197175160#32).getLsbD 31:=by rw[d]
 rw[BitVec.getLsbD_ushiftRight]at a;simp_all;rw[if_neg b]at h;apply iJ;intro i e;cases i with
 |zero=>grind
 |succ j=>
  have a:(c>>>1).getLsbD j=(0#32).getLsbD j:=by rw[h]
  grind
def qV: ∀(n:Nat) {c:BitVec 32},fh n c=0#32->c=0#32
 |0,c,h=>h
 |n+1,c,h=>qV n (tJ h)
def uD{n:Nat}{a b:BitVec 32}(h:fh n a=fh n b):a=b:=by refine bm (qV n ?_);rw[o6,h,Us]
def yX{a b:BitVec 32}{x:UInt8}(h:cW a x=cW b x):a=b:=by have c:=uD h;simp_all
def yY{a:BitVec 32}{x y:UInt8}(h:cW a x=cW a y):x=y:=by
 have b:=uD h;have:a^^^(a^^^BitVec.ofNat 32 x.toNat)=a^^^(a^^^BitVec.ofNat 32 y.toNat):=by rw[b]
 rw[<-X9,Us,YA,<-X9,Us,YA]at this;have c:=congrArg BitVec.toNat this;rw[S9,S9]at c;have d:=x.toNat_lt;have e:=y.toNat_lt;exact UInt8.toNat_inj.1 (by omega)
def we: ∀(s:Bc) {a b:BitVec 32},s.foldl cW a=s.foldl cW b->a=b
 |[],a,b,h=>h
 |x::r,a,b,h=>yX (we r h)
def yh{u v:Bc}{x y:UInt8}(h:Ti (u++x::v)=Ti (u++y::v)):x=y:=by
 unfold Ti at h;have a:yg (u++x::v)=yg (u++y::v):=BitVec.eq_of_toNat_eq (by omega);unfold yg at a;rw[YI,YI,YJ,YJ]at a;have b: ∀p q:BitVec 32,4294967295#32^^^p=4294967295#32^^^q->p=q:=λp q c=>by
  have:4294967295#32^^^(4294967295#32^^^p)=4294967295#32^^^(4294967295#32^^^q):=by rw[c]
  rwa [<-X9,Us,YA,<-X9,Us,YA]at this
 exact yY (we v (b _ _ a))
def kW(s:Bc):0<=Ti s/\Ti s<4294967296:=by unfold Ti;omega
def bvI(c:BitVec 32):BitVec.ofInt 32 (c.toNat:Int)=c:=by grind
def w32(c:BitVec 32):IntKind.wrap .u32 (c.toNat:Int)=(c.toNat:Int):=by rw[rN];omega
def fdN(c:BitVec 32)(k:Nat)(a:k<=32):Int.fdiv (c.toNat:Int) (2^(min (Int.toNat (k:Int)) 32))=((c>>>k).toNat:Int):=by rw[show min (Int.toNat (k:Int)) 32=k by omega,YB _ (by exact_mod_cast B8 (2^k)),BitVec.toNat_ushiftRight,Nat.shiftRight_eq_div_pow];grind
def fd1(c:BitVec 32):Int.fdiv (c.toNat:Int) (2^(min (Int.toNat 1) 32))=((c>>>1).toNat:Int):=fdN c 1 (by decide)
def fd4(c:BitVec 32):Int.fdiv (c.toNat:Int) (2^(min (Int.toNat 4) 32))=((c>>>4).toNat:Int):=fdN c 4 (by decide)
def zK(c:BitVec 32):((IntKind.wrap .u32 (((BitVec.toNat ((BitVec.ofInt 32 (c.toNat:Int))&&&(BitVec.ofInt 32 1))):Nat):Int))==1)=c.getLsbD 0:=by rw[bvI,w32,BitVec.toNat_and,show(BitVec.ofInt 32 1).toNat=1 by decide,Nat.and_one_is_mod];rw[show c.getLsbD 0=c.toNat.testBit 0 from rfl,Nat.testBit_zero];grind
def AAL(c:BitVec 32):(bif ((IntKind.wrap .u32 (((BitVec.toNat ((BitVec.ofInt 32 (c.toNat:Int))&&&(BitVec.ofInt 32 1))):Nat):Int))==1)then
     some (IntKind.wrap .u32 (((BitVec.toNat ((BitVec.ofInt 32 (Int.fdiv (c.toNat:Int) (2^(min (Int.toNat 1) 32))))^^^(BitVec.ofInt 32 2197175160))):Nat):Int))
    else
    some (Int.fdiv (c.toNat:Int) (2^(min (Int.toNat 1) 32))):Option Int)=some ((Vx c).toNat:Int):=by
 rw[zK,fd1,bvI,w32];unfold Vx;grind
def ABR(c:BitVec 32):Ad Hd ((c.toNat:Int),0)=some ((fh 8 c).toNat:Int):=by
 have key:Az (Ad Hd ((c.toNat:Int),0)) λr=>r=((fh 8 c).toNat:Int):=by refine AM (λ(s:Int×Int)=>0<=s.2/\s.2<=8/\s.1=((fh s.2.toNat c).toNat:Int)) (λs=>(8-s.2).toNat) ⟨Af _,by dsimp only;omega,rfl⟩ ?_;rintro⟨g,a⟩ ⟨e,f,b⟩;dsimp only at e f b;subst b;refine AC (λd=>?_) (λd=>AA (by rw[show a.toNat=8 by omega]));rw[AAL,AF,AW];refine AA ⟨⟨by omega,by omega,?_⟩,by omega⟩;rw[show(a+1).toNat=a.toNat+1 by omega];rfl
 obtain⟨r,hr,rfl⟩:=key;exact hr
def wG(c:BitVec 32)(b:UInt8):IntKind.wrap .u32 (((BitVec.toNat ((BitVec.ofInt 32 (c.toNat:Int))^^^(BitVec.ofInt 32 (IntKind.wrap .u32 (b.toNat:Int))))):Nat):Int)=((c^^^BitVec.ofNat 32 b.toNat).toNat:Int):=by
 have a:=b.toNat_lt;have:IntKind.wrap .u32 (b.toNat:Int)=(b.toNat:Int):=by rw[rN];omega
 rw[this,bvI,S8,w32]
def xm{x:Bc}{i:Int}(a:0<=i)(c:i<x.length): ∃b:UInt8,six x i=some (b.toNat:Int)/\x.take (i+1).toNat=x.take i.toNat++[b]:=by obtain⟨k,rfl⟩:=EZ a;refine⟨x[k],?_,?_⟩;unfold six;grind;simp_all
def vr{x:Bc}(h:x.length<=2199023255552):El x=some (Ti x):=by
 have key:Az (Ad (Ha x) (4294967295,0)) λr=>r=((x.foldl cW 4294967295#32).toNat:Int):=by refine AM (λ(s:Int×Int)=>0<=s.2/\s.2<=x.length/\s.1=(((x.take s.2.toNat).foldl cW 4294967295#32).toNat:Int)) (λs=>((x.length:Int)-s.2).toNat) ⟨Af _,by dsimp only;omega,rfl⟩ ?_;rintro⟨f,g⟩ ⟨c,e,d⟩;dsimp only at c e d;subst d;unfold Ha;simp only[len];refine AC (λa=>?_) (λa=>AA (by rw[Cg (by omega)]));obtain⟨b,q1,q2⟩:=xm c a;rw[q1,AF,wG,ABR,AF,AW];refine AA ⟨⟨by omega,by omega,?_⟩,by omega⟩;rw[q2,YI];rfl
 obtain⟨r,hr,rfl⟩:=key;unfold El;rw[hr,AF,bvI];rw[show(BitVec.ofInt 32 (if(false=true)then(-1)else(if(false=true)then((2^(32-1))-1)else((2^32)-1))))=4294967295#32 by decide,w32];rfl
def ACg{d:BitVec 32}(b:d.getLsbD 0=false)(c:d.getLsbD 1=false)(f:d.getLsbD 2=false)(g:d.getLsbD 3=false):fh 4 d=d>>>4:=by
 have h: ∀e:BitVec 32,e.getLsbD 0=false->Vx e=e>>>1:=λe a=>by unfold Vx;rw[if_neg (by rw[a];decide)]
 show Vx (Vx (Vx (Vx d)))=_;grind
def AA0(c:BitVec 32):(c>>>4)^^^fh 4 (c&&&15#32)=fh 4 c:=by
 have d:c=(c&&& ~~~15#32)^^^(c&&&15#32):=by apply iJ;intro i a;rw[BitVec.getLsbD_xor,BitVec.getLsbD_and,BitVec.getLsbD_and,BitVec.getLsbD_not];grind
 have e:fh 4 (c&&& ~~~15#32)=c>>>4:=by
  have z: ∀i,i<4->(c&&& ~~~15#32).getLsbD i=false:=λi a=>by
   have:i=0\/i=1\/i=2\/i=3:=by omega
   grind
  rw[ACg (z 0 (by decide)) (z 1 (by decide)) (z 2 (by decide)) (z 3 (by decide))];apply iJ;intro i a;have b:(15#32).getLsbD (4+i)=false:=by show(15#32).toNat.testBit (4+i)=false;grind
  grind
 conv=>rhs;rw[d]
 rw[o6,e]
def ABN(c:BitVec 32):Ad KJ ((c.toNat:Int),0)=some ((fh 4 c).toNat:Int):=by
 have key:Az (Ad KJ ((c.toNat:Int),0)) λr=>r=((fh 4 c).toNat:Int):=by refine AM (λ(s:Int×Int)=>0<=s.2/\s.2<=4/\s.1=((fh s.2.toNat c).toNat:Int)) (λs=>(4-s.2).toNat) ⟨Af _,by dsimp only;omega,rfl⟩ ?_;rintro⟨g,a⟩ ⟨e,f,b⟩;dsimp only at e f b;subst b;refine AC (λd=>?_) (λd=>AA (by rw[show a.toNat=4 by omega]));rw[AAL,AF,AW];refine AA ⟨⟨by omega,by omega,?_⟩,by omega⟩;rw[show(a+1).toNat=a.toNat+1 by omega];rfl
 obtain⟨r,hr,rfl⟩:=key;exact hr
def vj(t:Fin (15+1)->(Ty.int IntKind.u32).D):Prop:= ∀j:Fin 16,t j=((fh 4 (BitVec.ofNat 32 j.val)).toNat:Int)
def ACC:Az (J3 ()) vj:=by
 refine AB (P:=vj) ?_ λr hr=>AA hr;refine AM (λ(s:Int×(Fin (15+1)->(Ty.int IntKind.u32).D))=>0<=s.1/\s.1<=16/\ ∀j:Fin 16,(j.val:Int)<s.1->s.2 j=((fh 4 (BitVec.ofNat 32 j.val)).toNat:Int)) (λs=>(16-s.1).toNat) ⟨Af _,by decide,λj c=>absurd c (by dsimp only;omega)⟩ ?_;rintro⟨i,l⟩ ⟨d,h,e⟩;refine AC (λb=>?_) (λb=>AA λj=>e j (by have:=j.isLt;omega));obtain⟨k,rfl⟩:=EZ d;have a:IntKind.wrap .u32 (k:Int)=((BitVec.ofNat 32 k).toNat:Int):=by rw[rN,S9];omega
 rw[a,ABN,AF];refine AB (Dh (by omega) (by omega)) λm f=>?_;refine AB (Dh (by omega) (by omega)) λn g=>AA ?_;rw[AW];unfold fS;grind
theorem xw{t:Fin (15+1)->(Ty.int IntKind.u32).D}(b:vj t)(c:BitVec 32):Ku t (IntKind.wrap .u32 (((BitVec.toNat ((BitVec.ofInt 32 (c.toNat:Int))&&&(BitVec.ofInt 32 15))):Nat):Int))=some ((fh 4 (c&&&15#32)).toNat:Int):=by
 rw[bvI,show BitVec.ofInt 32 15=15#32 by decide,w32];have a:(c&&&15#32).toNat<16:=by exact Nat.lt_succ_of_le Nat.and_le_right
 unfold Ku;rw[dif_pos ⟨by omega,by omega⟩];refine congrArg some ((b ⟨(c&&&15#32).toNat,a⟩).trans ?_);grind
def ABw(c:BitVec 32):IntKind.wrap .u32 (((BitVec.toNat ((BitVec.ofInt 32 (Int.fdiv (c.toNat:Int) (2^(min (Int.toNat 4) 32))))^^^(BitVec.ofInt 32 ((fh 4 (c&&&15#32)).toNat:Int)))):Nat):Int)=((fh 4 c).toNat:Int):=by rw[fd4,bvI,bvI,AA0,w32]
def uC: ∀(m n:Nat) (c:BitVec 32),fh m (fh n c)=fh (m+n) c
 |0,n,c=>by rw[fh,D4]
 |m+1,n,c=>by rw[fh,uC m n,Nat.succ_add];rfl
def zQ{x:Bc}(h:x.length<=2199023255552):RU x=some (Ti x):=by
 unfold RU;obtain⟨t,f,a⟩:=ACC;rw[f,AF];have key:Az (Ad (R6 x t) (4294967295,0)) λr=>r=((x.foldl cW 4294967295#32).toNat:Int):=by refine AM (λ(s:Int×Int)=>0<=s.2/\s.2<=x.length/\s.1=(((x.take s.2.toNat).foldl cW 4294967295#32).toNat:Int)) (λs=>((x.length:Int)-s.2).toNat) ⟨Af _,by dsimp only;omega,rfl⟩ ?_;rintro⟨i,j⟩ ⟨d,g,e⟩;dsimp only at d g e;subst e;unfold R6;simp only[len];refine AC (λc=>?_) (λc=>AA (by rw[Cg (by omega)]));obtain⟨b,q1,q2⟩:=xm d c;rw[q1,AF,wG,xw a,AF,AF,ABw,xw a,AF,AF,ABw,AW];refine AA ⟨⟨by omega,by omega,?_⟩,by omega⟩;rw[q2,YI,uC];rfl
 obtain⟨r,hr,rfl⟩:=key;rw[hr,AF,bvI];rw[show(BitVec.ofInt 32 (if(false=true)then(-1)else(if(false=true)then((2^(32-1))-1)else((2^32)-1))))=4294967295#32 by decide,w32];rfl
def Hw(p:Bc):Bc:=EY (p.length:Int) 4++(p++EY (Ti (EY (p.length:Int) 4++p)) 4)
theorem F4(p:Bc):(Hw p).length=p.length+8:=by unfold Hw;rw[Ag,Ag,BN,BN];omega
def gE{p:Bc}(h:p.length<=8392):D7 p=some (Hw p):=by
 unfold D7;simp only[len];rw[decide_eq_false (by omega),cond_false,HU (by simp) (by decide) (by decide),AF,B5];have a:sapp (EY (p.length:Int) (Int.toNat 4)) p=some (EY (p.length:Int) 4++p):=by unfold sapp;rw[if_pos (by rw[BN];omega)];rfl
 have c:(EY (p.length:Int) 4++p).length=p.length+4:=by rw[Ag,BN];omega
 rw[a,AF,vr (by omega),AF];have b:=kW (EY (p.length:Int) 4++p);rw[AW,HU (by omega) (by decide) (by decide),AF,Ax];rfl
def UF(al:Nat)(t:Bc):Bc×Int×Int:=
 if t.length<4 then([],0,5)else
 if rd (t.take 4)>8392 then([],0,2)else
 if(t.length:Int)<rd (t.take 4)+8 then([],0,5)else
 if rd ((t.drop (4+(rd (t.take 4)).toNat)).take 4)≠Ti (t.take (4+(rd (t.take 4)).toNat))then([],0,3)else
 ((t.drop 4).take (rd (t.take 4)).toNat,(al:Int)+8+rd (t.take 4),0)
def rd4{t:Bc}(h:4<=t.length):0<=rd (t.take 4)/\rd (t.take 4)<4294967296:=by
 have a:(t.take 4).length=4:=by rw[CH];omega
 have:=(ss (l:=t.take 4) (by omega)).1 (by omega);rw[a]at this;exact this
theorem S3{a t:Bc}(h:(a.length:Int)+t.length<=2199023255552):Bx (a++t,(a.length:Int))=some (UF a.length t):=by
 have b:len (a++t)=(a.length:Int)+t.length:=by unfold len;rw[List.length_append];omega
 have o:((a++t).length:Int)=(a.length:Int)+t.length:=b;unfold Bx UF;dsimp only;rw[decide_eq_false (by omega),cond_false,decide_eq_false (by omega),cond_false,fB h (by decide) (by decide)];by_cases g:t.length<4;rw[if_neg (by omega),if_pos g];rfl;rw[if_pos (by omega),if_neg g,AF,show Int.toNat 4=4 from rfl];obtain⟨p,u⟩:=rd4 (t:=t) (by omega);generalize hn:rd (t.take 4)=n at*;obtain⟨m,rfl⟩:=EZ p;rw[show((0:Int) !=0)=false by decide,cond_false];by_cases d:(m:Int)>8392;rw[decide_eq_true d,cond_true,if_pos d];rw[decide_eq_false d,cond_false,if_neg d,b,AW,AW];by_cases i:(t.length:Int)<(m:Int)+8;rw[decide_eq_true (by omega),cond_true,if_pos i];rw[decide_eq_false (by omega),cond_false,if_neg i,DD];have f:wi (wi ((a.length:Int)+4)+(m:Int))=((a++t.take (4+m)).length:Int):=by rw[AW (x:=(a.length:Int)+4),AW,Ag,CH];omega
 have j:a++t=(a++t.take (4+m))++t.drop (4+m):=by rw[Ax,F9]
 have s:((t.drop (4+m)).length:Int)=t.length-(4+m):=by rw[HA];omega
 have c:((a++t.take (4+m)).length:Int)=a.length+4+m:=by rw[Ag,CH];omega
 have l:Av (a++t,(wi (wi ((a.length:Int)+4)+(m:Int)),4))=some (rd ((t.drop (4+m)).take 4),0):=by
  rw[f];conv=>lhs;rw[j]
  rw[fB (by omega) (by decide) (by decide),if_pos (by omega)];rfl
 have q:Ro (a++t) (a.length:Int) (wi (wi ((a.length:Int)+4)+(m:Int)))=some (t.take (4+m)):=by unfold Ro;rw[f,if_pos (by omega),c,DD,RF,show((a.length:Int)+4+m).toNat-a.length=4+m by omega]
 have r:Ro (a++t) (wi ((a.length:Int)+4)) (wi (wi ((a.length:Int)+4)+(m:Int)))=some ((t.drop 4).take m):=by unfold Ro;rw[f,AW (x:=(a.length:Int)+4),if_pos (by omega),c,show((a.length:Int)+4).toNat=a.length+4 by omega,YD,YF (by omega),B5,VD,show((a.length:Int)+4+m).toNat-(a.length+4)=m by omega]
 rw[l,AF,q,AF,vr (by rw[CH];omega),AF,r];obtain⟨q1,q2⟩:=rd4 (t:=t.drop (4+m)) (by omega);have k:IntKind.wrap .u32 (rd ((t.drop (4+m)).take 4))=rd ((t.drop (4+m)).take 4):=by rw[rN];omega
 rw[k];by_cases e:rd ((t.drop (4+m)).take 4)=Ti (t.take (4+m));rw[if_neg (by simp[e]),e,bne_self_eq_false,cond_false,AF,AW (x:=(a.length:Int)+8),AW];rw[if_pos e,bne_iff_ne.2 e,cond_true]
def xK{x:Bc}{i:Int}(a:0<=i)(h:i>x.length):CN (x,(i,4))=some (0,5):=by unfold CN;dsimp only;simp only[len];rw[decide_eq_false (by decide),cond_false,decide_eq_false (by decide),cond_false,decide_eq_false (by omega),cond_false,decide_eq_true h,cond_true]
theorem Wu{a t:Bc}(h:(a.length:Int)+t.length<=2199023255552):FU (a++t,(a.length:Int))=some (UF a.length t):=by
 have g:len (a++t)=(a.length:Int)+t.length:=by unfold len;rw[List.length_append];omega
 have r:((a++t).length:Int)=(a.length:Int)+t.length:=g;unfold FU UF;dsimp only;rw[decide_eq_false (by omega),cond_false,decide_eq_false (by omega),cond_false,bQ h (by decide) (by decide)];by_cases j:t.length<4;rw[if_neg (by omega),if_pos j];rfl;rw[if_pos (by omega),if_neg j,AF,show Int.toNat 4=4 from rfl];obtain⟨s,w⟩:=rd4 (t:=t) (by omega);generalize hn:rd (t.take 4)=n at*;obtain⟨m,rfl⟩:=EZ s;rw[show((0:Int) !=0)=false by decide,cond_false];by_cases d:(m:Int)>8392;rw[decide_eq_true d,cond_true,if_pos d];rw[decide_eq_false d,cond_false,if_neg d];have i:wi (wi ((a.length:Int)+4)+(m:Int))=(a.length:Int)+4+m:=by rw[AW (x:=(a.length:Int)+4),AW]
 by_cases k:(t.length:Int)<(m:Int)+8;rw[if_pos k];have:CN (a++t,(wi (wi ((a.length:Int)+4)+(m:Int)),4))=some (0,5):=by
  rw[i];by_cases q:(a.length:Int)+4+m>(a++t).length;exact xK (by omega) q;have b:(a.length:Int)+4+m=((a++t.take (4+m)).length:Int):=by rw[Ag,CH];omega
  have f:a++t=(a++t.take (4+m))++t.drop (4+m):=by rw[Ax,F9]
  have p:((t.drop (4+m)).length:Int)=t.length-(4+m):=by rw[HA];omega
  rw[b];conv=>lhs;rw[f]
  rw[bQ (by omega) (by decide) (by decide),if_neg (by omega)]
 rw[this];rfl;rw[if_neg k,DD];have b:wi (wi ((a.length:Int)+4)+(m:Int))=((a++t.take (4+m)).length:Int):=by rw[i,Ag,CH];omega
 have f:a++t=(a++t.take (4+m))++t.drop (4+m):=by rw[Ax,F9]
 have p:((t.drop (4+m)).length:Int)=t.length-(4+m):=by rw[HA];omega
 have c:((a++t.take (4+m)).length:Int)=a.length+4+m:=by rw[Ag,CH];omega
 have l:CN (a++t,(wi (wi ((a.length:Int)+4)+(m:Int)),4))=some (rd ((t.drop (4+m)).take 4),0):=by
  rw[b];conv=>lhs;rw[f]
  rw[bQ (by omega) (by decide) (by decide),if_pos (by omega)];rfl
 have u:Ro (a++t) (a.length:Int) (wi (wi ((a.length:Int)+4)+(m:Int)))=some (t.take (4+m)):=by unfold Ro;rw[b,if_pos (by omega),c,DD,RF,show((a.length:Int)+4+m).toNat-a.length=4+m by omega]
 have v:Ro (a++t) (wi ((a.length:Int)+4)) (wi (wi ((a.length:Int)+4)+(m:Int)))=some ((t.drop 4).take m):=by unfold Ro;rw[b,AW (x:=(a.length:Int)+4),if_pos (by omega),c,show((a.length:Int)+4).toNat=a.length+4 by omega,YD,YF (by omega),B5,VD,show((a.length:Int)+4+m).toNat-(a.length+4)=m by omega]
 rw[l,AF,show(((rd ((t.drop (4+m)).take 4),(0:Int)):Int×Int).2 !=0)=false from rfl,cond_false,u,AF,zQ (by rw[CH];omega),AF,v];have o:=kW (t.take (4+m));rw[AW (x:=Ti (t.take (4+m)))];by_cases e:rd ((t.drop (4+m)).take 4)=Ti (t.take (4+m));rw[if_neg (by simp[e]),e,bne_self_eq_false,cond_false,AF,i,AW];refine congrArg some (HZ rfl (HZ ?_ rfl));dsimp only;omega;rw[if_pos e,bne_iff_ne.2 e,cond_true]
def pg{a:Nat}{t:Bc}(h:(UF a t).2.2=0):(UF a t).1.length<=8392/\(∃c,t=Hw (UF a t).1++c)/\(UF a t).2.1=(a:Int)+8+(UF a t).1.length:=by
 unfold UF at h⊢;by_cases i:t.length<4;rw[if_pos i]at h;exact absurd h (by decide);rw[if_neg i]at h⊢;obtain⟨p,q⟩:=rd4 (t:=t) (by omega);by_cases j:rd (t.take 4)>8392;rw[if_pos j]at h;exact absurd h (by decide);rw[if_neg j]at h⊢;by_cases k:(t.length:Int)<rd (t.take 4)+8;rw[if_pos k]at h;exact absurd h (by decide);rw[if_neg k]at h⊢;by_cases b:rd ((t.drop (4+(rd (t.take 4)).toNat)).take 4)≠Ti (t.take (4+(rd (t.take 4)).toNat));rw[if_pos b]at h;exact absurd h (by decide);rw[if_neg b]at h⊢;have b:=Decidable.not_not.1 b;dsimp only;have hl4:(t.take 4).length=4:=by rw[CH];omega
 have f:EY (rd (t.take 4)) 4=t.take 4:=by have:=o8 (l:=t.take 4) (by omega);rwa [hl4]at this
 generalize hn:rd (t.take 4)=n at*;obtain⟨m,rfl⟩:=EZ p;rw[DD]at b⊢;have g:((t.drop 4).take m).length=m:=by rw[CH,HA];omega
 refine⟨by omega,?_,by omega⟩;have o:t.take (4+m)=EY (m:Int) 4++(t.drop 4).take m:=by rw[List.take_add,f]
 have e:((t.drop (4+m)).take 4).length=4:=by rw[CH,HA];omega
 have d:EY (Ti (t.take (4+m))) 4=(t.drop (4+m)).take 4:=by rw[<-b];have:=o8 (l:=(t.drop (4+m)).take 4) (by omega);rwa [e]at this
 refine⟨t.drop (4+m+4),?_⟩;unfold Hw;rw[g,<-o,d,<-Ax,<-o];conv=>lhs;rw[<-F9 (4+m) t,<-F9 4 (t.drop (4+m)),PZ]
 rw[Ax]
theorem kz{d:Nat}{p a:Bc}(h:p.length<=8392):UF d (Hw p++a)=(p,((d:Int)+8+p.length,0)):=by
 have k:Wz 4 (p.length:Int):=⟨λ_=>⟨by omega,by rw[show(256:Int)^4=4294967296 by decide];omega⟩,by omega⟩
 have m:=kW (EY (p.length:Int) 4++p);have c:Wz 4 (Ti (EY (p.length:Int) 4++p)):=⟨λ_=>⟨by omega,by rw[show(256:Int)^4=4294967296 by decide];omega⟩,by omega⟩
 have l:=F4 p;have f:(Hw p++a).take 4=EY (p.length:Int) 4:=by unfold Hw;rw[Ax];exact O6 (BN _ _)
 have e:rd (EY (p.length:Int) 4)=p.length:=jW (by decide) k;have b:(Hw p++a).length=p.length+8+a.length:=by rw[Ag,l]
 have g:(Hw p++a).take (4+p.length)=EY (p.length:Int) 4++p:=by unfold Hw;rw[<-Ax,Ax];exact O6 (by rw[Ag,BN])
 have i:(Hw p++a).drop (4+p.length)=EY (Ti (EY (p.length:Int) 4++p)) 4++a:=by unfold Hw;rw[<-Ax,Ax];exact List.drop_left' (by rw[Ag,BN])
 have j:(Hw p++a).drop 4=p++(EY (Ti (EY (p.length:Int) 4++p)) 4++a):=by unfold Hw;rw[Ax,Ax];exact List.drop_left' (BN _ _)
 unfold UF;rw[f,e,DD,g,i,j,b,if_neg (by omega),if_neg (by omega),if_neg (by omega),O6 (BN _ _),jW (by decide) c,if_neg (by simp),O6 rfl]
def CI(b:DT):Prop:=b.1.length<=1099511627776/\0<=b.2.1/\b.2.1<=b.1.length
def MX{b:DT}{x:Int}(h:CI b)(c:0<=x/\x<=8):Az (BB b x) λr=>CI r.2/\(x<=4->0<=r.1/\r.1<4294967296):=by
 unfold BB;unfold CI at*
 repeat' first
   |with_reducible apply AL<;>intro a
   |with_reducible apply AA
   |(with_reducible refine AJ ?_ (CZ ?_);intro r hr)
 all_goals ((try dsimp[len]at*);(try first|omega|assumption|grind[AW]))
def M0{b:DT}{x:Int}(h:CI b)(d:0<=x/\x<=4294967296):Az (Cq b x) λr=>CI r.2:=by
 unfold Cq;unfold CI at*
 repeat' first
   |with_reducible apply AC<;>intro a
   |with_reducible apply AL<;>intro a
   |with_reducible apply AA
   |(with_reducible refine AJ ?_ (Dq ?_ ?_ ?_);rintro r ⟨hr,c⟩)
 all_goals ((try dsimp[len]at*);(try first|omega|assumption|grind[AW]))
def Tl{b:DT}{x:Unit}(h:CI b):Az (Ce b x) λr=>CI r.2:=by
 unfold Ce;repeat' with_reducible first|apply AC<;>intro a|apply AQ<;>intro a|apply AL<;>intro a|apply AI<;>intro a|apply AA|(refine AJ ?_ (MX ?_ ?_);intro r hr)|(refine AJ ?_ (M0 ?_ ?_);intro r hr)
 all_goals ((try dsimp[len]at*);(try first|omega|assumption|grind[CI]))
def Xd{x:Bc}(h:x.length<=1099511627776):Az (Dr x) λr=>r.2=0->OE r.1:=by
 unfold Dr;have b:CI (x,0,0):=⟨h,by simp,by simp⟩
 repeat' with_reducible first|apply AO<;>intro a|apply AL<;>intro a|apply AI<;>intro a|apply AA|(refine AJ ?_ (MX ?_ ?_);intro r hr)|(refine AJ ?_ (Tl ?_);intro r hr)|(refine AJ ?_ (M0 ?_ ?_);intro r hr)|(apply AB (CA);intro r hr)
 all_goals first|omega|assumption|(exact And.left (by assumption))|grind
def UA{x:Bc×List Int}{s:Bc×Int}(h:0<=s.2/\s.2<=x.2.length/\x.2.length<=16777216/\x.1.length<=1073741824/\(s.1.length:Int)<=x.1.length+8*s.2):Az (Ad (J8 x) s) λr=>(r.length:Int)<=x.1.length+8*x.2.length:=by
 refine AM (λ(s:Bc×Int)=>0<=s.2/\s.2<=x.2.length/\x.2.length<=16777216/\x.1.length<=1073741824/\(s.1.length:Int)<=x.1.length+8*s.2) (λ(s:Bc×Int)=>((x.2.length:Int)-s.2).toNat) h (λs b=>?_);unfold J8;repeat' with_reducible first|apply AC<;>intro a|apply AI<;>intro a|apply AA|(refine AJ ?_ (Cj ?_);intro r hr)|(refine AJ ?_ (AE ?_ ?_);rintro r ⟨hr,c⟩)
 all_goals ((try dsimp[len]at*);(try first|omega|assumption|grind[AW]))
def WQ{x:Bc×List Int}(h:x.2.length<=16777216/\x.1.length<=1073741824):Az (HG x) λr=>(r.length:Int)<=x.1.length+8*x.2.length:=by
 unfold HG;repeat' with_reducible first|apply AA|(refine AJ ?_ (UA ?_);intro r hr)
 all_goals ((try dsimp[len]at*);(try first|omega|assumption|grind[AW]))
def Uh{x:List Ah}{s:Bc×Int}(h:0<=s.2/\s.2<=x.length/\V2 x/\(s.1.length:Int)<=10+40000*s.2):Az (Ad (K4 x) s) λr=>(r.length:Int)<=10+40000*x.length:=by
 refine AM (λ(s:Bc×Int)=>0<=s.2/\s.2<=x.length/\V2 x/\(s.1.length:Int)<=10+40000*s.2) (λ(s:Bc×Int)=>((x.length:Int)-s.2).toNat) h (λs c=>?_);unfold K4;have⟨e,f,⟨b,a⟩,g⟩:=c;repeat' with_reducible first|apply AC<;>intro d|apply AI<;>intro d|apply AA|(refine AJ ?_ (Cj ?_);intro r hr)|(refine AJ ?_ (WQ ?_);intro r hr)|(refine AJ ?_ (AE ?_ ?_);rintro r ⟨hr,i⟩)
 all_goals try (have j:=a _ _ (by assumption))
 all_goals try unfold yF at*
 all_goals dsimp[len]at*
 all_goals first|omega|(refine⟨⟨?_,?_,⟨b,a⟩,?_⟩,?_⟩<;>(simp (disch:=omega) only[AW];omega))|grind
def Qb{x:List Ah}:Az (Jj x) λr=>r.1.length<=16777216:=by
 unfold Jj;repeat' with_reducible first|apply AO<;>intro a|apply AI<;>intro a|apply AA|(apply AB (De);intro r hr)|(refine AJ ?_ (Cj ?_);intro r hr)|(refine AJ ?_ (Uh ?_);intro r hr)
 all_goals ((try dsimp[len]at*);(try first|omega|assumption|grind[V2]))
def CJ(b:Bj):Prop:=b.1.length<=1099511627776/\0<=b.2.1/\b.2.1<=b.1.length
def F5{b:Bj}{x:Int}(h:CJ b)(c:0<=x/\x<=8):Az (CO b x) λr=>CJ r.2/\(x<=2->0<=r.1/\r.1<65536):=by
 unfold CO;unfold CJ at*
 repeat' first
   |with_reducible apply AI<;>intro a
   |with_reducible apply AA
   |(with_reducible refine AJ ?_ (CZ ?_);intro r hr)
 all_goals ((try dsimp[len]at*);(try first|omega|assumption|grind[AW]))
def SE  {s:Int×List Int×Bj}(h:0<=s.1/\s.1+s.2.1.length<=65536/\CJ s.2.2):Az (Ad (IW) s) λr=>CJ r.2/\r.1.length<=65536:=by
 refine AM (λ(s:Int×List Int×Bj)=>0<=s.1/\s.1+s.2.1.length<=65536/\CJ s.2.2) (λ(s:Int×List Int×Bj)=>s.1.toNat) h (λs c=>?_);unfold IW;repeat' with_reducible first|apply AC<;>intro a|apply AO<;>intro a|apply AI<;>intro a|apply AA|(refine AJ ?_ (F5 ?_ ?_);intro r hr)|(refine AJ ?_ (Ac ?_);rintro r ⟨hr,d,b⟩)
 all_goals ((try dsimp[len]at*);(try first|omega|assumption|grind[AW]))
def Tm{b:Bj}{x:Int}(h:CJ b)(a:0<=x/\x<=2):Az (Fv b x) λr=>CJ r.2:=by
 unfold Fv;repeat' with_reducible first|apply AA|(refine AJ ?_ (F5 ?_ ?_);intro r hr)|(refine AJ ?_ (SE ?_);intro r hr)
 all_goals ((try dsimp[len]at*);(try first|omega|assumption|grind[AW]))
def Ug  {s:Int×List Ah×Bj}(h:0<=s.1/\s.1+s.2.1.length<=65536/\CJ s.2.2):Az (Ad (K3) s) λr=>CJ r.2/\r.1.length<=65536:=by
 refine AM (λ(s:Int×List Ah×Bj)=>0<=s.1/\s.1+s.2.1.length<=65536/\CJ s.2.2) (λ(s:Int×List Ah×Bj)=>s.1.toNat) h (λs c=>?_);unfold K3;repeat' with_reducible first|apply AC<;>intro a|apply AO<;>intro a|apply AI<;>intro a|apply AA|(refine AJ ?_ (F5 ?_ ?_);intro r hr)|(refine AJ ?_ (Tm ?_ ?_);intro r hr)|(refine AJ ?_ (Ac ?_);rintro r ⟨hr,d,b⟩)
 all_goals ((try dsimp[len]at*);(try first|omega|assumption|grind[AW]))
def Qa{x:Bc}(h:x.length<=1099511627776):Az (Ji x) λr=>r.1.length<=65536/\(r.2=0->V2 r.1):=by
 unfold Ji;have b:CJ (x,0,false):=⟨h,by simp,by simp⟩
 repeat' with_reducible first|apply AO<;>intro a|apply AL<;>intro a|apply AI<;>intro a|apply AA|(refine AJ ?_ (F5 ?_ ?_);intro r hr)|(refine AJ ?_ (Ug ?_);intro r hr)|(apply AB (De);intro r hr)
 all_goals ((try dsimp[len]at*);(try first|omega|assumption|grind[AW]))
def Uf{x:BW}{s:Bc×Int}(h:0<=s.2/\s.2<=x.length/\x.length<=64/\(s.1.length:Int)<=10+24*s.2):Az (Ad (H9 x) s) λr=>r.length<=2000:=by
 refine AM (λ(s:Bc×Int)=>0<=s.2/\s.2<=x.length/\x.length<=64/\(s.1.length:Int)<=10+24*s.2) (λ(s:Bc×Int)=>((x.length:Int)-s.2).toNat) h (λs b=>?_);unfold H9;repeat' with_reducible first|apply AC<;>intro a|apply AI<;>intro a|apply AA|(refine AJ ?_ (Cj ?_);intro r hr)|(refine AJ ?_ (AE ?_ ?_);rintro r ⟨hr,c⟩)
 all_goals ((try dsimp[len]at*);(try first|omega|assumption|grind[AW]))
def QZ{x:BW}:Az (Hg x) λr=>r.1.length<=2000:=by
 unfold Hg;repeat' with_reducible first|apply AO<;>intro a|apply AI<;>intro a|apply AA|(apply AB (Fz);intro r hr)|(refine AJ ?_ (Cj ?_);intro r hr)|(refine AJ ?_ (Uf ?_);intro r hr)
 all_goals ((try dsimp[len]at*);(try first|omega|assumption|grind[fE]))
def Ue{x:Bc}{a:Int×Int}{s:Int×List DX}(h:0<=s.1/\s.1<=a.1/\a.1<=65536/\x.length<=1099511627776/\s.2.length<=s.1):Az (Ad (H8 x a) s) λr=>r.length<=65536:=by
 refine AM (λ(s:Int×List DX)=>0<=s.1/\s.1<=a.1/\a.1<=65536/\x.length<=1099511627776/\s.2.length<=s.1) (λ(s:Int×List DX)=>(a.1-s.1).toNat) h (λs d=>?_);unfold H8;repeat' with_reducible first|apply AC<;>intro b|apply AI<;>intro b|apply AA|(refine AJ ?_ (CZ ?_);intro r hr)|(refine AJ ?_ (Ac ?_);rintro r ⟨hr,e,c⟩)
 all_goals ((try dsimp[len]at*);(try first|omega|assumption|grind[AW]))
def QY{x:Bc}(h:x.length<=1099511627776):Az (EQ x) λr=>(r.2=0->fE r.1)/\r.1.length<=65536:=by
 unfold EQ;repeat' with_reducible first|apply AC<;>intro a|apply AO<;>intro a|apply AL<;>intro a|apply AI<;>intro a|apply AA|(refine AJ ?_ (CZ ?_);intro r hr)|(refine AJ ?_ (Ue ?_);intro r hr)|(apply AB (Fz);intro r hr)
 all_goals ((try dsimp[len]at*);(try first|omega|assumption|grind[AW]))
def PL{x:CE}{s:Int}(h:0<=s/\s<=x.2.2.1.length/\(x.2.2.1.length:Int)<=16777216):Az (Ad (MR x) s) λr=>r≠ .inl true:=by
 refine AM (λ(s:Int)=>0<=s/\s<=x.2.2.1.length/\(x.2.2.1.length:Int)<=16777216) (λ(s:Int)=>((x.2.2.1.length:Int)-s).toNat) h (λs b=>?_);unfold MR;repeat' with_reducible first|apply AC<;>intro a|apply AI<;>intro a|apply AA|(refine AJ ?_ (AE ?_ ?_);rintro r ⟨hr,c⟩)
 all_goals ((try dsimp[len]at*);(try first|omega|assumption|grind[AW]))
def k9(x:CE):Prop:=1<=x.1/\x.1<=64/\V2 x.2.2.1/\fE x.2.2.2.2/\x.2.2.2.2.length=x.1
def ND{x:CE}(h:x.2.2.2.1.length<=16777216):Az (Gt x) λr=>r=true->k9 x:=by
 unfold Gt k9
 repeat' first
   |with_reducible apply AC<;>intro a
   |with_reducible apply AO<;>intro a
   |with_reducible apply AL<;>intro a
   |(with_reducible apply A2<;>(intro u b;try subst b))
   |with_reducible apply AA
   |(with_reducible apply AB (De);intro r hr)
   |(with_reducible refine AJ ?_ (OQ ?_);intro r hr)
   |(with_reducible apply AB (Fz);intro r hr)
   |(with_reducible refine AJ ?_ (PL ?_);intro r hr)
 all_goals ((try dsimp[len]at*);(try first|omega|assumption|grind[V2]))
def Uk{x:CE}{s:Bc×Int}(h:0<=s.2/\s.2<=x.2.2.2.1.length/\x.2.2.2.1.length<=16777216/\(s.1.length:Int)<=100000000+24*s.2):Az (Ad (IB x) s) λr=>r.length<=1073741824:=by
 refine AM (λ(s:Bc×Int)=>0<=s.2/\s.2<=x.2.2.2.1.length/\x.2.2.2.1.length<=16777216/\(s.1.length:Int)<=100000000+24*s.2) (λ(s:Bc×Int)=>((x.2.2.2.1.length:Int)-s.2).toNat) h (λs b=>?_);unfold IB;repeat' with_reducible first|apply AC<;>intro a|apply AI<;>intro a|apply AA|(refine AJ ?_ (Cj ?_);intro r hr)|(refine AJ ?_ (AE ?_ ?_);rintro r ⟨hr,c⟩)
 all_goals ((try dsimp[len]at*);(try first|omega|assumption|grind[AW]))
def Xt{x:CE}(h:x.2.2.2.1.length<=16777216):Az (Ga x) λr=>r.1.length<=2147483648:=by
 unfold Ga;repeat' with_reducible first|apply AO<;>intro a|apply AI<;>intro a|apply AA|(refine AJ ?_ (ND ?_);intro r hr)|(apply AB (Qb);intro r hr)|(refine AJ ?_ (Cj ?_);intro r hr)|(refine AJ ?_ (Uk ?_);intro r hr)|(apply AB (QZ);intro r hr)|(refine AJ ?_ (CY ?_);rintro r ⟨hr,b⟩)
 all_goals ((try dsimp[len]at*);(try first|omega|assumption|grind[AW]))
def Ry(c:FE):Bc:=bif c.1 then EY (c.2.length:Int) 1++c.2 else EY 255 1
def Br(e:AD):Bc:=
 EY e.1 8++(EY e.2.1 1++(EY e.2.2.1 4++(EY e.2.2.2.1 8++(EY e.2.2.2.2.1 8++(EY e.2.2.2.2.2.1 8++(EY e.2.2.2.2.2.2.1.1 4++(EY e.2.2.2.2.2.2.1.2.1 1++
 (Ry e.2.2.2.2.2.2.1.2.2.1++(Ry e.2.2.2.2.2.2.1.2.2.2++(EY (e.2.2.2.2.2.2.2.length:Int) 4++e.2.2.2.2.2.2.2))))))))))
theorem c7{c:FE}(h:HS c):(Ry c).length<=13:=by
 unfold Ry;cases c.1 with
 |true=>rw[cond_true,Ag,BN];have:=h.1;omega
 |false=>grind[BN]
def tW{s:Bc}{c:FE}(h:s.length<=1099511627776)(a:c.2.length<=8192):GB (s,c)=some (s++Ry c):=by grind[GB,Ry,Bool.not_false,HU,Bool.not_true,sapp,EY,Int.toNat,List.length_append,BN,List.append_assoc]
def OE.cells{e:AD}(h:OE e):HS e.2.2.2.2.2.2.1.2.2.1/\HS e.2.2.2.2.2.2.1.2.2.2/\e.2.2.2.2.2.2.2.length<=8192/\Wz 8 e.1/\Wz 1 e.2.1/\Wz 4 e.2.2.1/\Wz 8 e.2.2.2.1/\Wz 8 e.2.2.2.2.1/\Wz 8 e.2.2.2.2.2.1/\Wz 4 e.2.2.2.2.2.2.1.1/\Wz 1 e.2.2.2.2.2.2.1.2.1:=by
 have⟨a1,a2,a3,a4,a5,a6,a7,a8,j⟩:=h;have k: ∀n:Int,0<=n->n<=1099511627776->Wz 8 n:=λn l m=>⟨λh=>absurd h (by decide),by omega⟩
 have p: ∀n:Int,0<=n->n<=1073741824->Wz 4 n:=λn l m=>⟨λ_=>by rw[show(256:Int)^4=4294967296 by decide];omega,by omega⟩
 have o: ∀n:Int,0<=n->n<=255->Wz 1 n:=λn l m=>⟨λ_=>by rw[show(256:Int)^1=256 by decide];omega,by omega⟩
 have z:HS (false,[]):=⟨by decide,.inr rfl⟩
 refine and_assoc.1 (and_assoc.1 ⟨?_,k _ (by omega) (by omega),?_⟩);rcases j with⟨k1,f,d,g,c,a⟩|⟨k1,f,d,g,c,a,i,b⟩|⟨k1,f,d,g,c,a,i,b⟩|⟨k1,f,d,g,c,a,i⟩|j;exact⟨⟨a.2.2.2.2.1,a.2.2.2.2.2⟩,by rw[d];decide⟩;exact⟨⟨b.2.2.2.2.1,b.2.2.2.2.2⟩,by rw[c];decide⟩;rw[c,a];exact⟨⟨z,z⟩,by decide⟩;rw[a];exact⟨⟨z,z⟩,i⟩;have⟨k1,f,d,g,c,a,i,b⟩:=j;rw[i,b];exact⟨⟨z,z⟩,by decide⟩;have q:1<=e.2.1/\e.2.1<=8/\0<=e.2.2.1/\e.2.2.1<=1073741824/\0<=e.2.2.2.2.2.2.1.1/\e.2.2.2.2.2.2.1.1<64/\0<=e.2.2.2.2.2.2.1.2.1/\e.2.2.2.2.2.2.1.2.1<16:=by rcases j with⟨k1,f,d,g,c,a⟩|⟨k1,f,d,g,c,a,i,b⟩|⟨k1,f,d,g,c,a,i,b⟩|⟨k1,f,d,g,c,a,i⟩|j;have:=a.1;have:=a.2.1;have:=a.2.2.1;have:=a.2.2.2.1;omega;have:=b.1;have:=b.2.1;have:=b.2.2.1;have:=b.2.2.2.1;omega;grind[Oi];grind[Oi];grind[Oi]
 exact⟨o _ (by omega) (by omega),p _ (by omega) (by omega),k _ (by omega) (by omega),k _ (by omega) (by omega),k _ (by omega) (by omega),p _ (by omega) (by omega),o _ (by omega) (by omega)⟩
def R0{e:AD}(h:OE e):(Br e).length<=8392:=by have⟨a,b,c,_⟩:=h.cells;grind[c7,Br,List.length_append,BN]
def jc{e:AD}(h:OE e):FH e=some (Br e,0):=by have⟨c,d,i,_⟩:=h.cells;have l1:=c7 c;have l2:=c7 d;have⟨b,f,g⟩:=CA (x:=e);have a:b=true:=g.2 h;subst a;unfold FH;rw[f,AF,EI,cond_false];rw[HU (by simp) (by decide) (by decide),AF,B5];rw[HU (by simp only[Ag,BN];simp only[Int.reduceToNat];omega) (by decide) (by decide),AF];rw[HU (by simp only[Ag,BN];simp only[Int.reduceToNat];omega) (by decide) (by decide),AF];rw[HU (by simp only[Ag,BN];simp only[Int.reduceToNat];omega) (by decide) (by decide),AF];rw[HU (by simp only[Ag,BN];simp only[Int.reduceToNat];omega) (by decide) (by decide),AF];rw[HU (by simp only[Ag,BN];simp only[Int.reduceToNat];omega) (by decide) (by decide),AF];rw[HU (by simp only[Ag,BN];simp only[Int.reduceToNat];omega) (by decide) (by decide),AF];rw[HU (by simp only[Ag,BN];simp only[Int.reduceToNat];omega) (by decide) (by decide),AF];rw[tW (by simp only[Ag,BN];simp only[Int.reduceToNat];omega) (by have:=c.1;omega),AF];rw[tW (by simp only[Ag,BN];simp[Int.reduceToNat];omega) (by have:=d.1;omega),AF];rw[HU (by simp only[Ag,BN];simp[Int.reduceToNat];omega) (by decide) (by decide),AF];unfold sapp;rw[if_pos (by simp only[Ag,BN];simp[Int.reduceToNat];omega),AF];simp[Ax];rfl
def CS(x p:Bc)(c:Bc×Int×Int):Prop:=c.1=x/\(c.2.2=0-> ∃rest,x=p++rest/\c.2.1=p.length)
def ku{t:Bc}{k:Nat}(h:k<=t.length)(a:k<=8):Wz k (rd (t.take k))/\EY (rd (t.take k)) k=t.take k:=by grind[List.length_take,ss,o8]
def X4{x p:Bc}{c:Bc×Int×Int}{k:Nat}(h:CS x p c)(o:x.length<=1099511627776)(q:1<=k)(m:k<=8):Az (BB c (k:Int)) λr=>CS x (p++EY r.1 k) r.2/\(r.2.2.2=0->Wz k r.1)/\(c.2.2≠0->r=(0,c)):=by have⟨s,l,e⟩:=c;have⟨g,i⟩:=h;dsimp only at g i;subst g;unfold BB;refine AL (λd=>AA ⟨⟨rfl,λb=>absurd b d⟩,λb=>absurd b d,λ_=>rfl⟩) (λd=>?_);dsimp only at d;subst d;have⟨a,hr,n⟩:=i rfl;subst hr n;rw[Ag]at o;rw[fB (by omega) (by omega) (by omega)];by_cases j:(k:Int)<=a.length;rw[if_pos j,AF,DD];have⟨q1,q2⟩:=ku (t:=a) (k:=k) (by omega) m;rw[show((0:Int) !=0)=false by decide,cond_false];refine AA ⟨⟨rfl,λ_=>⟨a.drop k,?_,?_⟩⟩,λ_=>q1,λf=>absurd rfl f⟩;grind[List.append_assoc,List.take_append_drop];grind[AW,List.length_append,BN];rw[if_neg j,AF];rw[show((5:Int) !=0)=true by decide,cond_true];exact AA ⟨⟨rfl,λb=>absurd (show(5:Int)=0 from b) (by decide)⟩,λb=>absurd (show(5:Int)=0 from b) (by decide),λf=>absurd rfl f⟩
def xY{x p:Bc}{c:Bc×Int×Int}{n:Int}(h:CS x p c)(k:x.length<=1099511627776)(hn:c.2.2=0->0<=n/\n<4294967296):Az (Cq c n) λr=>CS x (p++r.1) r.2/\(r.2.2.2=0->(r.1.length:Int)=n/\c.2.2=0):=by have⟨s,g,e⟩:=c;have⟨d,f⟩:=h;dsimp only at d f hn;subst d;unfold Cq;by_cases j:e=0;subst j;have⟨a,hr,i⟩:=f rfl;have⟨l,q⟩:=hn rfl;subst hr i;obtain⟨m,rfl⟩:=EZ l;rw[Ag]at k;rw[show((0:Int) !=0)=false by decide,cond_false];simp only[len];rw[show wi (((p++a).length:Int)-(p.length:Int))=a.length by rw[Ag,AW];omega];by_cases o:(m:Int)<=a.length;rw[decide_eq_false (by omega),cond_false];rw[(by grind[AW,Ro,List.length_append,List.drop_left]:Ro (p++a) (wi (wi ((p.length:Int)+(m:Int))-(m:Int))) (wi ((p.length:Int)+(m:Int)))=some (a.take m)),AF];refine AA ⟨⟨rfl,λ_=>⟨a.drop m,?_,?_⟩⟩,λ_=>⟨?_,by first|rfl|trivial⟩⟩;grind[List.append_assoc,List.take_append_drop];grind[AW,List.length_append,List.length_take];grind[List.length_take];rw[decide_eq_true (by omega),cond_true];exact AA ⟨⟨rfl,λb=>absurd (show(5:Int)=0 from b) (by decide)⟩,λb=>absurd (show(5:Int)=0 from b) (by decide)⟩;grind[AA]
theorem xV{x p:Bc}{c:Bc×Int×Int}(h:CS x p c)(i:x.length<=1099511627776):Az (Ce c ()) λr=>CS x (p++Ry r.1) r.2/\(r.2.2.2=0->HS r.1):=by unfold Ce;refine AB (X4 (k:=1) h i (by decide) (by decide)) λv n=>?_;have⟨⟨f,j⟩,q,y⟩:=n;refine AL (λd=>AA ⟨⟨f,λb=>absurd b d⟩,λb=>absurd b d⟩) (λd=>?_);have⟨e,hr,g⟩:=j d;have m:=(q d).1 (by decide);rw[show(256:Int)^1=256 by decide]at m;refine AQ (λa=>AA ⟨⟨f,λ_=>⟨e,?_,?_⟩⟩,λ_=>⟨B8 _,.inr rfl⟩⟩) (λa=>?_);dsimp only;rw[a]at hr;exact hr;dsimp only;rw[a]at g;exact g;refine AC (λ_=>AA ⟨⟨f,λb=>absurd (show(4:Int)=0 from b) (by decide)⟩,λb=>absurd (show(4:Int)=0 from b) (by decide)⟩) (λl=>?_);refine AB (xY (x:=x) (p:=p++EY v.1 1) ⟨f,j⟩ i (λ_=>⟨by omega,by omega⟩)) λw o=>AA ?_;have⟨⟨s,z⟩,t⟩:=o;refine⟨⟨s,λb=>?_⟩,λb=>?_⟩;grind[Ry,EY,List.append_assoc];dsimp only at b⊢;have⟨u,_⟩:=t b;exact⟨by dsimp only;omega,.inl rfl⟩
def Vu{x p a:Bc}{n:Int}{k:Nat}(e:x=p++(EY n k++a))(d:x.length<=1099511627776)(b:1<=k)(c:k<=8)(hn:Wz k n):BB (x,((p.length:Int),0)) (k:Int)=some (n,(x,(((p++EY n k).length:Int),0))):=by grind[List.length,List.length_append,BN,BB,fB,Int.toNat_natCast,List.take_left',jW,AW]
theorem xX{x p w a:Bc}(c:x=p++(w++a))(d:x.length<=1099511627776):Cq (x,((p.length:Int),0)) (w.length:Int)=some (w,(x,(((p++w).length:Int),0))):=by
 have b:=congrArg List.length c;simp[Ag]at b;unfold Cq;dsimp only;rw[show((0:Int) !=0)=false by decide,cond_false];simp only[len];rw[show decide ((w.length:Int)>wi ((x.length:Int)-(p.length:Int)))=false from decide_eq_false (by rw[AW];omega),cond_false];have e:Ro x (wi (wi ((p.length:Int)+(w.length:Int))-(w.length:Int))) (wi ((p.length:Int)+(w.length:Int)))=some w:=by rw[AW (x:=(p.length:Int)+(w.length:Int)),AW];unfold Ro;rw[if_pos (by omega),c,show((p.length:Int)+(w.length:Int)-(w.length:Int)).toNat=p.length by omega,RF,show((p.length:Int)+(w.length:Int)).toNat-p.length=w.length by omega,Zn]
 grind[AW,List.length_append]
def xU{x p a:Bc}{c:FE}(e:x=p++(Ry c++a))(i:x.length<=1099511627776)(k:HS c):Ce (x,((p.length:Int),0)) ()=some (c,(x,(((p++Ry c).length:Int),0))):=by
 have⟨b,d⟩:=c;have⟨j,f⟩:=k;dsimp only at j f;unfold Ce;cases b with
 |false=>
  have l:d=[]:=by rcases f with h|h;cases h;exact h
  subst l;rw[(rfl:Ry (false,[])=EY 255 1)]at e⊢;rw[show(1:Int)=((1:Nat):Int)from rfl,Vu e i (by decide) (by decide) ⟨λ_=>by decide,by decide,by decide⟩];rfl
 |true=>have g:Ry (true,d)=EY (d.length:Int) 1++d:=rfl;rw[g,Ax]at e;rw[g];rw[show(1:Int)=((1:Nat):Int)from rfl,Vu e i (by decide) (by decide) ⟨λ_=>by rw[show(256:Int)^1=256 by decide];omega,by omega⟩,AF];grind[xX,List.append_assoc]
def ABK{x:Bc}(a:x.length<=1099511627776):Az (Dr x) λr=>r.2=0->x=Br r.1/\HS r.1.2.2.2.2.2.2.1.2.2.1/\HS r.1.2.2.2.2.2.2.1.2.2.2/\Wz 4 (r.1.2.2.2.2.2.2.2.length:Int)/\Ck r.1=some true:=by
 unfold Dr;have I:CS x [] (x,(0,0)):=⟨rfl,λ_=>⟨x,rfl,rfl⟩⟩
 refine AB (X4 (k:=8) I a (by decide) (by decide)) λO y=>?_;refine AB (X4 (k:=1) y.1 a (by decide) (by decide)) λP z=>?_;refine AB (X4 (k:=4) z.1 a (by decide) (by decide)) λQ A=>?_;refine AB (X4 (k:=8) A.1 a (by decide) (by decide)) λR B=>?_;refine AB (X4 (k:=8) B.1 a (by decide) (by decide)) λS C=>?_;refine AB (X4 (k:=8) C.1 a (by decide) (by decide)) λT D=>?_;refine AB (X4 (k:=4) D.1 a (by decide) (by decide)) λU E=>?_;refine AB (X4 (k:=1) E.1 a (by decide) (by decide)) λV F=>?_;refine EM (xV F.1 a) λq M o=>?_;refine EM (xV o.1 a) λs w p=>?_;refine AB (X4 (k:=4) p.1 a (by decide) (by decide)) λj b=>?_;refine AB (xY (n:=j.1) b.1 a (λc=>?_)) λJ f=>?_;have:=(b.2.1 c).1 (by decide);rw[show(256:Int)^4=4294967296 by decide]at this;exact this;refine AL (λh=>AA λc=>absurd c h) (λh=>?_);refine AL (λ_=>AA λc=>absurd c (by decide)) (λG=>?_);refine EM (CA) λK i _=>?_;refine AO (λ_=>AA λc=>absurd c (by decide)) (λH=>AA λ_=>?_);subst H;obtain⟨q11,d⟩:=f.2 h;have l:s.2.2.2=0:=OT λe=>by have:=b.2.2 e;rw[this]at d;exact e d
 have u:=p.2 l;have L:q.2.2.2=0:=OT λe=>by
  have:s=((false,[]),q.2):=by have:=w;unfold Ce BB at this;rw[bne_iff_ne.2 e,cond_true,AF,bne_iff_ne.2 e,cond_true]at this;injection this with this;exact this.symm
  rw[this]at l;exact e l
 have t:=o.2 L;obtain⟨g,m,N⟩:=f.1.2 h;have hr:g=[]:=by simp only[len]at G;have v:=congrArg List.length m;rw[Ag]at v;exact EJ (by omega)
 subst hr;refine⟨?_,t,u,?_,i⟩;rw[m];unfold Br;dsimp only;rw[q11];simp only[Ax,B5,Dm];dsimp only;rw[q11];exact b.2.1 d
def xW{e:AD}(h:OE e):Dr (Br e)=some (e,0):=by
 obtain⟨s,t,H,w,y,z,A,B,C,D,E⟩:=h.cells;have I:=R0 h;have g:Wz 4 (e.2.2.2.2.2.2.2.length:Int):=⟨λ_=>by rw[show(256:Int)^4=4294967296 by decide];omega,by omega⟩
 have a:Br e=[]++(EY e.1 8++(EY e.2.1 1++(EY e.2.2.1 4++(EY e.2.2.2.1 8++(EY e.2.2.2.2.1 8++(EY e.2.2.2.2.2.1 8++(EY e.2.2.2.2.2.2.1.1 4++(EY e.2.2.2.2.2.2.1.2.1 1++
 (Ry e.2.2.2.2.2.2.1.2.2.1++(Ry e.2.2.2.2.2.2.1.2.2.2++(EY (e.2.2.2.2.2.2.2.length:Int) 4++(e.2.2.2.2.2.2.2++[])))))))))))):=by rw[Dm];rfl
 generalize Br e=x at*;have i:BB (x,(((0:Int)),0)) 8=_:=Vu (p:=[]) (k:=8) a (by omega) (by decide) (by decide) w;rw[B5]at i;rw[B5]at a;have j:=Vu (k:=1) a (by omega) (by decide) (by decide) y;rw[<-Ax]at a;have l:=Vu (k:=4) a (by omega) (by decide) (by decide) z;rw[<-Ax]at a;have m:=Vu (k:=8) a (by omega) (by decide) (by decide) A;rw[<-Ax]at a;have n:=Vu (k:=8) a (by omega) (by decide) (by decide) B;rw[<-Ax]at a;have o:=Vu (k:=8) a (by omega) (by decide) (by decide) C;rw[<-Ax]at a;have q:=Vu (k:=4) a (by omega) (by decide) (by decide) D;rw[<-Ax]at a;have r:=Vu (k:=1) a (by omega) (by decide) (by decide) E;rw[<-Ax]at a;have F:=xU a (by omega) s;rw[<-Ax]at a;have G:=xU a (by omega) t;rw[<-Ax]at a;have c:=Vu (k:=4) a (by omega) (by decide) (by decide) g;rw[<-Ax]at a;have d:=xX a (by omega);rw[Dm]at a;rw[<-a]at d;unfold Dr;rw[i,AF];rw[show((1:Nat):Int)=1 from rfl]at j r;rw[show((4:Nat):Int)=4 from rfl]at l q c;rw[show((8:Nat):Int)=8 from rfl]at m n o;rw[j,AF,l,AF,m,AF,n,AF,o,AF,q,AF,r,AF,F,AF,G,AF,c,AF,d,AF];obtain⟨b,u,v⟩:=CA (x:=e);have f:b=true:=v.2 h;subst f;dsimp only[len];rw[show((0:Int) !=0)=false by decide,cond_false,bne_self_eq_false,cond_false];rw[show(e.1,(e.2.1,(e.2.2.1,(e.2.2.2.1,(e.2.2.2.2.1,(e.2.2.2.2.2.1,((e.2.2.2.2.2.2.1.1,(e.2.2.2.2.2.2.1.2.1,(e.2.2.2.2.2.2.1.2.2.1,e.2.2.2.2.2.2.1.2.2.2))),e.2.2.2.2.2.2.2)))))))=e from rfl,u,AF,EI,cond_false]
def cT{S R:Type}(I:S->Prop)(μ:S->Nat)(m:Nat)(Q:R->Prop):Step S R->Prop
 | .next s'=>I s'/\μ s'<m
 | .done r=>Q r
def Ix{S R:Type}{body:S->Option (Step S R)}(I:S->Prop)(a:S->Nat){Q:R->Prop}{s:S}(b:I s)(c: ∀s,I s->Az (body s) (cT I a (a s) Q)):Az (Ad body s) Q:=AM I a b λs d=>(c s d).mono λe h=>by cases e<;>exact h
theorem Az.next{S R:Type}{I:S->Prop}{a:S->Nat}{m:Nat}{Q:R->Prop}{s:S}(h:I s)(b:a s<m):Az (some (Step.next s)) (cT I a m Q):=⟨_,rfl,h,b⟩
theorem Az.done{S R:Type}{I:S->Prop}{a:S->Nat}{m:Nat}{Q:R->Prop}{r:R}(h:Q r):Az (some (Step.done r)) (cT I a m Q):=⟨_,rfl,h⟩
def Jr(l:List AD):Bc:=(l.map λe=>Hw (Br e)).flatten
def R2(l:List AD)(e:AD):Jr (l++[e])=Jr l++Hw (Br e):=by unfold Jr;grind
theorem gf(e:AD)(l:List AD):Jr (e::l)=Hw (Br e)++Jr l:=rfl
def kX{l:List AD}(h: ∀e∈l,OE e):(Jr l).length<=8400*l.length:=by
 induction l with
 |nil=>exact Ak _
 |cons e r b=>have c:=b λx a=>h x (Am.2 (.inr a));have d:=R0 (h e (Am.2 (.inl rfl)));rw[gf,Ag,F4,BV];omega
def uv{x p a:Bc}{at_:Int}{k:Nat}(c:x=p++a)(e:at_=p.length)(i:x.length≤1099511627776)(h:1≤k)(f:k≤8)(g:k≤a.length):
  ∃n b,Av (x,(at_,(k:Int)))=some (n,0)/\CN (x,(at_,(k:Int)))=some (n,0)/\x=(p++EY n k)++b/\Wz k n/\b.length+k=a.length:=by
 have d:=congrArg List.length c;rw[Ag]at d;obtain⟨q1,q2⟩:=ku (t:=a) g f;refine⟨rd (a.take k),a.drop k,?_,?_,?_,q1,?_⟩;rw[c,e,fB (by omega) (by omega) (by omega),if_pos (by omega),DD];rw[c,e,bQ (by omega) (by omega) (by omega),if_pos (by omega),DD];rw[q2,Ax,F9];exact c;rw[HA];omega
def dR{x p rest:Bc}{at_ n:Int}{k:Nat}(a:x=p++(EY n k++rest))(d:at_=p.length)(f:x.length≤1099511627776)(e:1≤k)(c:k≤8)(hn:Wz k n):
  Av (x,(at_,(k:Int)))=some (n,0)/\CN (x,(at_,(k:Int)))=some (n,0):=by
 have b:=congrArg List.length a;simp only[Ag,BN]at b;refine⟨?_,?_⟩;rw[a,d,fB (by rw[Ag,BN];omega) (by omega) (by omega),if_pos (by rw[Ag,BN];omega),DD,O6 (BN _ _),jW c hn];rw[a,d,bQ (by rw[Ag,BN];omega) (by omega) (by omega),if_pos (by rw[Ag,BN];omega),DD,O6 (BN _ _),jW c hn]
theorem WK{x:List Ao×Int×Bool×Cl}{s:Int×List Ao}(h:0<=s.1/\s.1<=x.1.length/\x.1.length<=16777216/\s.2.length<=s.1):Az (Ad (M9 x) s) λr=>r.length<=x.1.length:=by
 refine AM (λ(s:Int×List Ao)=>0<=s.1/\s.1<=x.1.length/\x.1.length<=16777216/\s.2.length<=s.1) (λ(s:Int×List Ao)=>((x.1.length:Int)-s.1).toNat) h (λs b=>?_);unfold M9;repeat' with_reducible first|refine AI ?_ ?_<;>intro c|(refine BE ?_;try dsimp only)|refine BP ?_|refine BX ?_|refine AA ?_|(refine AJ ?_ (AE ?_ ?_);rintro r ⟨hr,e⟩)|(refine AJ ?_ (Ac ?_);rintro r ⟨hr,d,a⟩)
 all_goals ((try dsimp only[len]at*);(try first|omega|assumption|grind[AW]))
def Jg{x:List Ao×Int×Bool×Cl}(h:x.1.length<=16777216):Az (GD x) λr=>r.length<=x.1.length:=by
 unfold GD;repeat' with_reducible first|apply AA|(refine AJ ?_ (WK ?_);intro r hr)
 all_goals grind
theorem WH{x:Aw×Int}{s:Int}(h:0<=s/\s<=x.1.1.length/\(x.1.1.length:Int)<=16777216/\0<=x.2/\x.2<x.1.2.length):Az (Ad (M5 x) s) λr=>True:=by
 refine AM (λ(s:Int)=>0<=s/\s<=x.1.1.length/\(x.1.1.length:Int)<=16777216/\0<=x.2/\x.2<x.1.2.length) (λ(s:Int)=>((x.1.1.length:Int)-s).toNat) h (λs a=>?_);unfold M5;repeat' with_reducible first|refine AI ?_ ?_<;>intro b|refine AA ?_|(refine AB (GC) ?_;intro r hr)|(refine AJ ?_ (AE ?_ ?_);rintro r ⟨hr,c⟩)
 all_goals ((try dsimp only[len]at*);(try first|omega|assumption|grind[AW]))
theorem WI{x:Aw×Int}{s:Int}(h:0<=s/\s<=x.2/\(x.2:Int)<=16777216/\0<=x.2/\x.2<x.1.2.length):Az (Ad (M6 x) s) λr=>True:=by
 refine AM (λ(s:Int)=>0<=s/\s<=x.2/\(x.2:Int)<=16777216/\0<=x.2/\x.2<x.1.2.length) (λ(s:Int)=>((x.2:Int)-s).toNat) h (λs a=>?_);unfold M6;repeat' with_reducible first|refine AI ?_ ?_<;>intro b|refine AA ?_|(refine AB (GC) ?_;intro r hr)|(refine AJ ?_ (AE ?_ ?_);rintro r ⟨hr,c⟩)
 all_goals ((try dsimp only[len]at*);(try first|omega|assumption|grind[AW]))
def af{x:Aw×Int}(h:x.1.1.length<=4096/\x.1.2.length<=4096)(b:0<=x.2/\x.2<x.1.2.length):Az (LY x) λr=>True:=by
 unfold LY;repeat' with_reducible first|(apply A2<;>(intro u a;try subst a))|apply AA|(refine AJ ?_ (WH ?_);intro r hr)|(refine AJ ?_ (WI ?_);intro r hr)
 all_goals grind
def WJ{x:List Ao×Ao}{s:Bool×Int×List Ao}(h:0<=s.2.1/\s.2.1<=x.1.length/\x.1.length<=4096/\s.2.2.length<=s.2.1+1/\(s.1=false->(s.2.2.length:Int)<=s.2.1)):Az (Ad (M8 x) s) λr=>r.2.length<=x.1.length+1/\(r.1=false->r.2.length<=x.1.length):=by
 refine AM (λ(s:Bool×Int×List Ao)=>0<=s.2.1/\s.2.1<=x.1.length/\x.1.length<=4096/\s.2.2.length<=s.2.1+1/\(s.1=false->(s.2.2.length:Int)<=s.2.1)) (λ(s:Bool×Int×List Ao)=>((x.1.length:Int)-s.2.1).toNat) h (λs c=>?_);unfold M8;repeat' with_reducible first|apply AC<;>intro a|apply AO<;>intro a|apply AL<;>intro a|(apply BE;try dsimp only)|apply BP|apply BX|apply AA|(apply AB (SC);intro r hr)|(refine AJ ?_ (AE ?_ ?_);rintro r ⟨hr,f⟩)|(refine AJ ?_ (Ac ?_);rintro r ⟨hr,d,b⟩)
 all_goals try (have e:=AW (x:=s.2.1+1))
 all_goals (first|omega|grind)
def ag{x:List Ao×Ao}(h:x.1.length<=4096):Az (LZ x) λr=>r.length<=x.1.length+1:=by
 unfold LZ;repeat' with_reducible first|apply AO<;>intro b|(apply BE;try dsimp only)|apply BP|apply BX|apply AA|(refine AJ ?_ (WJ ?_);intro r hr)|(refine AJ ?_ (Ac ?_);rintro r ⟨hr,c,a⟩)
 all_goals grind
def Ub{B:Nat}(t:B<=2000){s:Int×Aw}(h:0<=s.1/\s.1<=s.2.2.length/\s.2.1.length+s.2.2.length<=B):Az (Ad Pw s) λr=>r.1.length+r.2.length<=B:=by
 refine AM (λs=>0<=s.1/\s.1<=s.2.2.length/\s.2.1.length+s.2.2.length<=B) (λs=>s.2.2.length*3000+((s.2.2.length:Int)-s.1).toNat) h (λs m=>?_);obtain⟨f,o,g⟩:=m;refine AC (λd=>?_) (λd=>AA g);simp only[len]at d;refine AB (af (by dsimp only;omega) ⟨f,d⟩) λv _=>?_;refine AB (P:=λv:Int×Aw=>(v=s)\/(v.1= -1/\v.2.1.length<=s.2.1.length+1/\v.2.2.length+1=s.2.2.length)) ?_ λi l=>?_;refine AI (λ_=>?_) (λ_=>AA (.inl rfl));refine AB (AE f d) λu _=>?_;refine AB (ag (by dsimp only;omega)) λw g=>?_;refine AB (Bu (by omega) f) λy p=>?_;have e:=AW (x:=s.1+1);refine AB (Bu (by rw[e];omega) (by rw[e];simp only[len];omega) (by simp only[len];omega)) λz j=>?_;have n:=j.2;simp only[len]at n;refine AB (Ac (by simp;omega)) λA k=>?_;refine AB (Ac (by have:=k.2.1;simp at this;omega)) λC q=>?_;refine AA (.inr ⟨rfl,g,?_⟩);grind;apply AA;rcases l with rfl|⟨a,b,c⟩;have e:=AW (x:=i.1+1);grind;have e:wi (i.1+1)=0:=by rw[a];exact AW
 grind
def If{B:Nat}{x:Aw}(a:B<=2000)(h:x.1.length+x.2.length<=B):Az (FI x) λr=>r.1.length+r.2.length<=B:=by exact AB (Ub a ⟨by simp,by simp,h⟩) λr hr=>AA hr
theorem F7.of{x:Aw}{B:Nat}(a:B<=2000)(h:x.1.length+x.2.length<=B):F7 x:=⟨by omega,by omega⟩
def F7.nil:F7 (([],[]):Aw):=⟨by simp,by simp⟩
def K0{x:Aw×Int}(h:F7 x.1):Az (HE x) λr=>F7 r:=by refine AB (Ew h) λv e=>?_;refine AO (λ_=>AA h) (λc=>?_);have d:=e c;refine AB (Jg h.1) λa f=>?_;refine AB (Jg h.2) λb g=>?_;refine AB (If (B:=1024) (by decide) ?_) λr hr=>AA (F7.of (by decide) hr);unfold W3 at d;grind
def Xh{x:Aw×Int}(h:F7 x.1):Az (Nz x) λr=>F7 r:=by refine AB (Ew h) λv d=>?_;refine AO (λ_=>AA h) (λa=>?_);have c:=d a;refine AB (Jg h.2) λb e=>?_;refine AB (If (B:=1024) (by decide) ?_) λr hr=>AA (F7.of (by decide) hr);unfold W3 at c;grind
def R9{x:Aw×Int×Cl}(h:F7 x.1):Az (LW x) λr=>F7 r:=by refine AB (Ew h) λv d=>?_;refine AO (λ_=>AA h) (λa=>?_);have c:=d a;refine AB (Jg h.1) λb e=>?_;refine AB (If (B:=1024) (by decide) ?_) λr hr=>AA (F7.of (by decide) hr);unfold W3 at c;grind
theorem T7{x:Aw×Int}{s:Int×Ao}(h:0<=s.1/\s.1<=x.1.2.length/\x.1.2.length<=16777216):Az (Ad (J6 x) s) λr=>True:=by
 refine AM (λ(s:Int×Ao)=>0<=s.1/\s.1<=x.1.2.length/\x.1.2.length<=16777216) (λ(s:Int×Ao)=>((x.1.2.length:Int)-s.1).toNat) h (λs b=>?_);unfold J6;repeat' with_reducible first|refine AC ?_ ?_<;>intro a|refine AQ ?_ ?_<;>intro a|refine AA ?_|(refine AJ ?_ (AE ?_ ?_);rintro r ⟨hr,c⟩)
 all_goals ((try dsimp only[len]at*);(try first|omega|assumption|grind[AW]))
theorem H7{x:Aw×Int}(h:F7 x.1):Az (Ex x) λr=>r.2=true->W3 x.1:=by
 unfold Ex;repeat' with_reducible first|refine AI ?_ ?_<;>intro b|(refine BE ?_;try dsimp only)|refine BP ?_|refine BX ?_|refine L3 ?_|(refine A2 ?_ ?_<;>(intro u a;try subst a))|refine AA ?_|(refine AJ ?_ (Ew ?_);intro r hr)|(refine AJ ?_ (T7 ?_);intro r hr)
 all_goals ((try dsimp only[len]at*);(try first|omega|assumption|grind[F7]))
theorem VZ{x:Aw×Ao}{s:Int}(h:0<=s/\s<=x.1.2.length/\(x.1.2.length:Int)<=16777216/\x.1.1.length<=16777216):Az (Ad (MH x) s) λr=> ∀u,r= .inl u->0<=u/\u<=x.1.2.length:=by
 refine AM (λ(s:Int)=>0<=s/\s<=x.1.2.length/\(x.1.2.length:Int)<=16777216/\x.1.1.length<=16777216) (λ(s:Int)=>((x.1.2.length:Int)-s).toNat) h (λs a=>?_);unfold MH;repeat' with_reducible first|refine AI ?_ ?_<;>intro b|refine AA ?_|(refine AJ ?_ (He ?_);intro r hr)|(refine AJ ?_ (AE ?_ ?_);rintro r ⟨hr,c⟩)
 all_goals ((try dsimp only[len]at*);(try first|omega|assumption|grind[AW]))
theorem ZE{x:Aw×Ao}(h:F7 x.1):Az (II x) λr=>0<=r/\r<=x.1.2.length:=by
 unfold II;repeat' with_reducible first|refine AQ ?_ ?_<;>intro b|(refine A2 ?_ ?_<;>(intro u a;try subst a))|refine AA ?_|(refine AJ ?_ (He ?_);intro r hr)|(refine AJ ?_ (VZ ?_);intro r hr)
 all_goals ((try dsimp only[len]at*);(try first|omega|assumption|grind[F7]))
def WG{x:Aw×Ao}(h:F7 x.1):Az (M4 x) λr=>F7 r.1:=by refine AB (Ew h) λv o=>?_;refine AO (λ_=>AA F7.nil) (λl=>?_);have n:=o l;unfold W3 at n;refine AB M7 λ_ _=>?_;refine AO (λ_=>AA F7.nil) (λ_=>?_);refine AB (H7 h) λA _=>?_;apply AI<;>intro m;refine AI (λ_=>AA F7.nil) (λ_=>?_);refine AI (λ_=>AA h) (λz=>?_);grind;refine AI (λ_=>AA h) (λ_=>?_);refine AB (He h.1) λ_ _=>?_;refine AI (λ_=>AA h) (λ_=>?_);refine AI (λ_=>AA F7.nil) (λ_=>?_);refine AB (ZE h) λp e=>?_;refine AB (Bu (by omega) e.1 e.2) λq j=>?_;refine AB (Bu e.1 (by simp only[len];omega) (by simp only[len];omega)) λs a=>?_;have f:=a.2;simp only[len]at f;refine AB (Ac (by simp;omega)) λt b=>?_;have g:=b.2.1;simp at g;refine AB (Ac (by simp;omega)) λu c=>?_;have i:=c.2.1;simp at i;refine AB (Ac (by omega)) λw k=>?_;refine AB (If (B:=1025) (by decide) (by dsimp only;omega)) λy d=>?_;refine AB (He (by dsimp only;omega)) λ_ _=>?_;exact AA (F7.of (by decide) d)
def WN{x:List Int×Int}{s:Bool×Int×List Int}(h:0<=s.2.1/\s.2.1<=x.1.length/\x.1.length<=4096/\s.2.2.length<=s.2.1+1/\(s.1=false->(s.2.2.length:Int)<=s.2.1)):Az (Ad (Mz x) s) λr=>r.2.length<=x.1.length+1/\(r.1=false->r.2.length<=x.1.length):=by
 refine AM (λ(s:Bool×Int×List Int)=>0<=s.2.1/\s.2.1<=x.1.length/\x.1.length<=4096/\s.2.2.length<=s.2.1+1/\(s.1=false->(s.2.2.length:Int)<=s.2.1)) (λ(s:Bool×Int×List Int)=>((x.1.length:Int)-s.2.1).toNat) h (λs b=>?_);unfold Mz;repeat' with_reducible first|apply AC<;>intro a|apply AO<;>intro a|apply AL<;>intro a|apply AI<;>intro a|(apply BE;try dsimp only)|apply BP|apply BX|apply AA|(refine AJ ?_ (AE ?_ ?_);rintro r ⟨hr,g⟩)|(refine AJ ?_ (Ac ?_);rintro r ⟨hr,f,d⟩)
 all_goals try dsimp only[len]at*
 all_goals try (have e:=AW (x:=s.2.1+1))
 all_goals try (have c:=b.2.2.2.2 (by assumption))
 all_goals (try simp only[BV,Bt,Bool.true_eq_false,false_implies,and_true]at*)
 all_goals first|omega|grind
theorem N3{x:List Int×Int}(h:x.1.length<=4096):Az (E8 x) λr=>r.length<=x.1.length+1:=by
 unfold E8;repeat' with_reducible first|refine AO ?_ ?_<;>intro a|refine AI ?_ ?_<;>intro a|(refine BE ?_;try dsimp only)|refine BP ?_|refine BX ?_|refine AA ?_|(refine AJ ?_ (WN ?_);intro r hr)|(refine AJ ?_ (Ac ?_);rintro r ⟨hr,c,b⟩)
 all_goals ((try dsimp only[len]at*);(try first|omega|assumption|grind[AW]))
theorem T9{x:Aw}{s:List Int×Int}(h:0<=s.2/\s.2<=x.2.length/\x.2.length<=4096/\s.1.length<=s.2):Az (Ad (J7 x) s) λr=>r.length<=x.2.length:=by
 refine AM (λ(s:List Int×Int)=>0<=s.2/\s.2<=x.2.length/\x.2.length<=4096/\s.1.length<=s.2) (λ(s:List Int×Int)=>((x.2.length:Int)-s.2).toNat) h (λs b=>?_);unfold J7;repeat' with_reducible first|refine AC ?_ ?_<;>intro a|refine AI ?_ ?_<;>intro a|refine AA ?_|(refine AJ ?_ (N3 ?_);intro r hr)|(refine AJ ?_ (AE ?_ ?_);rintro r ⟨hr,c⟩)
 all_goals ((try dsimp only[len]at*);(try first|omega|assumption|grind[AW]))
theorem WM{x:Aw}(h:F7 x):Az (I9 x) λr=>r.length<=4096:=by
 unfold I9;repeat' with_reducible first|refine AI ?_ ?_<;>intro a|(refine BE ?_;try dsimp only)|refine BP ?_|refine BX ?_|refine AA ?_|(refine AJ ?_ (Ew ?_);intro r hr)|(refine AJ ?_ (T9 ?_);intro r hr)
 all_goals ((try dsimp only[len]at*);(try first|omega|assumption|grind[AW,W3]))
theorem Xi{x:Aw×Int}{b:Ao×Bool}{s:List Int×Int}(h:0<=s.2/\s.2<=x.1.1.length/\x.1.1.length<=1024/\s.1.length<=s.2):Az (Ad (N0 x b) s) λr=>r.length<=x.1.1.length:=by
 refine AM (λ(s:List Int×Int)=>0<=s.2/\s.2<=x.1.1.length/\x.1.1.length<=1024/\s.1.length<=s.2) (λ(s:List Int×Int)=>((x.1.1.length:Int)-s.2).toNat) h (λs c=>?_);unfold N0;repeat' with_reducible first|refine AC ?_ ?_<;>intro a|refine AI ?_ ?_<;>intro a|(refine BE ?_;try dsimp only)|refine BP ?_|refine BX ?_|refine AA ?_|(refine AJ ?_ (N3 ?_);intro r hr)|(refine AB (GC) ?_;intro r hr)|(refine AJ ?_ (AE ?_ ?_);rintro r ⟨hr,d⟩)
 all_goals ((try dsimp only[len]at*);(try first|omega|assumption|grind[AW]))
theorem Xj{x:Aw×Int}{b:Ao×Bool}{s:List Int×Int}(h:0<=s.2/\s.2<=x.1.2.length/\x.1.2.length<=1024/\s.1.length<=s.2+1024):Az (Ad (N1 x b) s) λr=>r.length<=4096:=by
 refine AM (λ(s:List Int×Int)=>0<=s.2/\s.2<=x.1.2.length/\x.1.2.length<=1024/\s.1.length<=s.2+1024) (λ(s:List Int×Int)=>((x.1.2.length:Int)-s.2).toNat) h (λs c=>?_);unfold N1;repeat' with_reducible first|refine AC ?_ ?_<;>intro a|refine AL ?_ ?_<;>intro a|refine AI ?_ ?_<;>intro a|(refine BE ?_;try dsimp only)|refine BP ?_|refine BX ?_|refine AA ?_|(refine AJ ?_ (N3 ?_);intro r hr)|(refine AB (GC) ?_;intro r hr)|(refine AJ ?_ (AE ?_ ?_);rintro r ⟨hr,d⟩)
 all_goals ((try dsimp only[len]at*);(try first|omega|assumption|grind[AW]))
def KZ{x:Aw×Int}(h:F7 x.1):Az (Hq x) λr=>r.length<=4096:=by unfold Hq;refine AB (H7 h) λg d=>?_;refine AO (λ_=>AA (by simp)) (λb=>?_);have c:=d b;unfold W3 at c;refine AB (Xi ⟨by simp,by simp,by omega,by simp⟩) λi f=>?_;refine AB (Xj ⟨by simp,by simp,by omega,by dsimp only;omega⟩) λe a=>?_;exact AA a
theorem Oo{x:Aw×List Int×Int}{a:List Int}{s:Int}(h:0<=s/\s<=a.length/\(a.length:Int)<=16777216/\1<=x.2.1.length/\x.2.1.length<=4096):Az (Ad (K1 x a) s) λr=> ∀u,r= .inl u->u=x.2.1:=by
 refine AM (λ(s:Int)=>0<=s/\s<=a.length/\(a.length:Int)<=16777216/\1<=x.2.1.length/\x.2.1.length<=4096) (λ(s:Int)=>((a.length:Int)-s).toNat) h (λs c=>?_);unfold K1;repeat' with_reducible first|refine AC ?_ ?_<;>intro b|refine AQ ?_ ?_<;>intro b|refine AI ?_ ?_<;>intro b|refine AA ?_|(refine AJ ?_ (AE ?_ ?_);rintro r ⟨hr,d⟩)
 all_goals ((try dsimp only[len]at*);(try first|omega|assumption|grind[AW]))
theorem Uc{x:Aw×List Int×Int}{b:Int}{s:Bool×Int}(h:0<=s.2/\s.2<=x.2.1.length/\x.2.1.length<=4096):Az (Ad (K2 x b) s) λr=>True:=by
 refine AM (λ(s:Bool×Int)=>0<=s.2/\s.2<=x.2.1.length/\x.2.1.length<=4096) (λ(s:Bool×Int)=>((x.2.1.length:Int)-s.2).toNat) h (λs c=>?_);unfold K2;repeat' with_reducible first|refine AC ?_ ?_<;>intro a|refine AQ ?_ ?_<;>intro a|refine AI ?_ ?_<;>intro a|refine AA ?_|(refine AJ ?_ (AE ?_ ?_);rintro r ⟨hr,d⟩)
 all_goals ((try dsimp only[len]at*);(try first|omega|assumption|grind[AW]))
def yZ(d:Nat){x:Aw×List Int×Int}(h:F7 x.1)(o:1<=x.2.1.length)(A:(x.2.1.length:Int)+d=x.2.2)(p:x.2.2<=4096):Az (dD EV (d+1) x) λr=>r.length<=4096:=by
 induction d generalizing x with
 |zero=>show Az (EV _ x) _;unfold EV;have e:=AW (x:=(x.2.1.length:Int)-1);refine AB (AE (by simp only[len];rw[e];omega) (by simp only[len];rw[e];omega)) λv _=>?_;refine AB (KZ h) λm f=>?_;refine AQ (λ_=>?_) (λc=>absurd (by simp only[len];omega) c);refine AB (Oo ⟨by simp,by simp,by omega,o,by omega⟩) λr hr=>?_;exact A2 (λu a=>AA (by rw[hr u a];omega)) (λ_ _=>AA (by simp))
 |succ d t=>show Az (EV _ x) _;unfold EV;have e:=AW (x:=(x.2.1.length:Int)-1);refine AB (AE (by simp only[len];rw[e];omega) (by simp only[len];rw[e];omega)) λv _=>?_;refine AB (KZ h) λm f=>?_;refine AQ (λ_=>?_) (λ_=>?_);refine AB (Oo ⟨by simp,by simp,by omega,o,by omega⟩) λr hr=>?_;exact A2 (λu a=>AA (by rw[hr u a];omega)) (λ_ _=>AA (by simp));refine AB (P:=λr=> ∀u,r= .inl u->u.length<=4096) ?_ λr hr=>A2 (λu a=>AA (hr u a)) (λ_ _=>AA (by simp));refine AM (λ(s:Int)=>0<=s/\s<=m.length) (λ(s:Int)=>((m.length:Int)-s).toNat) (s:=(0:Int)) ⟨by decide,by omega⟩ (λs q=>?_);unfold Px;have b:=AW (x:=s+1);refine AC (λc=>?_) (λ_=>AA (λu a=>by cases a));simp only[len]at c;refine AB (AE q.1 c) λB _=>?_;refine AB (Uc ⟨by simp,by simp,by omega⟩) λw _=>?_;refine AI (λ_=>AA ⟨by rw[b];omega,by rw[b];omega⟩) (λ_=>?_);refine AB (Ac (by simp;omega)) λy g=>?_;have k:=g.2.1;simp only[Bt]at k;refine AB (Ac (by simp;omega)) λn i=>?_;have l:=i.2.1;simp only[BV,Bt]at l;refine AB (t (x:=(x.1,n,x.2.2)) h (by dsimp only;omega) (by dsimp only;omega) p) λz j=>?_;exact AC (λ_=>AA λu a=>by cases a;exact j) (λ_=>AA ⟨by rw[b];omega,by rw[b];omega⟩)
def Xk{x:Aw×List Int×Int}(h:F7 x.1)(a:1<=x.2.1.length)(d:(x.2.1.length:Int)<=x.2.2)(b:x.2.2<=4096):Az (N2 x) λr=>True:=by obtain⟨r,hr,_⟩:=yZ (x.2.2-x.2.1.length).toNat h a (by omega) b;obtain⟨s,c⟩:=aX hr;exact⟨s,c,trivial⟩
def ZF{x:Aw×Int}(h:F7 x.1):Az (KY x) λr=>True:=by unfold KY;refine AB (P:=λ_=>True) ?_ λr _=>A2 (λ_ _=>AA trivial) (λ_ _=>AA trivial);refine AM (λs=>1<=s/\s<=4097) (λs=>(4097-s).toNat) ⟨by decide,by decide⟩ (λs d=>?_);unfold QW;have a:=AW (x:=s+1);refine AB (WM h) λe c=>?_;refine AC (λb=>?_) (λ_=>AA trivial);simp only[len]at b;refine AB (Xk h (by simp) (by show(1:Int)<=s;omega) (by show s<=4096;omega)) λf _=>?_;exact AC (λ_=>AA trivial) (λ_=>AA ⟨by rw[a];omega,by rw[a];omega⟩)
def TP(l:List Ah):Nat:=(l.map λt=>t.2.2.2.2.1.length+1).sum
theorem AAe{l:List Ah}{i:Nat}{o n:Ah}(h:l[i]? =some o):TP (l.set i n)+o.2.2.2.2.1.length=TP l+n.2.2.2.2.1.length:=by
 induction l generalizing i with
 |nil=>simp at h
 |cons t r a=>
  cases i with
  |zero=>simp at h;subst h;simp[TP];omega
  |succ i=>have:=a (i:=i) (by simpa using h);simp only[TP,List.set_cons_succ,BZ,S5]at*;omega
def nD{l:List Ah}{id:Int}:TP (l.filter λt=>t.1 !=id)<=TP l:=by
 induction l with
 |nil=>simp
 |cons t r a=>simp only[TC];split;simp only[TP,BZ,S5]at*;omega;simp only[TP,BZ,S5]at*;omega
def oQ{l:List Ah}{id:Int}{i:Nat}{t:Ah}(h:l[i]? =some t)(a:t.1=id):TP (l.filter λt=>t.1 !=id)<TP l:=by
 induction l generalizing i with
 |nil=>simp at h
 |cons u r b=>
  have q:=nD (l:=r) (id:=id);cases i with
  |zero=>simp at h;subst h;simp only[TC,a,bne_self_eq_false,Iz,if_false];simp only[TP,BZ,S5]at*;omega
  |succ i=>have:=b (i:=i) (by simpa using h);simp only[TC];split<;>(simp only[TP,BZ,S5]at*;omega)
theorem Vc{x:List Ah×Int}{s:Int×List Ah}(h:0<=s.1/\s.1<=x.1.length/\x.1.length<=64/\s.2.length=s.1):Az (Ad (MJ x) s) λr=>r.length<=x.1.length:=by
 refine AM (λ(s:Int×List Ah)=>0<=s.1/\s.1<=x.1.length/\x.1.length<=64/\s.2.length=s.1) (λ(s:Int×List Ah)=>((x.1.length:Int)-s.1).toNat) h (λs c=>?_);unfold MJ;repeat' with_reducible first|refine AC ?_ ?_<;>intro a|refine AI ?_ ?_<;>intro a|refine AA ?_|(refine AJ ?_ (AE ?_ ?_);rintro r ⟨hr,e⟩)|(refine AJ ?_ (Ac ?_);rintro r ⟨hr,d,b⟩)
 all_goals ((try dsimp only[len]at*);(try first|omega|assumption|grind[AW]))
theorem Ra{x:List Ah×Int}:Az (IK x) λr=>r.2=0->r.1.length=x.1.length+1/\r.1.length<=64:=by
 unfold IK;repeat' with_reducible first|refine AC ?_ ?_<;>intro a|refine AO ?_ ?_<;>intro a|refine AQ ?_ ?_<;>intro a|refine AI ?_ ?_<;>intro a|refine AA ?_|(refine AB (De) ?_;intro r hr)|(refine AJ ?_ (Hi ?_);intro r hr)|(refine AJ ?_ (Vc ?_);intro r hr)|(refine AJ ?_ (Ac ?_);rintro r ⟨hr,b,c⟩)|(refine AJ ?_ (Bu ?_ ?_ ?_);rintro r ⟨hr,b⟩)
 all_goals ((try dsimp only[len]at*);(try first|omega|assumption|grind[AW,V2]))
def vN(l:List Ah)(id:Int):List Ah:=l.filter λt=>t.1 !=id
theorem hZ(l:List Ah)(id:Int):(vN l id).length<=l.length:=LD _ _
theorem zb(l:List Ah)(id:Int):TP (vN l id)<=TP l:=nD
theorem zc{l:List Ah}{id:Int}{i:Nat}{t:Ah}(h:l[i]? =some t)(a:t.1=id):TP (vN l id)<TP l:=oQ h a
def nU{a:Type}{l:List a}{n:Int}{p:a->Bool}{x:a}(c:0<=n)(b:l[n.toNat]? =some x):(l.take (n+1).toNat).filter p=(l.take n.toNat).filter p++(if p x=true then [x]else []):=by
 have e:(n+1).toNat=n.toNat+1:=by omega
 rw[e,D3,b,J0,Jq];congr 1;simp only[TC,YG]
def qK{a:Type}{l:List a}{n:Int}{p:a->Bool}(b:0<=n):(((l.take n.toNat).filter p).length:Int)<=n:=by have c:=LD p (l.take n.toNat);have d:=CH (i:=n.toNat) (l:=l);omega
def Ui{x:List Ah×Int}{s:Int×List Ah}(h:0<=s.1/\s.1<=x.1.length/\x.1.length<=16777216/\s.2=(x.1.take s.1.toNat).filter (λt=>t.1 !=x.2)):Az (Ad (K5 x) s) λr=>r=x.1.filter λt=>t.1 !=x.2:=by
 refine AM (λ(s:Int×List Ah)=>0<=s.1/\s.1<=x.1.length/\x.1.length<=16777216/\s.2=(x.1.take s.1.toNat).filter (λt=>t.1 !=x.2)) (λ(s:Int×List Ah)=>((x.1.length:Int)-s.1).toNat) h (λs g=>?_);unfold K5;obtain⟨b,j,f,c⟩:=g;have a:=qK (l:=x.1) (p:=λt:Ah=>t.1 !=x.2) b;rw[<-c]at a;repeat' with_reducible first|apply AC<;>intro d|apply AL<;>intro d|apply AI<;>intro d|(apply BE;try dsimp only)|apply BP|apply BX|apply AA|(refine AJ ?_ (AE ?_ ?_);rintro r ⟨hr,m⟩)|(refine AJ ?_ (Ac ?_);rintro r ⟨hr,k,i⟩)
 all_goals dsimp only[len]at*
 all_goals first|omega|(have e:=AW (x:=s.1+1);rw[e];refine⟨⟨by omega,by omega,f,?_⟩,by omega⟩;rw[nU b (by assumption)];grind)|(rw[c,Cg (by omega)])|(simp;omega)
theorem Ih{x:List Ah×Int}(h:x.1.length<=16777216):Az (GZ x) λr=>r=vN x.1 x.2:=by
 unfold GZ vN
 repeat' first
   |with_reducible refine AI ?_ ?_<;>intro a
   |(with_reducible refine BE ?_;try dsimp only)
   |with_reducible refine BP ?_
   |with_reducible refine BX ?_
   |with_reducible refine AA ?_
   |(with_reducible refine AJ ?_ (Ui ?_);intro r hr)
 all_goals ((try dsimp only[len]at*);(try first|omega|assumption|grind[AW]))
theorem ML{x:Ah}(h:x.2.2.2.2.1.length<=16777216):Az (Hj x) λr=>r.1=x.1/\r.2.2.2.2=x.2.2.2.2:=by
 unfold Hj;repeat' with_reducible first|refine AC ?_ ?_<;>intro a|refine AQ ?_ ?_<;>intro a|refine AI ?_ ?_<;>intro a|(refine BE ?_;try dsimp only)|refine BP ?_|refine BX ?_|refine AA ?_|(refine AJ ?_ (AE ?_ ?_);rintro r ⟨hr,b⟩)
 all_goals ((try dsimp only[len]at*);(try first|omega|assumption|grind[AW]))
def Ke{x:List Ah×Int×Ah}(h:x.1.length<=16777216)(a:0<=x.2.1/\x.2.1<x.1.length):Az (Hs x) λr=>r=x.1.set x.2.1.toNat x.2.2:=by unfold Hs;refine AB (Ac (by simpa using h)) λr hr=>?_;obtain⟨hr,b,_⟩:=hr;rw[B5]at hr;subst hr;refine AB (AE a.1 a.2) λ_ _=>?_;refine AB (AE a.1 a.2) λ_ _=>?_;exact AA rfl
theorem Pz{x:List Ah×AD}{a:Ah}{s:Int×List Int}(h:0<=s.1/\s.1<=a.2.2.2.2.1.length/\a.2.2.2.2.1.length<=4096/\s.2.length<=s.1):Az (Ad (NC x a) s) λr=>r.length<=a.2.2.2.2.1.length:=by
 refine AM (λ(s:Int×List Int)=>0<=s.1/\s.1<=a.2.2.2.2.1.length/\a.2.2.2.2.1.length<=4096/\s.2.length<=s.1) (λ(s:Int×List Int)=>((a.2.2.2.2.1.length:Int)-s.1).toNat) h (λs d=>?_);unfold NC;repeat' with_reducible first|refine AC ?_ ?_<;>intro b|refine AL ?_ ?_<;>intro b|refine AI ?_ ?_<;>intro b|(refine BE ?_;try dsimp only)|refine BP ?_|refine BX ?_|refine AA ?_|(refine AJ ?_ (AE ?_ ?_);rintro r ⟨hr,f⟩)|(refine AJ ?_ (Ac ?_);rintro r ⟨hr,e,c⟩)
 all_goals ((try dsimp only[len]at*);(try first|omega|assumption|grind[AW]))
def cR(l:List Ah)(id:Int):Prop:= ∃(j:Nat) (t:Ah),l[j]? =some t/\t.1=id
theorem cR.set{l:List Ah}{i:Nat}{n:Ah}{id:Int}(h:i<l.length)(hn:n.1=id):cR (l.set i n) id:=⟨i,n,by rw[G9 h],hn⟩
def tP(l:List Ah)(kind tx:Int)(m:List Ah):Prop:=m.length<=l.length/\(tx=0->m=l)/\(tx≠0->kind≠1->(kind≠4->TP m<TP l)/\TP m<=TP l)/\(tx≠0->kind=4->cR m tx)
def aj{x:List Ah×AD}:Az (GF x) λr=>r.2=0->tP x.1 x.2.2.1 x.2.2.2.1 r.1:=by
 unfold GF;repeat' with_reducible first|apply AC<;>intro a|apply AO<;>intro a|apply AQ<;>intro a|apply AL<;>intro a|apply AI<;>intro a|(apply BE;try dsimp only)|apply BP|apply BX|apply L3|(apply BF;try dsimp only)|(apply BC;try dsimp only)|(apply A2<;>(intro u c;try subst c))|apply AA|(apply AB (De);intro r hr)|(apply AB (CA);intro r hr)|(refine AJ ?_ (Hi ?_);intro r hr)|(refine AJ ?_ (Pz ?_);intro r hr)|(refine AJ ?_ (Ih ?_);intro r hr)|(refine AJ ?_ (ML ?_);intro r hr)|(refine AJ ?_ (Ke ?_ ?_);intro r hr)|(refine AJ ?_ (AE ?_ ?_);rintro r ⟨hr,f⟩)|(refine AJ ?_ (Ac ?_);rintro r ⟨hr,e,b⟩)
 all_goals dsimp only[len]at*
 all_goals first|omega|(intro d;exact absurd d (by decide))|(unfold V2 yF at*;(first|omega|grind[tP,AAe,zc,zb,hZ,List.length_set,cR.set]))
theorem Qd{x:List Ah×Int}:Az (Hh x) λr=>r.2=0->V2 x.1/\0<=r.1/\r.1<x.1.length:=by
 unfold Hh;repeat' with_reducible first|refine AC ?_ ?_<;>intro a|refine AO ?_ ?_<;>intro a|refine AL ?_ ?_<;>intro a|refine AI ?_ ?_<;>intro a|refine AA ?_|(refine AB (De) ?_;intro r hr)|(refine AJ ?_ (Hi ?_);intro r hr)|(refine AJ ?_ (AE ?_ ?_);rintro r ⟨hr,b⟩)
 all_goals ((try dsimp only[len]at*);(try first|omega|assumption|grind[AW,V2]))
def ak{x:List Ah×Int}:Az (Lc x) λr=>r.2=0->r.1.length<=64:=by
 unfold Lc;repeat' with_reducible first|apply AQ<;>intro a|apply AL<;>intro a|apply AI<;>intro a|apply AA|(apply AB (Qd);intro r hr)|(refine AJ ?_ (Ke ?_ ?_);intro r hr)|(refine AJ ?_ (AE ?_ ?_);rintro r ⟨hr,e⟩)|(refine AJ ?_ (Ac ?_);rintro r ⟨hr,d,b⟩)
 all_goals try dsimp only[len]at*
 all_goals first|omega|(intro c;exact absurd c (by assumption))|grind[V2,yF,List.length_set]
def ai{x:List Ah×Int×Int}:Az (Lb x) λr=>r.2=0->r.1.length<=64:=by
 unfold Lb;repeat' with_reducible first|apply AC<;>intro a|apply AL<;>intro a|apply AI<;>intro a|apply AA|(apply AB (Qd);intro r hr)|(refine AJ ?_ (ML ?_);intro r hr)|(refine AJ ?_ (Ke ?_ ?_);intro r hr)|(refine AJ ?_ (AE ?_ ?_);rintro r ⟨hr,e⟩)|(refine AJ ?_ (Ac ?_);rintro r ⟨hr,b,c⟩)|(refine AJ ?_ (Bu ?_ ?_ ?_);rintro r ⟨hr,b⟩)
 all_goals try dsimp only[len]at*
 all_goals first|omega|(intro d;exact absurd d (by assumption))|grind[V2,yF,List.length_set,AW]
def cK{x:BW×Int×DX}(h:x.1.length<=16777216)(a:0<=x.2.1/\x.2.1<x.1.length):Az (Mh x) λr=>r=x.1.set x.2.1.toNat x.2.2:=by unfold Mh;refine AB (Ac (by simpa using h)) λr hr=>?_;obtain⟨hr,b,_⟩:=hr;rw[B5]at hr;subst hr;refine AB (AE a.1 a.2) λ_ _=>?_;refine AB (AE a.1 a.2) λ_ _=>?_;exact AA rfl
def SD{x:BW×AD}:Az (HF x) λr=>r.2=0->r.1.length=x.1.length/\(x.2.2.1≠7->r.1=x.1)/\(x.2.2.1=7->0<=x.2.2.2.2.2.2.2.1.1/\ ∃w,x.1[x.2.2.2.2.2.2.2.1.1.toNat]? =some w/\r.1=x.1.set x.2.2.2.2.2.2.2.1.1.toNat ((if x.2.2.2.2.2.2.1>w.1 then x.2.2.2.2.2.2.1 else w.1),w.2)):=by
 unfold HF;refine AB Fz λv d=>?_;refine AO (λa=>AA (λb=>absurd b (by decide))) (λa=>?_);refine AB CA λm l=>?_;refine AO (λa=>AA (λb=>absurd b (by decide))) (λg=>?_);refine AL (λa=>AA λ_=>⟨rfl,λ_=>rfl,λe=>absurd e a⟩) (λf=>?_);have d:OE x.2:=by grind
 have k:fE x.1:=by grind
 have c:0<=x.2.2.2.2.2.2.2.1.1:=by unfold OE U8 TW Oi at d;grind
 refine AC (λa=>AA (λb=>absurd b (by decide))) (λh=>?_);simp only[len]at h;refine AB (AE c) λw j=>?_;refine AB (cK (by have:=k.2;dsimp only;omega) ⟨c,by dsimp only;omega⟩) λu i=>AA λ_=>?_;subst i;exact⟨by simp,λe=>absurd f e,λ_=>⟨c,w,j.1,rfl⟩⟩
def Jl{x:AP×Int}(h:SB x.1):Az (GG x) λr=>Bd x.1=some true->KP x.1.1 x.1.2.2.1.2.1 x.1.2.2.2.1.2.1 x.1.2.2.2.2.2.2.2 x.1.2.2.2.2.2.2.1->0<=x.2->x.2<x.1.1->r=GM x.1.2.2.1.2.1 x.2:=by unfold GG;refine EM (By h) λv u y=>?_;refine AO (λa=>AA λe=>?_) (λa=>?_);rw[u,a]at e;cases e;refine AC (λa=>AA λ_ _ q=>absurd q (by omega)) (λq=>?_);refine AC (λa=>AA λ_ _ _ s=>absurd s (by omega)) (λs=>?_);have d:=y a;refine AB IJ λg t=>?_;refine AI (λa=>AA λ_ c j k=>?_) (λm=>?_);obtain⟨_,_,_,e,f,o,b⟩:=t.1 a;have:=(c x.2 j k).1 f o (by rw[b];exact e);rw[b]at this;exact this;refine AB (JC h) λl p=>?_;refine AI (λa=>AA λ_ c j k=>(c x.2 j k).2.1 _ (p.1 a).1 (p.1 a).2) (λn=>?_);refine AB (AE (by omega) (by have:=d.2.2.2.2.2.2.2;omega)) λr hr=>AA λ_ c j k=>?_;exact((c x.2 j k).2.2 r hr.1).2 (p.2 n) λf o e=>by obtain⟨i,w⟩:=Es o;exact absurd ⟨i,f,w,e⟩ (t.2 m d.2.2.2.1)
def LX(a b:Aj):Prop:=b.1=a.1/\ ∃t,b.2.1=a.2.1++t
def LX.refl(a:Aj):LX a a:=⟨rfl,[],by simp⟩
def LX.trans{a b c:Aj}(h:LX a b)(g:LX b c):LX a c:=by obtain⟨f,t,i⟩:=h;obtain⟨d,u,e⟩:=g;exact⟨d.trans f,t++u,by rw[e,i,Ax]⟩
def LX.get{a b:Aj}(h:LX a b){i:Nat}{e:AD}(c:a.2.1[i]? =some e):b.2.1[i]? =some e:=by obtain⟨f,t,d⟩:=h;rw[d,B6];exact c;rcases Ap i a.2.1.length with h|h;exact h;rw[Cs h]at c;cases c
def ACV(k:AP)(z:AD)(m:AP):Prop:=
 ∃e,m.2.2.1.2.1=k.2.2.1.2.1++[e]/\e.1=k.2.2.1.1+k.2.2.1.2.1.length/\e.2.1=z.2.1/\e.2.2.2.2.2=z.2.2.2.2.2/\
  (KI k->(e.2.1=1\/e.2.1=2)->0<=e.2.2.2.2.2.2.1.1->e.2.2.2.2.2.2.1.1<k.1->e.2.2.2.2.1=GM k.2.2.1.2.1 e.2.2.2.2.2.2.1.1)/\
  (z.2.1≠7->m.2.2.2.2.2.2.1=k.2.2.2.2.2.2.1)/\
  (z.2.1=7->0<=z.2.2.2.2.2.2.1.1/\ ∃w,k.2.2.2.2.2.2.1[z.2.2.2.2.2.2.1.1.toNat]? =some w/\m.2.2.2.2.2.2.1=k.2.2.2.2.2.2.1.set z.2.2.2.2.2.2.1.1.toNat ((if z.2.2.2.2.2.1>w.1 then z.2.2.2.2.2.1 else w.1),w.2))
def rQ(k:AP)(z:AD)(m:AP):Prop:=
 m.1=k.1/\LX k.2.2.1 m.2.2.1/\D0 m.2.2.1/\m.2.2.2.1=k.2.2.2.1/\m.2.2.2.2.1=k.2.2.2.2.1/\tP k.2.2.2.2.2.1 z.2.1 z.2.2.1 m.2.2.2.2.2.1/\m.2.2.2.2.2.2.2=k.2.2.2.2.2.2.2/\SB m/\ACV k z m
theorem Fh{x:AP×AD}(h:SB x.1):Az (EE x) λr=>r.2.2=0->VK x.1/\rQ x.1 x.2 r.1/\r.2.1=x.1.2.2.1.1+x.1.2.2.1.2.1.length:=by
 unfold EE;refine EM (By h) λv q F=>?_;refine AO (λa=>AA (λc=>absurd c (by decide))) (λa=>?_);have n:=F a;rw[a]at q;refine AB (P:=λs=>(∃u,s= .inl u/\u.2.1≠0)\/ ∃u,s= .inr u/\u.1.2.1=x.2.2.1/\u.1.2.2.1=x.2.2.2.1/\u.1.2.2.2.2.2=x.2.2.2.2.2.2) ?_ λs E=>?_
 ·repeat' with_reducible first|refine AC ?_ ?_<;>intro a|refine AO ?_ ?_<;>intro a|refine AL ?_ ?_<;>intro a|refine AI ?_ ?_<;>intro a|(refine BE ?_;try dsimp only)|refine BP ?_|refine BX ?_|refine L3 ?_|(refine BF ?_;try dsimp only)|(refine BC ?_;try dsimp only)|(refine A2 ?_ ?_<;>(intro u b;try subst b))|refine AA ?_|(refine AJ ?_ (FK ?_);intro r hr)|(refine AJ ?_ (AE ?_ ?_);rintro r ⟨hr,O⟩)
  all_goals ((try dsimp only[len]at*);(try first|omega|assumption|grind[AW,SB]))
 rcases E with⟨u,rfl,b⟩|⟨u,rfl,b⟩;exact BF (AA λc=>absurd c b);refine BC ?_;refine AB (B7) λQ A=>?_;refine AB (P:=λv:AD=>v.2.1=x.2.2.1/\v.2.2.1=x.2.2.2.1/\v.2.2.2.2.2=x.2.2.2.2.2.2/\(KI x.1->(v.2.1=1\/v.2.1=2)->0<=v.2.2.2.2.2.2.1.1->v.2.2.2.2.2.2.1.1<x.1.1->v.2.2.2.2.1=GM x.1.2.2.1.2.1 v.2.2.2.2.2.2.1.1)) ?_ λt d=>?_;refine AI (λa=>?_) (λa=>AA ⟨b.1,b.2.1,b.2.2,λ_ n=>absurd (A.2 n) (by simp[a])⟩);exact AB (Jl h) λw G=>AA ⟨b.1,b.2.1,b.2.2,λo _ H I=>G q o.2.1 H I⟩;refine AB (Xg) λi B=>?_;refine AL (λa=>AA (λc=>absurd c a)) (λa=>?_);obtain⟨a1,a2,a3,a4,a5⟩:=B a;dsimp only at a2 a3 a4 a5;refine AB (Gr) λp e=>?_;refine AB (aj) λJ l=>?_;refine AL (λa=>AA (λc=>absurd c a)) (λf=>?_);refine AB (SD) λK m=>?_;refine AL (λa=>AA (λc=>absurd c a)) (λg=>?_);refine AA λ_=>⟨n,?_⟩
 have M:=a2.1;have N:i.1.2.1.length=x.1.2.2.1.2.1.length+1:=by rw[a3];simp
 have C:=e.2 a1 (by dsimp only;omega) (by dsimp only;omega);obtain⟨L,y,k,z⟩:=e.1 C;dsimp only at y k z;have D:p.1=(i.2.1,t.2):=by
  have:(i.2.1-i.1.1).toNat=x.1.2.2.1.2.1.length:=by omega
  rw[this,a3]at k;simpa using k.symm
 have hn:=l f;have j:=(m g).2;rw[D]at hn j;dsimp only at hn j;rw[d.1,d.2.1]at hn;rw[d.1,d.2.2.1]at j;exact⟨⟨rfl,⟨a4,_,a3⟩,a1,rfl,rfl,hn,rfl,⟨h.1,by have:=hn.1;have:=h.2.1;dsimp only at*;omega,h.2.2⟩,(i.2.1,t.2),a3,a5,d.1,d.2.2.1,d.2.2.2,j⟩,a5⟩
def rQ.ki{k m:AP}{z:AD}(h:rQ k z m)(b:KI k)(a:z.2.1≠1/\z.2.1≠2/\z.2.1≠6/\z.2.1≠7):KI m:=by obtain⟨a1,_,_,a4,_,_,a7,_,e,c,g,d,i,j,f,l⟩:=h;unfold KI;rw[a1,a4,a7,c,f a.2.2.2];rw[<-d]at a;exact⟨b.1.app ⟨λh=>by omega,λh=>by omega,λh=>by omega⟩,b.2.1.app ⟨a.1,a.2.1⟩,b.2.2⟩
def rQ.sk{k m:AP}{z:AD}(h:rQ k z m)(a:SK k)(b:z.2.1≠1/\z.2.1≠2/\z.2.1≠6/\z.2.1≠7):SK m:=h.2.2.2.2.2.2.2.1.sk (h.ki a.ki b)
def DI(d:Bs):Prop:=d.1.length<=64/\(∀(i:Nat) (s:Bc),d.1[i]? =some s->s.length=256)/\d.2.2.1=[]/\d.2.2.2.2=[]
def Ua{x:Int}{s:Int×List Bc}(h:0<=s.1/\s.1<=x/\x<=64/\s.2.length=s.1/\ ∀(i:Nat) (t:Bc),s.2[i]? =some t->t.length=256):Az (Ad (Kz x) s) λr=>(r.length:Int)=x/\ ∀(i:Nat) (t:Bc),r[i]? =some t->t.length=256:=by
 refine AM (λ(s:Int×List Bc)=>0<=s.1/\s.1<=x/\x<=64/\s.2.length=s.1/\ ∀(i:Nat) (t:Bc),s.2[i]? =some t->t.length=256) (λ(s:Int×List Bc)=>(x-s.1).toNat) h (λs c=>?_);unfold Kz;have⟨f,g,a,j,b⟩:=c;have k:(Gw (List.replicate (Int.toNat 256) 0)).length=256:=by rw[LJ,List.length_replicate];rfl
 repeat' with_reducible first|apply AC<;>intro d|apply AI<;>intro d|apply AA|(refine AJ ?_ (Ac ?_);rintro r ⟨hr,l,e⟩)
 all_goals first|omega|(generalize Gw (List.replicate (Int.toNat 256) 0)=bs at*;simp;omega)|(generalize Gw (List.replicate (Int.toNat 256) 0)=bs at*;rw[(AW (x:=s.1+1))];refine⟨⟨by omega,by omega,a,by grind,?_⟩,by omega⟩;grind)|(exact⟨by omega,b⟩)
def QU{x:Int}(h:0<=x/\x<=64):Az (Je x) λr=>(r.length:Int)=x/\ ∀(i:Nat) (t:Bc),r[i]? =some t->t.length=256:=by
 unfold Je;repeat' with_reducible first|apply AA|(refine AJ ?_ (Ua ?_);intro r hr)
 all_goals ((try dsimp[len]at*);(try first|omega|assumption|grind[AW]))
def cF{x:Int}:Az (Ho x) λr=>r.2=0->DI r.1/\r.1.1.length=x:=by
 unfold Ho;repeat' with_reducible first|apply AC<;>intro a|apply AI<;>intro a|apply AA|(refine AJ ?_ (QU ?_);intro r hr)
 all_goals ((try dsimp[len]at*);(try first|omega|assumption|grind[DI]))
def ZB{x:Bs×Co}:Az (KV x) λr=>True:=by
 unfold KV;repeat' with_reducible first|apply AC<;>intro a|apply AQ<;>intro a|apply AI<;>intro a|(apply BE;try dsimp only)|apply BP|apply BX|apply L3|(apply BF;try dsimp only)|(apply BC;try dsimp only)|(apply A2<;>(intro u b;try subst b))|apply AA
 all_goals trivial
def VS{x:Bs}{s:Int}(h:0<=s/\s<=x.1.length/\(x.1.length:Int)<=16777216):Az (Ad (L6 x) s) λr=>r≠ .inl true:=by
 refine AM (λ(s:Int)=>0<=s/\s<=x.1.length/\(x.1.length:Int)<=16777216) (λ(s:Int)=>((x.1.length:Int)-s).toNat) h (λs b=>?_);unfold L6;repeat' with_reducible first|apply AC<;>intro a|apply AL<;>intro a|apply AI<;>intro a|apply AA|(refine AJ ?_ (AE ?_ ?_);rintro r ⟨hr,c⟩)
 all_goals ((try dsimp[len]at*);(try first|omega|assumption|grind[AW]))
def VT{x:Bs}{s:Int}(h:0<=s/\s<=x.2.2.1.length/\(x.2.2.1.length:Int)<=16777216):Az (Ad (L7 x) s) λr=>r≠ .inl true:=by
 refine AM (λ(s:Int)=>0<=s/\s<=x.2.2.1.length/\(x.2.2.1.length:Int)<=16777216) (λ(s:Int)=>((x.2.2.1.length:Int)-s).toNat) h (λs b=>?_);unfold L7;repeat' with_reducible first|apply AC<;>intro a|apply AI<;>intro a|apply AA|(refine AJ ?_ (AE ?_ ?_);rintro r ⟨hr,c⟩)
 all_goals ((try dsimp[len]at*);(try first|omega|assumption|grind[AW]|((try simp (disch:=omega) only[AW,len]at*)<;>(try intros)<;>(try and_intros)<;>(try intros)<;>(first|omega|assumption|grind))))
def VU{x:Bs}{s:Int}(h:0<=s/\s<=x.2.2.2.2.length/\(x.2.2.2.2.length:Int)<=16777216):Az (Ad (L8 x) s) λr=>r≠ .inl true:=by
 refine AM (λ(s:Int)=>0<=s/\s<=x.2.2.2.2.length/\(x.2.2.2.2.length:Int)<=16777216) (λ(s:Int)=>((x.2.2.2.2.length:Int)-s).toNat) h (λs b=>?_);unfold L8;repeat' with_reducible first|apply AC<;>intro a|apply AO<;>intro a|apply AI<;>intro a|apply AA|(apply AB (ZB);intro r hr)|(refine AJ ?_ (AE ?_ ?_);rintro r ⟨hr,c⟩)
 all_goals ((try dsimp[len]at*);(try first|omega|assumption|grind[AW]))
def Y9{x:Bs}(h:x.2.2.1.length<=16777216):Az (KU x) λr=>r=true->1<=x.1.length/\x.1.length<=64:=by
 unfold KU;repeat' with_reducible first|apply AC<;>intro a|apply AI<;>intro a|(apply BF;try dsimp only)|(apply BC;try dsimp only)|(apply A2<;>(intro u b;try subst b))|apply AA|(refine AJ ?_ (VS ?_);intro r hr)|(refine AJ ?_ (VT ?_);intro r hr)|(refine AJ ?_ (VU ?_);intro r hr)
 all_goals ((try dsimp[len]at*);(try first|omega|assumption|grind[AW]))
def MC{x:Bs×Int}(h:x.1.2.2.1.length<=16777216):Az (GV x) λr=>r=0->0<=x.2/\x.2<x.1.1.length/\x.1.1.length<=64:=by
 unfold GV;repeat' with_reducible first|apply AC<;>intro a|apply AO<;>intro a|apply AI<;>intro a|apply AA|(refine AJ ?_ (Y9 ?_);intro r hr)
 all_goals ((try dsimp[len]at*);(try first|omega|assumption|grind[AW]))
def T6{x:List Int×Int}{s:Int×List Int}(h:0<=s.1/\s.1<=x.1.length/\x.1.length<=16777216/\s.2.length<=s.1):Az (Ad (J5 x) s) λr=>r.length<=x.1.length:=by
 refine AM (λ(s:Int×List Int)=>0<=s.1/\s.1<=x.1.length/\x.1.length<=16777216/\s.2.length<=s.1) (λ(s:Int×List Int)=>((x.1.length:Int)-s.1).toNat) h (λs c=>?_);unfold J5;repeat' with_reducible first|apply AC<;>intro a|apply AL<;>intro a|apply AI<;>intro a|(apply BE;try dsimp only)|apply BP|apply BX|apply AA|(refine AJ ?_ (AE ?_ ?_);rintro r ⟨hr,e⟩)|(refine AJ ?_ (Ac ?_);rintro r ⟨hr,d,b⟩)
 all_goals ((try dsimp[len]at*);(try first|omega|assumption|grind[AW]))
def Pv{x:List Int×Int}(h:x.1.length<=16777216):Az (Ev x) λr=>r.length<=x.1.length:=by
 unfold Ev;repeat' with_reducible first|apply AA|(refine AJ ?_ (T6 ?_);intro r hr)
 all_goals ((try dsimp[len]at*);(try first|omega|assumption|grind[AW]))
def Xc{x:List Int×Int}{s:Int}(h:0<=s/\s<=x.1.length/\(x.1.length:Int)<=16777216):Az (Ad (Ny x) s) λr=>True:=by
 refine AM (λ(s:Int)=>0<=s/\s<=x.1.length/\(x.1.length:Int)<=16777216) (λ(s:Int)=>((x.1.length:Int)-s).toNat) h (λs b=>?_);unfold Ny;repeat' with_reducible first|apply AC<;>intro a|apply AQ<;>intro a|apply AI<;>intro a|apply AA|(refine AJ ?_ (AE ?_ ?_);rintro r ⟨hr,c⟩)
 all_goals ((try dsimp[len]at*);(try first|omega|assumption|grind[AW]))
def cG{x:List Int×Int}(h:x.1.length<=16777216):Az (Me x) λr=>True:=by
 unfold Me;repeat' with_reducible first|(apply BF;try dsimp only)|(apply BC;try dsimp only)|(apply A2<;>(intro u a;try subst a))|apply AA|(refine AJ ?_ (Xc ?_);intro r hr)
 all_goals ((try dsimp[len]at*);(try first|omega|assumption|grind[AW]))
def aa{x:Bs×Int}(h:DI x.1):Az (LQ x) λr=>r.2=0->r.1.length=256:=by
 unfold LQ;repeat' with_reducible first|apply AL<;>intro a|apply AI<;>intro a|apply AA|(refine AJ ?_ (MC ?_);intro r hr)|(refine AJ ?_ (cG ?_);intro r hr)|(refine AJ ?_ (AE ?_ ?_);rintro r ⟨hr,b⟩)
 all_goals ((try dsimp[len]at*);(try first|omega|assumption|grind[DI]))
def DI.set{d:Bs}{l:List Bc}{i:Int}{t:Bc}{u:List Int}{w:Int}{b:Bool}(h:DI d)(c:l=d.1)(n:t.length=256)(e:u.length<=([]:List Int).length):DI (BR l i t,w,u,b,[]):=by subst c;have⟨a,f,g,k⟩:=h;refine⟨by simpa[BR]using a,λj s m=>?_,List.length_eq_zero_iff.1 (by simpa using e),rfl⟩;grind[BR]
def ou{d:Bs}{l:List Bc}{i:Int}{t:Bc}{u v:List Int}{f:List Co}{w:Int}{b:Bool}(h:DI d)(c:l=[]++d.1)(e:t.length=256)(g:u.length<=v.length)(j:v=[]++[])(a:f=[]++[]):DI (BR l i t,w,u,b,f):=by subst a j;exact h.set (by simpa using c) e (by simpa using g)
def ab{x:Bs×Int×Bc×Int}(h:DI x.1):Az (LR x) λr=>r.2=0->DI r.1:=by
 have⟨f,g,b,c⟩:=h;unfold LR;rw[b,c];repeat' with_reducible first|apply AC<;>intro d|apply AL<;>intro d|apply AI<;>intro d|apply AA|(refine AJ ?_ (MC ?_);intro r hr)|(refine AJ ?_ (Pv ?_);intro r hr)|(refine AJ ?_ (AE ?_ ?_);rintro r ⟨hr,j⟩)|(refine AJ ?_ (Ac ?_);rintro r ⟨hr,e,i⟩)|(refine AJ ?_ (CY ?_);rintro r ⟨hr,e⟩)|(refine AJ ?_ (Dq ?_ ?_ ?_);rintro r ⟨hr,e⟩)
 all_goals first|omega|(intro a;exact absurd a (by assumption))|(intro a;exact absurd a (by decide))|(simp;done)|(simp;omega)|(exact λ_=>ou ⟨f,g,b,c⟩ (by assumption) (by grind) hr (by assumption) (by assumption))|grind
def ZA{x:Bs×Int×Bc}(h:DI x.1):Az (Oa x) λr=>r.2=0->DI r.1/\r.1.1.length=x.1.1.length:=by
 have⟨A,B,g,i⟩:=h;refine AB (MC (by dsimp only;rw[g];simp)) λC p=>?_;refine AL (λb=>AA (λc=>absurd c b)) (λb=>?_);refine AL (λb=>AA (λc=>absurd c (by decide))) (λf=>?_);refine AQ (λb=>AA (λc=>absurd c (by decide))) (λo=>?_);refine AB (Ac (by simp;omega)) λw q=>?_;refine AB (Ac (by rw[g];simp)) λy t=>?_;refine AB (Ac (by rw[i];simp)) λz u=>?_;have k:w=x.1.1:=by grind
 have l:y=[]:=by grind
 have m:z=[]:=by grind
 subst k l m;have l1: ∀s,s.1=0->Ad (L9 x) s=some s.2:=λs d=>by rw[Cd];unfold L9;rw[i,d];rfl
 rw[l1 _ rfl];apply BE;have l2: ∀a s,a.1=[]->s.2.1=0->Ad (MA x a) s=some (s.1,(s.2.2.2.2.2.2.1,(s.2.2.2.2.2.1,s.2.2.2.2.2.2.2))):=λa s e d=>by rw[Cd];unfold MA;rw[e,d];rfl
 have v: ∀a s,a.1=[]->s.1=0->Ad (MB a) s=some (s.2.2.2.2.2.1,(s.2.2.2.2.1,s.2.2.2.2.2.2)):=λa s e d=>by rw[Cd];unfold MB;rw[e,d];rfl
 rw[l2 _ _ rfl rfl];repeat' with_reducible first|apply AC<;>intro b|apply AO<;>intro b|apply AQ<;>intro b|apply AL<;>intro b|apply AI<;>intro b|(apply BE;try dsimp only)|apply BP|apply BX|apply AA|(rw[v _ _ rfl rfl];apply BE;dsimp only)|(refine AJ ?_ (Pv ?_);intro r hr)|(refine AJ ?_ (AE ?_ ?_);rintro r ⟨hr,o⟩)|(refine AJ ?_ (Ac ?_);rintro r ⟨hr,j,n⟩)|(refine AJ ?_ (CY ?_);rintro r ⟨hr,j⟩)|(refine AJ ?_ (Dq ?_ ?_ ?_);rintro r ⟨hr,j⟩)
 all_goals first|omega|(simp;done)|(intro c;exact absurd c (by decide))|(exact λ_=>⟨h.set rfl (by grind) hr,by simp[BR]⟩)|(cases b;done)|grind
def DC(p:BY):Nat:=p.2.1.countP λf=>f.2.1
def UC(p:BY):Nat:=p.2.1.countP λf=>f.2.2.2
def sD{a:Type}{l:List a}{i:Nat}{o n:a}{q:a->Bool}(h:l[i]? =some o):(l.set i n).countP q+(if q o=true then 1 else 0)=l.countP q+(if q n=true then 1 else 0):=by grind
theorem Kb{x:BY×Int×A0}(h:x.1.2.1.length<=16777216)(a:0<=x.2.1/\x.2.1<x.1.2.1.length):Az (Hr x) λr=>r=(x.1.1,x.1.2.1.set x.2.1.toNat x.2.2,x.1.2.2):=by refine AB (Ac (by simpa using h)) λr hr=>?_;have⟨hr,b,_⟩:=hr;subst hr;refine AB (AE a.1 a.2) λ_ _=>?_;refine AB (AE a.1 a.2) λ_ _=>?_;exact AA rfl
def gW(f:A0):A8×Bool×Int:=(f.1,f.2.1,f.2.2.1)
def CF(l:List A0):List (A8×Bool×Int):=l.map gW
def AAS{l:List A0}{i:Nat}{f g:A0}(h:l[i]? =some f)(a:gW g=gW f):CF (l.set i g)=CF l:=by unfold CF;apply Mo;grind
def km{l m:List A0}(h:CF m=CF l){i:Nat}{f:A0}(a:m[i]? =some f): ∃g,l[i]? =some g/\gW g=gW f:=by
 have:(CF m)[i]? =some (gW f):=by unfold CF;rw[List.getElem?_map,a];rfl
 rw[h]at this;unfold CF at this;grind
def AAR{l m:List A0}(h:CF m=CF l):m.length=l.length:=by have:=congrArg List.length h;simpa[CF]using this
def tM{p:BY}:DC p=(CF p.2.1).countP λc=>c.2.1:=by unfold DC CF;rw[List.countP_map];rfl
theorem JY.congr{l m:List A0}{n:Int}(h:CF m=CF l)(d:JY l n):JY m n:=by refine⟨λi f r b=>?_,λi j f g c s b q=>?_⟩;have⟨g,a,o⟩:=km h b;have:=d.1 i g r a;grind[gW,iG];have⟨e,a,o⟩:=km h b;have⟨k,p,t⟩:=km h q;have:=d.2 i j e k c s a p;grind[gW]
def OF.uniq{p:BY}(h:OF p){i j:Nat}{f g:A0}(a:p.2.1[i]? =some f)(b:p.2.1[j]? =some g)(e:f.1.1=g.1.1):f=g:=by have c:=h.2.2.2.2.2.2;grind
def Ud{c:List (A8×Bool×Int)}{z:Int}{s:BY}(h:c=CF s.2.1/\z=s.1/\0<=s.2.2/\s.2.2<s.2.1.length/\s.2.1.length<=64):Az (Ad Py s) λr=>c=CF r.2.1/\z=r.1/\0<=r.2.2/\r.2.2<r.2.1.length/\r.2.1.length<=64:=by
 refine AM (λs=>c=CF s.2.1/\z=s.1/\0<=s.2.2/\s.2.2<s.2.1.length/\s.2.1.length<=64) UC h (λs n=>?_);have⟨k,l,i,j,m⟩:=n;refine AB (AE i j) λf q=>?_;refine AI (λo=>?_) (λo=>AA ⟨k,l,i,j,m⟩);refine AB (AE i j) λd t=>?_;have e:d=f:=by grind
 subst e;refine AB (Kb (by dsimp only;omega) ⟨i,j⟩) λp u=>?_;subst u;refine AQ (λv=>?_) (λv=>AA ?_);grind;rw[(AW (x:=s.2.2+1))];refine⟨⟨?_,l,(TB (len (s.2.1.set s.2.2.toNat (d.1,d.2.1,d.2.2.1,false))) (a:=s.2.2+1) (by omega)),(TA (s.2.2+1) (b:=len (s.2.1.set s.2.2.toNat (d.1,d.2.1,d.2.2.1,false))) (by simp;omega)),by rw[Zk];exact m⟩,?_⟩;rw[k];exact(AAS (g:=(d.1,d.2.1,d.2.2.1,false)) q.1 rfl).symm;unfold UC;grind
def Xm{x:BY}:Az (N4 x) λr=>(r.2.2=0->OF x/\OF r.1/\CF r.1.2.1=CF x.2.1/\gC r.1 r.2.1)/\(OF x->x.2.1.length≠0->r.2.2=0):=by refine AB EB λv g=>?_;refine AO (λc=>AA ⟨λa=>absurd a (by decide),λh _=>?_⟩) (λc=>?_);grind;have b:=g.1 c;have e:=b;have⟨k,l,m,i,n,o⟩:=b;refine AQ (λa=>AA ⟨λa=>absurd a (by decide),λ_ h=>absurd a (by simpa[len]using h)⟩) (λa=>?_);simp only[len]at a;refine AB (Ud ⟨rfl,rfl,i,by omega⟩) λp b=>?_;have⟨q1,q2,q3,q4,q5⟩:=b;refine AB (AE q3 q4) λf d=>?_;have j:=AAR q1;refine AA ⟨λ_=>⟨e,⟨by dsimp only;omega,by dsimp only;omega,by dsimp only;omega,q3,.inr q4,?_⟩,q1.symm,⟨_,f,d.1,rfl⟩⟩,λ_ _=>rfl⟩;grind[JY.congr]
def ah{x:BY×Int}:Az (La x) λr=>OF x.1-> ∀(i:Nat) (f:A0),x.1.2.1[i]? =some f->f.1.1=x.2->f.2.1=false->(∀g∈r.1.2.1,g∈x.1.2.1)/\ ∀g∈x.1.2.1,g.2.1=true->g∈r.1.2.1:=by
 unfold La;refine AB EB λv A=>?_;refine AO (λn=>AA λo=>absurd (A.2 o) (by simp[n])) (λn=>?_);have o:=A.1 n;have T:=o.2.1;have U:=o.2.2.1;refine AB (GY (by omega)) λi G=>?_;have⟨R,J,K,L⟩:=G;refine AC (λn=>AA λ_ j f p e _=>absurd ⟨j,f,p,e⟩ (L n)) (λH=>?_);have⟨k,I,t⟩:=K (by omega);refine AB (AE (by omega) J) λw Q=>?_;have B:w=k:=by grind[Option.some.inj]
 subst B;refine AI (λu=>AA λ_ j f p e l=>?_) (λu=>?_);have:=o.uniq p I (by rw[e,t]);subst this;rw[u]at l;cases l;have O:=AW (x:=i+1);refine AB (Bu) λa C=>?_;refine AB (Bu (by omega) (by simp[len];omega) (by simp only[len];omega)) λb D=>?_;have S:=C.2;have M:=D.2;simp[len]at M;refine AB (Ac (by rw[Bt];omega)) λc s=>?_;have N:=s.2.1;rw[Bt]at N;refine AB (Ac (by omega)) λd E=>?_;have q: ∀(j:Nat) (f:A0),x.1.2.1[j]? =some f->f.1.1=x.2->f.2.1=false->(∀g∈d,g∈x.1.2.1)/\ ∀g∈x.1.2.1,g.2.1=true->g∈d:=by intro j f p e l;refine⟨λg y=>?_,λg y F=>?_⟩;grind[List.mem_of_mem_take,List.mem_of_mem_drop];have⟨m,z⟩:=Es y;rw[(by grind[List.take_of_length_le,List.length_drop]:d=x.1.2.1.take i.toNat++x.1.2.1.drop (i.toNat+1)),Ar];rcases O7 m i.toNat with h|h|h;exact .inl (BJ (i:=m) (by rw[dk h];exact z));grind[Option.some.inj];exact .inr (BJ (i:=m-(i.toNat+1)) (by rw[OU];rw[show i.toNat+1+(m-(i.toNat+1))=m by omega];exact z))
 refine AB (P:=λ_=>True) (AC (λ_=>AA trivial) (λ_=>AA trivial)) λV _=>?_;refine AB (P:=λ_=>True) (AC (λ_=>AA trivial) (λ_=>AA trivial)) λW _=>AA λ_=>q
theorem ZG{x:BY×Int×Int}:Az (Oc x) λr=>r.2=0->OF x.1/\DC r.1<=DC x.1/\(∀(i:Nat) (f:A0),x.1.2.1[i]? =some f->f.1.1=x.2.1->f.2.1=true->f.1.2.1=x.2.2->DC r.1<DC x.1)/\(∀g∈r.1.2.1,∃f∈x.1.2.1,f.1.1=g.1.1/\f.1.2.1=g.1.2.1)/\ ∀f∈x.1.2.1,f.1.1≠x.2.1->f∈r.1.2.1:=by
 refine AB EB λv C=>?_;refine AO (λb=>AA (λo=>absurd o (by decide))) (λb=>?_);have l:=C.1 b;have J:=l.2.2.1;have I:=l.2.1;refine AB (GY (by dsimp only;omega)) λi B=>?_;have⟨G,D,E,H⟩:=B;refine AC (λb=>AA (λo=>absurd o (by decide))) (λb=>?_);have⟨f,c,d⟩:=E (by omega);refine AB (AE (by omega) D) λg z=>?_;have e:g=f:=by grind
 subst e;refine AC (λb=>AA (λo=>absurd o (by decide))) (λA=>?_);refine AO (λs=>AA (λ_=>⟨l,Ak _,λj k m a h _=>?_,λg z=>⟨g,z,rfl,rfl⟩,λf c _=>c⟩)) (λs=>?_);have:=l.uniq m c (by rw[a,d]);subst this;rw[s]at h;cases h;refine AB (P:=λn:A0=>(g.1.2.1=x.2.2->n.2.1=false)/\n.1=g.1) ?_ λn hn=>?_
 ·repeat' with_reducible first|refine AC ?_ ?_<;>intro b|refine AO ?_ ?_<;>intro b|refine AQ ?_ ?_<;>intro b|refine AI ?_ ?_<;>intro b|(refine BE ?_;try dsimp only)|refine BP ?_|refine BX ?_|refine AA ?_|(refine AJ ?_ (AE ?_ ?_);rintro r ⟨hr,F⟩)
  all_goals grind
 refine AB (Kb (by dsimp only;omega) ⟨by dsimp only;omega,by dsimp only;omega⟩) λp y=>?_;subst y;refine AA λ_=>?_;have u:=sD (q:=λf:A0=>f.2.1) (n:=n) c;rw[s]at u;refine⟨l,?_,λj k m a h t=>?_,uR c hn.2,λk m w=>pQ c k m (by rw[d];exact w)⟩;unfold DC;dsimp only;simp at u;split at u<;>omega;have:=l.uniq m c (by rw[a,d]);subst this;rw[hn.1 t]at u;unfold DC;dsimp only;simp at u;omega
def UZ{x:A8}{s:Bc×Int}(h:0<=s.2/\s.2<=16/\je x/\(s.1.length:Int)=12+13*s.2):Az (Ad (Ky x) s) λr=>r.length=220:=by
 refine AM (λ(s:Bc×Int)=>0<=s.2/\s.2<=16/\je x/\(s.1.length:Int)=12+13*s.2) (λ(s:Bc×Int)=>(16-s.2).toNat) h (λs c=>?_);unfold Ky;obtain⟨g,j,b,k⟩:=c;have a: ∀i,(x.2.2 i).2.length<=12:=λi=>((b.2.2.2.2 i).1).1;repeat' with_reducible first|apply AC<;>intro d|apply AI<;>intro d|(apply BE;try dsimp only)|apply BP|apply BX|apply AA|(refine AJ ?_ (Cj ?_);intro r hr)|(refine AJ ?_ (My ?_);intro r hr)|(refine AJ ?_ (Dh ?_ ?_);intro r hr)|(refine AJ ?_ (CY ?_);rintro r ⟨hr,l⟩)
 all_goals try dsimp only[len]at*
 all_goals try (have e:=AW (x:=s.2+1))
 all_goals first|omega|(subst_vars;(try (have q1:=a ⟨s.2.toNat,by omega⟩));(try (have f:=AW (x:=12-((x.2.2 ⟨s.2.toNat,by omega⟩).2.length:Int))));first|omega|grind)|grind
def L4{x:A8}:Az (GU x) λr=>r.2=0->r.1.length=256:=by
 unfold GU;repeat' with_reducible first|apply AL<;>intro a|apply AI<;>intro a|apply AA|(apply AB (HC);intro r hr)|(refine AJ ?_ (Cj ?_);intro r hr)|(refine AJ ?_ (UZ ?_);intro r hr)|(refine AJ ?_ (My ?_);intro r hr)|(refine AJ ?_ (KQ ?_);intro r hr)|(refine AJ ?_ (CY ?_);rintro r ⟨hr,c⟩)
 all_goals try dsimp only[len]at*
 all_goals try (have e:=AW (x:=244-((220:Nat):Int)))
 all_goals first|omega|(intro b;exact absurd b (by assumption))|grind[AW]
theorem Y7{x:Unit}:Az (KR x) λr=>r.length=256:=by
 unfold KR;repeat' with_reducible first|refine AA ?_|(refine AJ ?_ (My ?_);intro r hr)
 all_goals ((try dsimp only[len]at*);(try first|omega|assumption|grind[AW]))
def UY{x:Bc}{s:Int×A8×A8}(h:0<=s.1/\s.1<=16/\x.length=256):Az (Ad (Kx x) s) λr=>True:=by
 refine AM (λ(s:Int×A8×A8)=>0<=s.1/\s.1<=16/\x.length=256) (λ(s:Int×A8×A8)=>(16-s.1).toNat) h (λs e=>?_);unfold Kx;obtain⟨g,i,j⟩:=e;have b:=AW (x:=s.1*13);have c:=AW (x:=12+s.1*13);have d:=AW (x:=12+s.1*13+1);rw[b,c,d];repeat' with_reducible first|apply AC<;>intro a|apply AQ<;>intro a|apply AI<;>intro a|apply AA|(refine AJ ?_ (Dh ?_ ?_);intro r hr)|(refine AJ ?_ (Dq ?_ ?_ ?_);rintro r ⟨hr,f⟩)|(refine AJ ?_ (Pe ?_ ?_);rintro r ⟨hr,f⟩)
 all_goals try dsimp only[len]at*
 all_goals first|omega|grind[AW]
def Xb{x:Bc}(h:x.length<=1099511627776):Az (Jc x) λr=>True:=by
 unfold Jc;repeat' with_reducible first|apply AQ<;>intro a|apply AL<;>intro a|apply AI<;>intro a|(apply BF;try dsimp only)|(apply BC;try dsimp only)|(apply A2<;>(intro u b;try subst b))|apply AA|(apply AB (Y7);intro r hr)|(refine AJ ?_ (CZ ?_);intro r hr)|(refine AJ ?_ (KQ ?_);intro r hr)|(refine AJ ?_ (UY ?_);intro r hr)|(apply AB (L4);intro r hr)|(refine AJ ?_ (Dq ?_ ?_ ?_);rintro r ⟨hr,c⟩)
 all_goals try dsimp only[len]at*
 all_goals first|trivial|omega|grind
def cE{x:Int}:Az (Md x) λr=>r.1=x:=by
 unfold Md;repeat' with_reducible first|apply AA
 all_goals trivial
def VP{x:Bc×Int}(h:x.1.length<=1099511627776):Az (Ic x) λr=>r.2=0->r.1.1=x.2:=by
 unfold Ic;repeat' with_reducible first|apply AC<;>intro a|apply AQ<;>intro a|apply AL<;>intro a|apply AI<;>intro a|apply AA|(refine AJ ?_ (Xb ?_);intro r hr)|(apply AB (cE);intro r hr)
 all_goals first|assumption|(intro b;exact absurd b (by assumption))|(intro b;exact absurd b (by decide))|(intro _;assumption)|grind
def ZI{x:BW×Int×Int×Bc}(h:x.2.2.2.length<=1099511627776):Az (Kc x) λr=>r.2=0->r.1.1=x.2.1:=by
 unfold Kc;repeat' with_reducible first|apply AC<;>intro a|apply AO<;>intro a|apply AL<;>intro a|apply AI<;>intro a|apply AA|(apply AB (Fz);intro r hr)|(refine AJ ?_ (VP ?_);intro r hr)|(refine AJ ?_ (AE ?_ ?_);rintro r ⟨hr,c⟩)
 all_goals try dsimp only[len]at*
 all_goals first|assumption|omega|(intro b;exact absurd b (by assumption))|(intro b;exact absurd b (by decide))|(intro _;assumption)|grind
def RX{x:A8×D6}:Az (IF x) λr=>r.2=0->r.1.1=x.1.1:=by
 unfold IF;repeat' with_reducible first|apply AO<;>intro a|apply AQ<;>intro a|apply AL<;>intro a|apply AI<;>intro a|apply AA|(apply AB (RY);intro r hr)|(refine AJ ?_ (Dh ?_ ?_);intro r hr)
 all_goals first|(intro b;exact absurd b (by decide))|(intro _;rfl)|omega|grind[TW]
def ZS{x:A8×AD}:Az (Kl x) λr=>r.2=0->r.1.1=x.1.1:=by
 unfold Kl;repeat' with_reducible first|apply AO<;>intro b|apply AL<;>intro b|apply AI<;>intro b|apply AA|(apply AB (CA);intro r hr)|(apply AB (B7);intro r hr)|(apply AB (HC);intro r hr)|(apply AB (RX);intro r hr)
 all_goals first|(intro a;exact absurd a (by assumption))|(intro a;exact absurd a (by decide))|(intro _;exact hr (by assumption))|grind
def ZD{x:AD×List AD}(h:x.2.length<=16777215):Az (KX x) λr=>r.length=x.2.length+1:=by
 unfold KX;repeat' with_reducible first|apply AA|(refine AJ ?_ (Ac ?_);rintro r ⟨hr,b,a⟩)
 all_goals first|(simp at*;omega)|(simp at*;done)
end Go.Pm
