/- What these functions answer, part 8. Texts of the folder wip, laid in few files with shorter names by a program (wip/tools/pack.py); nothing is assumed. -/
import Derived.Test.YtacnadmajkjfbaaGreatK7
import Derived.KernelRfl
noncomputable section
set_option linter.unusedVariables false
set_option linter.unusedSimpArgs false
set_option linter.unusedSectionVars false
set_option linter.defProp false
set_option linter.unnecessarySimpa false
set_option linter.deprecated false
namespace Go.Pm
open Go Go.Ab
set_option maxHeartbeats 400000
def HS(x:FG):Prop:=x.2.length<=12/\(x.1=true\/x.2=[])
def TT(x:D8):Prop:=0<=x.1/\x.1<64/\0<=x.2.1/\x.2.1<16/\HS x.2.2.1/\HS x.2.2.2
def Jc{x:FG}:Ay (DF x) λr=>r=true↔HS x:=by
 unfold DF HS
 repeat' first
   |with_reducible apply AC<;>intro a
   |with_reducible apply AQ<;>intro a
   |with_reducible apply AF<;>intro a
   |(with_reducible apply BE;try dsimp only)
   |with_reducible apply BP
   |with_reducible apply BX
   |with_reducible apply AA
 all_goals grind
def RZ{x:D8}:Ay (IH x) λr=>r=true↔TT x:=by
 unfold IH TT
 repeat' first
   |with_reducible apply AC<;>intro a
   |with_reducible apply AF<;>intro a
   |(with_reducible apply BE;try dsimp only)
   |with_reducible apply BP
   |with_reducible apply BX
   |with_reducible apply AA
   |(with_reducible apply AB (Jc);intro r hr)
 all_goals grind
def Oi:D8:=(0,0,(false,[]),(false,[]))
def U8(x:AD):Prop:=
 (x.2.1=1/\x.2.2.2.2.2.1=0/\x.2.2.2.2.2.2.2=[]/\1<=x.2.2.1/\x.2.2.1<=1073741824/\TT x.2.2.2.2.2.2.1)\/
 (x.2.1=2/\0<x.2.2.2.1/\1<=x.2.2.2.2.2.1/\x.2.2.2.2.2.1<=x.2.2.2.1/\x.2.2.2.2.2.2.2=[]/\1<=x.2.2.1/\x.2.2.1<=1073741824/\TT x.2.2.2.2.2.2.1)\/
 ((x.2.1=3\/x.2.1=4\/x.2.1=5)/\0<x.2.2.2.1/\x.2.2.2.2.1=0/\x.2.2.2.2.2.1=0/\x.2.2.2.2.2.2.1=Oi/\x.2.2.2.2.2.2.2=[]/\1<=x.2.2.1/\x.2.2.1<=1073741824)\/
 ((x.2.1=6\/x.2.1=8)/\x.2.2.1=0/\x.2.2.2.1=0/\x.2.2.2.2.1=0/\x.2.2.2.2.2.1=0/\x.2.2.2.2.2.2.1=Oi/\x.2.2.2.2.2.2.2.length<=8192)\/
 (x.2.1=7/\x.2.2.1=0/\x.2.2.2.1=0/\x.2.2.2.2.1=0/\0<=x.2.2.2.2.2.2.1.1/\x.2.2.2.2.2.2.1.1<64/\x.2.2.2.2.2.2.1.2=Oi.2/\x.2.2.2.2.2.2.2=[])
def OF(x:AD):Prop:=1<=x.1/\x.1<=1099511627776/\0<=x.2.2.2.1/\x.2.2.2.1<x.1/\0<=x.2.2.2.2.1/\x.2.2.2.2.1<x.1/\0<=x.2.2.2.2.2.1/\x.2.2.2.2.2.1<x.1/\U8 x
def Xf{x:Int×Int}:Ay (GW x) λr=>r=true↔0<=x.1/\x.1<x.2:=by
 unfold GW;repeat' with_reducible first|apply AC<;>intro a|apply AF<;>intro a|apply AA
 all_goals grind
def ZD{x:AD}:Ay (KV x) λr=>(r.2=true/\r.1=x)↔U8 x:=by
 obtain⟨a,b,c,d,e,f,⟨g,h,⟨i,j⟩,k,l⟩,m⟩:=x;unfold KV U8 Oi;dsimp only
 repeat' first
   |with_reducible apply AC<;>intro n
   |with_reducible apply AQ<;>intro n
   |with_reducible apply AF<;>intro n
   |(with_reducible apply BE;try dsimp only)
   |with_reducible apply BP
   |with_reducible apply BX
   |with_reducible apply AA
   |(with_reducible apply AB (RZ);intro r hr)
 all_goals grind
def B9{x:AD}:Ay (Ck x) λr=>r=true↔OF x:=by
 unfold Ck;refine AB ZD λn A=>?_;have e:((n.1.1==x.1)&&((n.1.2.1==x.2.1)&&((n.1.2.2.1==x.2.2.1)&&((n.1.2.2.2.1==x.2.2.2.1)&&((n.1.2.2.2.2.1==x.2.2.2.2.1)&&((n.1.2.2.2.2.2.1==x.2.2.2.2.2.1)&&((n.1.2.2.2.2.2.2.1.1==x.2.2.2.2.2.2.1.1)&&((n.1.2.2.2.2.2.2.1.2.1==x.2.2.2.2.2.2.1.2.1)&&((n.1.2.2.2.2.2.2.1.2.2.1.1==x.2.2.2.2.2.2.1.2.2.1.1)&&((n.1.2.2.2.2.2.2.1.2.2.1.2==x.2.2.2.2.2.2.1.2.2.1.2)&&((n.1.2.2.2.2.2.2.1.2.2.2.1==x.2.2.2.2.2.2.1.2.2.2.1)&&((n.1.2.2.2.2.2.2.1.2.2.2.2==x.2.2.2.2.2.2.1.2.2.2.2)&&((n.1.2.2.2.2.2.2.2==x.2.2.2.2.2.2.2)&&true)))))))))))))=true↔n.1=x:=by obtain⟨⟨a,b,c,d,e,f,⟨g,h,⟨i,j⟩,k,l⟩,m⟩,z⟩:=n;obtain⟨p,q,s,t,u,v,⟨w,y,⟨B,C⟩,D,E⟩,F⟩:=x;simp[and_assoc]
 generalize ((n.1.1==x.1)&&_)=bb at e⊢;unfold OF
 repeat' first
   |with_reducible apply AC<;>intro o
   |with_reducible apply AQ<;>intro o
   |with_reducible apply AF<;>intro o
   |(with_reducible apply BE;try dsimp only)
   |with_reducible apply BP
   |with_reducible apply BX
   |with_reducible apply AA
   |(with_reducible apply AB (Xf);intro r hr)
 all_goals grind
def EQ{x:Aj}:Ay (CW x) λr=>r=wi (wi (x.1+len x.2.1)-1):=by
 unfold CW;repeat' with_reducible first|apply AA
 all_goals grind
def D2(x:Aj):Prop:=1<=x.1/\x.1<=1099511627776/\x.2.1.length<=4096/\x.1-1<=x.2.2/\x.2.2<=x.1+x.2.1.length-1/\ ∀(i:Nat) (e:AD),x.2.1[i]? =some e->e.1=x.1+i/\OF e
def VV{x:Aj}{s:Int}(h:0<=s/\s<=x.2.1.length/\x.2.1.length<=4096/\1<=x.1/\x.1<=1099511627776/\ ∀(i:Nat) (e:AD),i<s->x.2.1[i]? =some e->e.1=x.1+i/\OF e):Ay (Ad (ME x) s) λr=>(r= .inl false/\ ¬D2 x)\/(r= .inr ()/\ ∀(i:Nat) (e:AD),x.2.1[i]? =some e->e.1=x.1+i/\OF e):=by
 refine AM (λ(s:Int)=>0<=s/\s<=x.2.1.length/\x.2.1.length<=4096/\1<=x.1/\x.1<=1099511627776/\ ∀(i:Nat) (e:AD),i<s->x.2.1[i]? =some e->e.1=x.1+i/\OF e) (λ(s:Int)=>((x.2.1.length:Int)-s).toNat) h (λs b=>?_);unfold ME;obtain⟨c,d,f,g,j,k⟩:=b;repeat' with_reducible first|apply AC<;>intro a|apply AO<;>intro a|apply AL<;>intro a|apply AF<;>intro a|apply AA|(apply AB (B9);intro r hr)|(refine AJ ?_ (AE ?_ ?_);rintro r ⟨hr,l⟩)
 all_goals try (first|omega|grind[AW,D2])
def Bp{x:Aj}:Ay (CK x) λr=>r=true↔D2 x:=by
 unfold CK;repeat' with_reducible first|apply AC<;>intro a|apply AF<;>intro a|(apply BF;try dsimp only)|(apply BC;try dsimp only)|(apply A2<;>(intro u b;try subst b))|apply AA|(apply AB (EQ);intro r hr)|(refine AJ ?_ (VV ?_);intro r hr)
 all_goals try (first|omega|grind[AW,D2])
def jc(x:A8):Prop:=0<=x.1/\x.1<64/\0<=x.2.1/\x.2.1<=1099511627776/\ ∀i,HS (x.2.2 i)/\(x.2.1=0->(x.2.2 i).1=false)
def Pu{x:A8}:Ay (HC x) λr=>r=true↔0<=x.1/\x.1<64/\0<=x.2.1/\x.2.1<=1099511627776:=by
 unfold HC;repeat' with_reducible first|apply AC<;>intro a|apply AF<;>intro a|apply AA
 all_goals grind
def VQ{x:A8}{s:Int}(h:0<=s/\s<=16/\ ∀i:Fin 16,(i.val:Int)<s->HS (x.2.2 i)/\(x.2.1=0->(x.2.2 i).1=false)):Ay (Ad (L6 x) s) λr=>(r= .inl false/\ ¬ ∀i,HS (x.2.2 i)/\(x.2.1=0->(x.2.2 i).1=false))\/(r= .inr ()/\ ∀i,HS (x.2.2 i)/\(x.2.1=0->(x.2.2 i).1=false)):=by
 refine AM (λ(s:Int)=>0<=s/\s<=16/\ ∀i:Fin 16,(i.val:Int)<s->HS (x.2.2 i)/\(x.2.1=0->(x.2.2 i).1=false)) (λ(s:Int)=>(16-s).toNat) h (λs b=>?_);unfold L6;repeat' with_reducible first|apply AC<;>intro a|apply AO<;>intro a|apply AQ<;>intro a|apply AF<;>intro a|apply AA|(apply AB (Jc);intro r hr)|(refine AJ ?_ (Dh ?_ ?_);intro r hr)
 all_goals ((try dsimp[len]at*);(try first|omega|assumption|grind[AW]))
def RX{x:A8}:Ay (IF x) λr=>r=true↔ ∀i,HS (x.2.2 i)/\(x.2.1=0->(x.2.2 i).1=false):=by
 unfold IF;repeat' with_reducible first|(apply BF;try dsimp only)|(apply BC;try dsimp only)|(apply A2<;>(intro u a;try subst a))|apply AA|(refine AJ ?_ (VQ ?_);intro r hr)
 all_goals first|omega|grind
def Y9{x:A8}:Ay (KR x) λr=>r=true↔jc x:=by
 unfold KR jc
 repeat' first
   |with_reducible apply AF<;>intro a
   |with_reducible apply AA
   |(with_reducible apply AB (Pu);intro r hr)
   |(with_reducible apply AB (RX);intro r hr)
 all_goals grind
def HB{x:A8}:Ay (Ef x) λr=>r=0->jc x:=by
 unfold Ef jc
 repeat' first
   |with_reducible apply AO<;>intro a
   |with_reducible apply AA
   |(with_reducible apply AB (Pu);intro r hr)
   |(with_reducible apply AB (RX);intro r hr)
 all_goals grind
def iD(f:A0):Prop:=jc f.1/\(f.2.1=true->1<=f.2.2.1/\f.2.2.1<=f.1.2.1)/\(f.2.1=false->f.2.2.1=0)
def JY(l:List A0)(n:Int):Prop:=(∀(i:Nat) (f:A0),i<n->l[i]? =some f->iD f)/\ ∀(i j:Nat) (f g:A0),i<j->j<n->l[i]? =some f->l[j]? =some g->f.1.1≠g.1.1
def OG(x:BY):Prop:=1<=x.1/\x.1<=64/\x.2.1.length<=x.1/\0<=x.2.2/\(x.2.1.length=0/\x.2.2=0\/x.2.2<x.2.1.length)/\JY x.2.1 x.2.1.length
theorem JY.step{l:List A0}{n:Int}{f:A0}(e:0<=n)(h:JY l n)(o:l[n.toNat]? =some f)(r:iD f)(m: ∀(j:Nat) (g:A0),j<n->l[j]? =some g->g.1.1≠f.1.1):JY l (n+1):=by
 refine⟨λi g p b=>?_,λi j g k c q b d=>?_⟩;rcases dj i n with a|a;exact h.1 i g a b;grind;rcases dj j n with a|a;exact h.2 i j g k c a b d;have:j=n.toNat:=by omega
 grind
theorem iz{l:List A0}{n:Int}{f:A0}(c:0<=n)(d:n<l.length)(a:l[n.toNat]? =some f)(b: ¬iD f): ¬JY l l.length:=λh=>b (h.1 n.toNat f (by omega) a)
theorem jA{l:List A0}{n:Int}{f:A0}(e:0<=n)(i:n<l.length)(d:l[n.toNat]? =some f)(c: ∃(j:Nat) (g:A0),j<n/\l[j]? =some g/\g.1.1=f.1.1): ¬JY l l.length:=λh=>by have⟨j,g,k,a,b⟩:=c;exact h.2 j n.toNat g f (by omega) (by omega) a d b
def Hg{x:BY}{a:Int}{b:A0}{s:Int}(h:0<=s/\s<=a/\a<=x.2.1.length/\(x.2.1.length:Int)<=16777216/\ ∀(j:Nat) (g:A0),j<s->x.2.1[j]? =some g->g.1.1≠b.1.1):Ay (Ad (Fa x a b) s) λr=>(r= .inl false/\ ∃(j:Nat) (g:A0),j<a/\x.2.1[j]? =some g/\g.1.1=b.1.1)\/(r= .inr ()/\ ∀(j:Nat) (g:A0),j<a->x.2.1[j]? =some g->g.1.1≠b.1.1):=by
 refine AM (λ(s:Int)=>0<=s/\s<=a/\a<=x.2.1.length/\(x.2.1.length:Int)<=16777216/\ ∀(j:Nat) (g:A0),j<s->x.2.1[j]? =some g->g.1.1≠b.1.1) (λ(s:Int)=>(a-s).toNat) h (λs d=>?_);unfold Fa;repeat' with_reducible first|apply AC<;>intro c|apply AQ<;>intro c|apply AF<;>intro c|apply AA|(refine AJ ?_ (AE ?_ ?_);rintro r ⟨hr,e⟩)
 all_goals ((try dsimp[len]at*);(try first|omega|assumption|grind[AW]))
def Va{x:BY}{s:Int}(h:0<=s/\s<=x.2.1.length/\(x.2.1.length:Int)<=16777216/\JY x.2.1 s):Ay (Ad (MJ x) s) λr=>(r= .inl false/\ ¬JY x.2.1 x.2.1.length)\/(r= .inr ()/\JY x.2.1 x.2.1.length):=by
 refine AM (λ(s:Int)=>0<=s/\s<=x.2.1.length/\(x.2.1.length:Int)<=16777216/\JY x.2.1 s) (λ(s:Int)=>((x.2.1.length:Int)-s).toNat) h (λs d=>?_);unfold MJ;repeat' with_reducible first|apply AC<;>intro a|apply AO<;>intro a|apply AL<;>intro a|apply AF<;>intro a|(apply BF;try dsimp only)|(apply BC;try dsimp only)|(apply A2<;>(intro u c;try subst c))|apply AA|(apply AB (Y9);intro r hr)|(refine AJ ?_ (Hg ?_);intro r hr)|(refine AJ ?_ (Hg ?_);intro r hr)|(refine AJ ?_ (Hg ?_);intro r hr)|(refine AJ ?_ (Hg ?_);intro r hr)|(refine AJ ?_ (AE ?_ ?_);rintro r ⟨hr,f⟩)
 all_goals try (have e:=AW (x:=s+1))
 all_goals first|omega|(exact⟨by omega,by omega,by omega,by omega,λj g b=>absurd b (by omega)⟩)|grind[JY.step,iz,jA,iD]
def JY.zero(l:List A0):JY l 0:=⟨λi f h=>absurd h (by omega),λi j f g h a=>absurd a (by omega)⟩
def ABm(n h:Int)(a:0<=n)(b:n<=64):(h>if wi (n-1)>0 then wi (n-1)else 0)↔ ¬(n=0/\h<=0\/h<n):=by grind[AW]
def ED{x:BY}:Ay (DG x) λr=>r=true↔OG x:=by
 unfold DG OG
 repeat' first
   |with_reducible apply AC<;>intro b
   |(with_reducible apply A2<;>(intro u a;try subst a))
   |with_reducible apply AA
   |(with_reducible refine AJ ?_ (Va ?_);intro r hr)
 all_goals try dsimp[len]at*
 all_goals first
  |(exact⟨by omega,by omega,by omega,JY.zero _⟩)
  |(have c:=ABm (x.2.1.length) x.2.2 (by omega) (by omega);grind)
  |grind
def M8{x:Ao}:Ay (Gr x) λr=>True:=by
 unfold Gr;repeat' with_reducible first|apply AC<;>intro a|apply AQ<;>intro a|apply AF<;>intro a|apply AA
 all_goals ((try dsimp[len]at*);(try first|omega|assumption|grind[AW]))
def SD{x:Ao×Ao}:Ay (FC x) λr=>True:=by
 unfold FC;repeat' with_reducible first|apply AC<;>intro a|apply AL<;>intro a|apply AF<;>intro a|apply AA
 all_goals ((try dsimp[len]at*);(try first|omega|assumption|grind[AW]))
def GC{x:Ao×Ao}:Ay (Dx x) λr=>True:=by
 unfold Dx;repeat' with_reducible first|apply AQ<;>intro a|apply AL<;>intro a|apply AF<;>intro a|apply AA
 all_goals ((try dsimp[len]at*);(try first|omega|assumption|grind[AW]))
def WL{x:Aw×Int×Cl}{s:Int}(h:0<=s/\s<=x.1.1.length/\(x.1.1.length:Int)<=16777216):Ay (Ad (NB x) s) λr=>True:=by
 refine AM (λ(s:Int)=>0<=s/\s<=x.1.1.length/\(x.1.1.length:Int)<=16777216) (λ(s:Int)=>((x.1.1.length:Int)-s).toNat) h (λs b=>?_);unfold NB;repeat' with_reducible first|apply AC<;>intro a|apply AQ<;>intro a|apply AF<;>intro a|apply AA|(refine AJ ?_ (AE ?_ ?_);rintro r ⟨hr,c⟩)
 all_goals ((try dsimp[len]at*);(try first|omega|assumption|grind[AW]))
def Hf{x:Aw×Int×Cl}(h:x.1.1.length<=16777216):Ay (Dy x) λr=>True:=by
 unfold Dy;repeat' with_reducible first|(apply BF;try dsimp only)|(apply BC;try dsimp only)|(apply A2<;>(intro u a;try subst a))|apply AA|(refine AJ ?_ (WL ?_);intro r hr)
 all_goals ((try dsimp[len]at*);(try first|omega|assumption|grind[AW]))
def F7(x:Aw):Prop:=x.1.length<=16777216/\x.2.length<=16777216
def PH{x:Aw}{a:Int}{s:Int}(h:s<a/\ -1<=s/\0<=a/\a<x.1.length/\x.1.length<=16777216):Ay (Ad (If x a) s) λr=>r≠ .inl true:=by
 refine AM (λ(s:Int)=>s<a/\ -1<=s/\0<=a/\a<x.1.length/\x.1.length<=16777216) (λ(s:Int)=>(s+1).toNat) h (λs c=>?_);unfold If;repeat' with_reducible first|apply AC<;>intro b|apply AQ<;>intro b|apply AF<;>intro b|apply AA|(apply AB (GC);intro r hr)|(refine AJ ?_ (AE ?_ ?_);rintro r ⟨hr,d⟩)
 all_goals ((try dsimp[len]at*);(try first|omega|assumption|grind[AW]))
def VW{x:Aw}{s:Int}(h:0<=s/\s<=x.1.length/\(x.1.length:Int)<=16777216):Ay (Ad (MF x) s) λr=>r≠ .inl true:=by
 refine AM (λ(s:Int)=>0<=s/\s<=x.1.length/\(x.1.length:Int)<=16777216) (λ(s:Int)=>((x.1.length:Int)-s).toNat) h (λs c=>?_);unfold MF;repeat' with_reducible first|apply AC<;>intro a|apply AO<;>intro a|apply AF<;>intro a|(apply BF;try dsimp only)|(apply BC;try dsimp only)|(apply A2<;>(intro u b;try subst b))|apply AA|(apply AB (M8);intro r hr)|(apply AB (SD);intro r hr)|(refine AJ ?_ (PH ?_);intro r hr)|(refine AJ ?_ (PH ?_);intro r hr)|(refine AJ ?_ (AE ?_ ?_);rintro r ⟨hr,d⟩)
 all_goals ((try dsimp[len]at*);(try first|omega|assumption|grind[AW]|((try simp (disch:=omega) only[AW,len]at*)<;>(try intros)<;>(try and_intros)<;>(try intros)<;>(first|omega|assumption|grind))))
def VY{x:Aw}{a:Int}{b:Ao}{s:Int}(h:0<=s/\s<=a/\(a:Int)<=16777216/\a<=x.2.length):Ay (Ad (MH x a b) s) λr=>r≠ .inl true:=by
 refine AM (λ(s:Int)=>0<=s/\s<=a/\(a:Int)<=16777216/\a<=x.2.length) (λ(s:Int)=>((a:Int)-s).toNat) h (λs d=>?_);unfold MH;repeat' with_reducible first|apply AC<;>intro c|apply AQ<;>intro c|apply AF<;>intro c|apply AA|(refine AJ ?_ (AE ?_ ?_);rintro r ⟨hr,e⟩)
 all_goals ((try dsimp[len]at*);(try first|omega|assumption|grind[AW]))
def VX{x:Aw}{s:Int}(h:0<=s/\s<=x.2.length/\(x.2.length:Int)<=16777216/\x.1.length<=16777216):Ay (Ad (MG x) s) λr=>r≠ .inl true:=by
 refine AM (λ(s:Int)=>0<=s/\s<=x.2.length/\(x.2.length:Int)<=16777216/\x.1.length<=16777216) (λ(s:Int)=>((x.2.length:Int)-s).toNat) h (λs c=>?_);unfold MG;repeat' with_reducible first|apply AC<;>intro a|apply AO<;>intro a|apply AF<;>intro a|(apply BF;try dsimp only)|(apply BC;try dsimp only)|(apply A2<;>(intro u b;try subst b))|apply AA|(apply AB (M8);intro r hr)|(refine AJ ?_ (Hf ?_);intro r hr)|(refine AJ ?_ (VY ?_);intro r hr)|(refine AJ ?_ (AE ?_ ?_);rintro r ⟨hr,d⟩)
 all_goals ((try dsimp[len]at*);(try first|omega|assumption|grind[AW]))
def W3(x:Aw):Prop:=x.1.length+x.2.length<=1024
def Ey{x:Aw}(h:F7 x):Ay (Di x) λr=>r=true->W3 x:=by
 unfold Di W3;unfold F7 at h
 repeat' first
   |with_reducible apply AC<;>intro b
   |(with_reducible apply A2<;>(intro u a;try subst a))
   |with_reducible apply AA
   |(with_reducible refine AJ ?_ (VW ?_);intro r hr)
   |(with_reducible refine AJ ?_ (VX ?_);intro r hr)
 all_goals ((try dsimp[len]at*);(try first|omega|assumption|grind[AW]))
def xz(x:Ah):Prop:=x.2.2.2.2.1.length<=4096/\x.2.2.2.2.2.length<=8/\1<=x.1
def V2(x:List Ah):Prop:=x.length<=64/\ ∀(i:Nat) (t:Ah),x[i]? =some t->xz t
def PI{x:Ah}{s:Int}(h:0<=s/\s<=x.2.2.2.2.1.length/\(x.2.2.2.2.1.length:Int)<=16777216):Ay (Ad (Ij x) s) λr=>r≠ .inl true:=by
 refine AM (λ(s:Int)=>0<=s/\s<=x.2.2.2.2.1.length/\(x.2.2.2.2.1.length:Int)<=16777216) (λ(s:Int)=>((x.2.2.2.2.1.length:Int)-s).toNat) h (λs b=>?_);unfold Ij;repeat' with_reducible first|apply AC<;>intro a|apply AF<;>intro a|apply AA|(refine AJ ?_ (AE ?_ ?_);rintro r ⟨hr,c⟩)
 all_goals ((try dsimp[len]at*);(try first|omega|assumption|grind[AW]|((try simp (disch:=omega) only[AW,len]at*)<;>(try intros)<;>(try and_intros)<;>(try intros)<;>(first|omega|assumption|grind))))
def PJ{x:Ah}{s:Int}(h:0<=s/\s<=x.2.2.2.2.2.length/\(x.2.2.2.2.2.length:Int)<=16777216):Ay (Ad (Ik x) s) λr=>r≠ .inl true:=by
 refine AM (λ(s:Int)=>0<=s/\s<=x.2.2.2.2.2.length/\(x.2.2.2.2.2.length:Int)<=16777216) (λ(s:Int)=>((x.2.2.2.2.2.length:Int)-s).toNat) h (λs b=>?_);unfold Ik;repeat' with_reducible first|apply AC<;>intro a|apply AF<;>intro a|apply AA|(refine AJ ?_ (AE ?_ ?_);rintro r ⟨hr,c⟩)
 all_goals ((try dsimp[len]at*);(try first|omega|assumption|grind[AW]|((try simp (disch:=omega) only[AW,len]at*)<;>(try intros)<;>(try and_intros)<;>(try intros)<;>(first|omega|assumption|grind))))
def ZK{x:Ah}:Ay (Ke x) λr=>r=true->xz x:=by
 unfold Ke xz
 repeat' first
   |with_reducible apply AC<;>intro a
   |with_reducible apply AL<;>intro a
   |(with_reducible apply A2<;>(intro u b;try subst b))
   |with_reducible apply AA
   |(with_reducible refine AJ ?_ (PI ?_);intro r hr)
   |(with_reducible refine AJ ?_ (PJ ?_);intro r hr)
   |(with_reducible refine AJ ?_ (PI ?_);intro r hr)
   |(with_reducible refine AJ ?_ (PJ ?_);intro r hr)
 all_goals ((try dsimp[len]at*);(try first|omega|assumption|grind[AW]))
def Vd{x:List Ah}{s:Int}(h:0<=s/\s<=x.length/\(x.length:Int)<=16777216/\ ∀(i:Nat) (t:Ah),i<s->x[i]? =some t->xz t):Ay (Ad (ML x) s) λr=>r= .inl false\/(r= .inr ()/\ ∀(i:Nat) (t:Ah),x[i]? =some t->xz t):=by
 refine AM (λ(s:Int)=>0<=s/\s<=x.length/\(x.length:Int)<=16777216/\ ∀(i:Nat) (t:Ah),i<s->x[i]? =some t->xz t) (λ(s:Int)=>((x.length:Int)-s).toNat) h (λs b=>?_);unfold ML;repeat' with_reducible first|apply AC<;>intro a|apply AO<;>intro a|apply AF<;>intro a|apply AA|(apply AB (ZK);intro r hr)|(refine AJ ?_ (AE ?_ ?_);rintro r ⟨hr,c⟩)
 all_goals ((try dsimp[len]at*);(try first|omega|assumption|grind[AW]|((try simp (disch:=omega) only[AW,len]at*)<;>(try intros)<;>(try and_intros)<;>(try intros)<;>(first|omega|assumption|grind))))
def De{x:List Ah}:Ay (Dk x) λr=>r=true->V2 x:=by
 unfold Dk V2
 repeat' first
   |with_reducible apply AC<;>intro b
   |(with_reducible apply A2<;>(intro u a;try subst a))
   |with_reducible apply AA
   |(with_reducible refine AJ ?_ (Vd ?_);intro r hr)
 all_goals ((try dsimp[len]at*);(try first|omega|assumption|grind[AW]))
def fD(x:BW):Prop:=1<=x.length/\x.length<=64
def cK{x:Int}:Ay (Gf x) λr=>True:=by
 unfold Gf;repeat' with_reducible first|apply AC<;>intro a|apply AF<;>intro a|apply AA
 all_goals ((try dsimp[len]at*);(try first|omega|assumption|grind[AW]))
def Vb{x:BW}{s:Int}(h:0<=s/\s<=x.length/\(x.length:Int)<=16777216):Ay (Ad (Ih x) s) λr=>r≠ .inl true:=by
 refine AM (λ(s:Int)=>0<=s/\s<=x.length/\(x.length:Int)<=16777216) (λ(s:Int)=>((x.length:Int)-s).toNat) h (λs b=>?_);unfold Ih;repeat' with_reducible first|apply AC<;>intro a|apply AO<;>intro a|apply AQ<;>intro a|apply AL<;>intro a|apply AF<;>intro a|apply AA|(apply AB (cK);intro r hr)|(refine AJ ?_ (AE ?_ ?_);rintro r ⟨hr,c⟩)
 all_goals ((try dsimp[len]at*);(try first|omega|assumption|grind[AW]))
def Fz{x:BW}:Ay (Dj x) λr=>r=true->fD x:=by
 unfold Dj fD
 repeat' first
   |with_reducible apply AC<;>intro b
   |(with_reducible apply A2<;>(intro u a;try subst a))
   |with_reducible apply AA
   |(with_reducible refine AJ ?_ (Vb ?_);intro r hr)
 all_goals ((try dsimp[len]at*);(try first|omega|assumption|grind[AW]))
def Sb{x:List AZ×Int}{s:Int}(h:0<=s/\s<=x.1.length/\(x.1.length:Int)<=16777216):Ay (Ad (Gk x) s) λr=>r≠ .inl true:=by
 refine AM (λ(s:Int)=>0<=s/\s<=x.1.length/\(x.1.length:Int)<=16777216) (λ(s:Int)=>((x.1.length:Int)-s).toNat) h (λs b=>?_);unfold Gk;repeat' with_reducible first|apply AC<;>intro a|apply AF<;>intro a|apply AA|(refine AJ ?_ (AE ?_ ?_);rintro r ⟨hr,c⟩)
 all_goals ((try dsimp[len]at*);(try first|omega|assumption|grind[AW]|((try simp (disch:=omega) only[AW,len]at*)<;>(try intros)<;>(try and_intros)<;>(try intros)<;>(first|omega|assumption|grind))))
def OR{x:List AZ×Int}(h:x.1.length<=16777216):Ay (E0 x) λr=>True:=by
 unfold E0;repeat' with_reducible first|(apply BF;try dsimp only)|(apply BC;try dsimp only)|(apply A2<;>(intro u a;try subst a))|apply AA|(refine AJ ?_ (Sb ?_);intro r hr)
 all_goals ((try dsimp[len]at*);(try first|omega|assumption|grind[AW]))
theorem Fw{b:Type}{l:List b}{i:Nat}{a:b}(h:l[i]? =some a):i<l.length:=by grind
def rL(p:Int)(e:AD):Bool:=((e.2.1==1)||(e.2.1==2))&&(e.2.2.2.2.2.2.1.1==p)
def GM(L:List AD)(p:Int):Int:=L.foldl (λa e=>if rL p e then e.1 else a) 0
def TM(L:List AD)(e:AD)(p:Int):GM (L++[e]) p=if rL p e then e.1 else GM L p:=by simp only[GM,YJ,YK,List.foldl_nil]
def pT(n:Int)(L:List AD)(D:List AZ)(R:List DX):Prop:=
 ∀p,0<=p->p<n->(∀d∈D,d.1=p->d.2.2=GM L p)/\ ∀r,R[p.toNat]? =some r->r.1<=GM L p/\((∀d∈D,d.1≠p)->r.1=GM L p)
def KP(n:Int)(L:List AD)(F:List A0)(D:List AZ)(R:List DX):Prop:=
 ∀p,0<=p->p<n->(∀f∈F,f.1.1=p->f.1.2.1=GM L p)/\(∀d∈D,d.1=p->d.2.2=GM L p)/\
  ∀r,R[p.toNat]? =some r->r.1<=GM L p/\((∀d∈D,d.1≠p)->(∀f∈F,f.1.1=p->f.2.1=false)->r.1=GM L p)
def EOK(n:Int)(M:List AD)(e:AD):Prop:=
 (e.2.1=1\/e.2.1=2->e.2.2.2.2.1=GM M e.2.2.2.2.2.2.1.1)/\(e.2.1=7->e.2.2.2.2.2.1=GM M e.2.2.2.2.2.2.1.1)/\
  (e.2.1=6-> ∀c,C2 e.2.2.2.2.2.2.2=some (c,0)->c.1=n->pT n M c.2.2.2.1 c.2.2.2.2)
def LI(n:Int)(L:List AD):Prop:= ∀(i:Nat) (e:AD),L[i]? =some e->EOK n (L.take i) e
def LI.nil(n:Int):LI n []:=λi e h=>by simp at h
def LI.app{n:Int}{L:List AD}{e:AD}(h:LI n L)(c:EOK n L e):LI n (L++[e]):=by intro i f a;rcases O7 i L.length with b|b|b;rw[B6 b]at a;rw[fH (by omega)];exact h i f a;grind;rw[Cs (by simp;omega)]at a;cases a
def LI.pre{n:Int}{L T:List AD}(h:LI n (L++T)):LI n L:=by intro i f a;have:=h i f (by grind);grind
def FD(n:Int)(F:List A0)(D:List AZ):Prop:= ∀f∈F,0<=f.1.1/\f.1.1<n/\ ∀d∈D,d.1≠f.1.1
def KI(k:AP):Prop:=LI k.1 k.2.2.1.2.1/\KP k.1 k.2.2.1.2.1 k.2.2.2.1.2.1 k.2.2.2.2.2.2.2 k.2.2.2.2.2.2.1/\FD k.1 k.2.2.2.1.2.1 k.2.2.2.2.2.2.2
def FD.sub{n:Int}{F G:List A0}{D:List AZ}(h:FD n F D)(a: ∀g∈G,∃f∈F,f.1.1=g.1.1/\f.1.2.1=g.1.2.1):FD n G D:=by intro g c;obtain⟨f,b,e,_⟩:=a g c;rw[<-e];exact h f b
def lZ{p b:Int}: ∀(L:List AD) (a:Int),a<b->(∀e∈L,e.1<b)->L.foldl (λa e=>if rL p e then e.1 else a) a<b
 |[],a,ha,_=>ha
 |e::L,a,ha,h=>by refine lZ L _ ?_ λf c=>h f (CC _ c);show(if rL p e=true then e.1 else a)<b;split;exact h e JK;exact ha
def uv{l:Aj}(h:D2 l)(p:Int):GM l.2.1 p<l.1+l.2.1.length:=by obtain⟨b,_,_,_,_,c⟩:=h;refine lZ _ _ (by omega) λe a=>?_;obtain⟨i,d⟩:=Eu a;grind
def KP.app{n:Int}{L:List AD}{F:List A0}{D:List AZ}{R:List DX}{e:AD}(h:KP n L F D R)(a:e.2.1≠1/\e.2.1≠2):KP n (L++[e]) F D R:=by
 intro p c d;have b:GM (L++[e]) p=GM L p:=by
  rw[TM];have:rL p e=false:=by simp[rL,a.1,a.2]
  grind
 rw[b];exact h p c d
def KP.frames{n:Int}{L:List AD}{F G:List A0}{D:List AZ}{R:List DX}(h:KP n L F D R)
  (m: ∀g∈G,∃f∈F,f.1.1=g.1.1/\f.1.2.1=g.1.2.1) (o: ∀f∈F,f.2.1=true-> ∃g∈G,g.1.1=f.1.1/\g.2.1=true):KP n L G D R:=by
 intro p w x;obtain⟨a,b,c⟩:=h p w x;refine⟨λg v e=>?_,b,λr hr=>⟨(c r hr).1,λt u=>(c r hr).2 t λf d e=>?_⟩⟩;obtain⟨f,d,j,k⟩:=m g v;rw[<-k];exact a f d (j.trans e);cases s:f.2.1 with
 |false=>rfl
 |true=>obtain⟨g,q,l,i⟩:=o f d s;rw[u g q (l.trans e)]at i;cases i
def KP.written{n:Int}{L:List AD}{F G:List A0}{D:List AZ}{R:List DX}{q d:Int}{w:DX}(h:KP n L F D R)(q0:0≤q)(A:d=GM L q)(B:q<n)
  (s: ∀g∈G,∃f∈F,f.1.1=g.1.1/\f.1.2.1=g.1.2.1) (t: ∀f∈F,f.1.1≠q->f∈G) (l:R[q.toNat]? =some w):
  KP n L G D (R.set q.toNat ((if d>w.1 then d else w.1),w.2)):=by
 intro p y z;obtain⟨a,b,c⟩:=h p y z;refine⟨λg x e=>?_,b,λr hr=>?_⟩;obtain⟨f,i,m,o⟩:=s g x;rw[<-o];exact a f i (m.trans e);by_cases k:p=q;subst k;have j:p.toNat<R.length:=by rcases Ap p.toNat R.length with h|h;exact h;rw[Cs h]at l;cases l
 rw[G8 j]at hr;have:=(c w l).1;have e:r.1=GM L p:=by rw[<-Ch hr];dsimp only;split<;>omega
 exact⟨by omega,λ_ _=>e⟩;rw[D3 (by omega)]at hr;refine⟨(c r hr).1,λu v=>(c r hr).2 u λf i e=>?_⟩;exact v f (t f i (by omega)) e
def uN{F:List A0}{i:Nat}{f n:A0}(a:F[i]? =some f)(hn:n.1=f.1): ∀g∈F.set i n,∃f∈F,f.1.1=g.1.1/\f.1.2.1=g.1.2.1:=by grind
def pM{F:List A0}{i:Nat}{f n:A0}(c:F[i]? =some f): ∀g∈F,g.1.1≠f.1.1->g∈F.set i n:=by intro g a b;obtain⟨j,d⟩:=Eu a;apply BJ (i:=j);grind
def KP.change{n:Int}{L:List AD}{F:List A0}{D:List AZ}{R:List DX}{e:AD}{i:Nat}{f g:A0}(h:KP n L F D R)(C:FD n F D)
  (s:e.2.1=1\/e.2.1=2) (v:F[i]? =some f) (G:f.1.1=e.2.2.2.2.2.2.1.1) (A:g.1.1=f.1.1) (x:g.1.2.1=e.1) (y:g.2.1=true)
  (H: ∀j k,F[j]? =some k->k.1.1=f.1.1->j=i) (E:GM L f.1.1<e.1):KP n (L++[e]) (F.set i g) D R:=by
 have u:i<F.length:=by rcases Ap i F.length with h|h;exact h;rw[Cs h]at v;cases v
 have z:g∈F.set i g:=BJ (i:=i) (G8 u);intro p I J;obtain⟨a,b,c⟩:=h p I J;have B:rL p e=(f.1.1==p):=by rw[G];unfold rL;rcases s with h|h<;>simp[h]
 rw[TM,B];by_cases t:f.1.1=p;subst t;rw[beq_self_eq_true,if_pos rfl];refine⟨λk s l=>?_,λd m l=>absurd l ((C f (BJ v)).2.2 d m),λr hr=>⟨by have:=(c r hr).1;omega,λ_ o=>?_⟩⟩;obtain⟨j,w⟩:=Eu s;by_cases q:j=i;subst q;rw[G8 u]at w;rw[<-Ch w];exact x;rw[D3 (λh=>q h.symm)]at w;exact absurd (H j k w l) q;have:=o g z A;rw[y]at this;cases this;rw[if_neg (by simpa using t)];refine⟨λk s l=>?_,b,λr hr=>⟨(c r hr).1,λm o=>(c r hr).2 m λk s l=>?_⟩⟩;rcases Nl s with h|h;exact a k h l;subst h;exact absurd (A.symm.trans l) t;exact o k (pM v k s (by omega)) l
def FD.set{n:Int}{F:List A0}{D:List AZ}{i:Nat}{f g:A0}(h:FD n F D)(b:F[i]? =some f)(c:g.1.1=f.1.1):FD n (F.set i g) D:=by intro k d;rcases Nl d with a|a;exact h k a;subst a;rw[c];exact h f (BJ b)
def KP.supply{n:Int}{L:List AD}{F:List A0}{D l:List AZ}{R:List DX}{x:A8}{g:A0}(h:KP n L F D R)(y:x.2.1=GM L x.1)
  (w: ∀f∈F,f.1.1≠x.1) (t:g.1=x) (i:(g.2.1=true/\l=D.filter λd=>d.1 !=x.1)\/(g.2.1=false/\(∀d∈D,d.1≠x.1)/\l=D)):KP n L (F++[g]) l R:=by
 intro p z A;obtain⟨a,b,c⟩:=h p z A;have v: ∀d∈l,d∈D:=by rcases i with⟨_,e⟩|⟨_,_,e⟩<;>subst e;exact λd i=>(Bc.1 i).1;exact λd i=>i
 refine⟨λf j e=>?_,λd i=>b d (v d i),λr hr=>⟨(c r hr).1,λq s=>(c r hr).2 ?_ λf j=>s f (HW _ j)⟩⟩;rcases Ar.1 j with j|j;exact a f j e;rw[A3]at j;subst j;rw[t]at e⊢;rw[y,e];intro d k e;rcases i with⟨u,o⟩|⟨_,_,o⟩<;>subst o;by_cases m:p=x.1;have:=s g (by simp) (by rw[t,m]);rw[u]at this;cases this;exact q d (Bc.2 ⟨k,by simp;omega⟩) e;exact q d k e
def FD.supply{n:Int}{F:List A0}{D b:List AZ}{p:Int}{g:A0}(h:FD n F D)(j:0<=p)(k:p<n)(i:g.1.1=p)(e: ∀d∈b,d∈D)(hn: ∀d∈b,d.1≠p):FD n (F++[g]) b:=by intro f a;rcases Ar.1 a with a|a;exact⟨(h f a).1,(h f a).2.1,λd c=>(h f a).2.2 d (e d c)⟩;grind
def SB(k:AP):Prop:=F7 k.2.2.2.2.1/\k.2.2.2.2.2.1.length<=16777216/\k.2.2.2.2.2.2.2.length<=16777216
def SK(k:AP):Prop:=F7 k.2.2.2.2.1/\k.2.2.2.2.2.1.length<=16777216/\k.2.2.2.2.2.2.2.length<=16777216/\KI k
def SK.sb{k:AP}(h:SK k):SB k:=⟨h.1,h.2.1,h.2.2.1⟩
def SK.ki{k:AP}(h:SK k):KI k:=h.2.2.2
def SB.sk{k:AP}(h:SB k)(g:KI k):SK k:=⟨h.1,h.2.1,h.2.2,g⟩
def VK(k:AP):Prop:=1<=k.1/\k.1<=64/\D2 k.2.2.1/\OG k.2.2.2.1/\W3 k.2.2.2.2.1/\V2 k.2.2.2.2.2.1/\fD k.2.2.2.2.2.2.1/\k.2.2.2.2.2.2.1.length=k.1
def ZO{x:AP}(h:SB x):Ay (Ki x) λr=>r=true->VK x:=by
 unfold Ki VK;unfold SB at h
 repeat' first
   |with_reducible apply AF<;>intro a
   |with_reducible apply AA
   |(with_reducible apply AB (Bp);intro r hr)
   |(with_reducible apply AB (ED);intro r hr)
   |(with_reducible refine AJ ?_ (Ey ?_);intro r hr)
   |(with_reducible apply AB (De);intro r hr)
   |(with_reducible apply AB (Fz);intro r hr)
   |(with_reducible refine AJ ?_ (OR ?_);intro r hr)
 all_goals ((try dsimp[len]at*);(try first|omega|assumption|grind[AW]))
def Ve{x:AP×Int}{s:Int×AZ}(h:0<=s.1/\s.1<=x.1.2.2.2.2.2.2.2.length/\x.1.2.2.2.2.2.2.2.length<=16777216/\ ∀(i:Nat) (d:AZ),i<s.1->x.1.2.2.2.2.2.2.2[i]? =some d->d.1≠x.2):Ay (Ad (MN x) s) λr=>(∃d∈x.1.2.2.2.2.2.2.2,r= .inl (true,d)/\d.1=x.2)\/ ∃z,r= .inr z/\ ∀d∈x.1.2.2.2.2.2.2.2,d.1≠x.2:=by
 refine AM (λ(s:Int×AZ)=>0<=s.1/\s.1<=x.1.2.2.2.2.2.2.2.length/\x.1.2.2.2.2.2.2.2.length<=16777216/\ ∀(i:Nat) (d:AZ),i<s.1->x.1.2.2.2.2.2.2.2[i]? =some d->d.1≠x.2) (λ(s:Int×AZ)=>((x.1.2.2.2.2.2.2.2.length:Int)-s.1).toNat) h (λs j=>?_);have⟨c,m,f,g⟩:=j;unfold MN;refine AC (λa=>?_) (λa=>AA (.inr ⟨_,rfl,λd b=>?_⟩));simp[len]at a;refine AB (AE c a) λv o=>?_;apply AQ<;>intro n;grind[AB,AE,AA,Option.some.inj];have e:=AW (x:=s.1+1);refine AA ⟨⟨by dsimp only;omega,by dsimp only;omega,f,λi d k b=>?_⟩,by dsimp only;omega⟩;dsimp only at k;by_cases l:(i:Int)<s.1;exact g i d l b;have:i=s.1.toNat:=by omega
 grind[Option.some.inj];grind[List.getElem?_of_mem,Nat.lt_or_ge,List.getElem?_eq_none]
def JC{x:AP×Int}(h:SB x.1):Ay (Eg x) λr=>(r.2=true->r.1∈x.1.2.2.2.2.2.2.2/\r.1.1=x.2)/\(r.2=false-> ∀d∈x.1.2.2.2.2.2.2.2,d.1≠x.2):=by unfold Eg;refine AB (Ve ⟨by omega,by dsimp only;omega,h.2.2,λi d a=>absurd a (by dsimp only;omega)⟩) λv b=>?_;grind[BF,AA,BC]
def Vf{x:AP}{s:Int}(h:0<=s/\s<=x.2.2.2.2.2.1.length/\(x.2.2.2.2.2.1.length:Int)<=16777216):Ay (Ad (MO x) s) λr=>r≠ .inl true:=by
 refine AM (λ(s:Int)=>0<=s/\s<=x.2.2.2.2.2.1.length/\(x.2.2.2.2.2.1.length:Int)<=16777216) (λ(s:Int)=>((x.2.2.2.2.2.1.length:Int)-s).toNat) h (λs b=>?_);unfold MO;repeat' with_reducible first|apply AC<;>intro a|apply AF<;>intro a|apply AA|(refine AJ ?_ (AE ?_ ?_);rintro r ⟨hr,c⟩)
 all_goals ((try dsimp[len]at*);(try first|omega|assumption|grind[AW]))
def Vg{x:AP}{s:Int}(h:0<=s/\s<=x.2.2.2.1.2.1.length/\(x.2.2.2.1.2.1.length:Int)<=16777216/\SB x):Ay (Ad (MP x) s) λr=>r≠ .inl true:=by
 refine AM (λ(s:Int)=>0<=s/\s<=x.2.2.2.1.2.1.length/\(x.2.2.2.1.2.1.length:Int)<=16777216/\SB x) (λ(s:Int)=>((x.2.2.2.1.2.1.length:Int)-s).toNat) h (λs b=>?_);unfold MP;repeat' with_reducible first|apply AC<;>intro a|apply AF<;>intro a|apply AA|(refine AJ ?_ (JC ?_);intro r hr)|(refine AJ ?_ (AE ?_ ?_);rintro r ⟨hr,c⟩)
 all_goals ((try dsimp[len]at*);(try first|omega|assumption|grind[AW]))
def Vh{x:AP}{s:Int}(h:0<=s/\s<=x.2.2.2.2.1.1.length/\(x.2.2.2.2.1.1.length:Int)<=16777216):Ay (Ad (MQ x) s) λr=>r≠ .inl true:=by
 refine AM (λ(s:Int)=>0<=s/\s<=x.2.2.2.2.1.1.length/\(x.2.2.2.2.1.1.length:Int)<=16777216) (λ(s:Int)=>((x.2.2.2.2.1.1.length:Int)-s).toNat) h (λs b=>?_);unfold MQ;repeat' with_reducible first|apply AC<;>intro a|apply AF<;>intro a|apply AA|(refine AJ ?_ (AE ?_ ?_);rintro r ⟨hr,c⟩)
 all_goals ((try dsimp[len]at*);(try first|omega|assumption|grind[AW]))
def Vi{x:AP}{s:Int}(h:0<=s/\s<=x.2.2.2.2.1.2.length/\(x.2.2.2.2.1.2.length:Int)<=16777216):Ay (Ad (MR x) s) λr=>r≠ .inl true:=by
 refine AM (λ(s:Int)=>0<=s/\s<=x.2.2.2.2.1.2.length/\(x.2.2.2.2.1.2.length:Int)<=16777216) (λ(s:Int)=>((x.2.2.2.2.1.2.length:Int)-s).toNat) h (λs b=>?_);unfold MR;repeat' with_reducible first|apply AC<;>intro a|apply AF<;>intro a|apply AA|(refine AJ ?_ (AE ?_ ?_);rintro r ⟨hr,c⟩)
 all_goals ((try dsimp[len]at*);(try first|omega|assumption|grind[AW]))
def Bz{x:AP}(h:SB x):Ay (Bd x) λr=>r=true->VK x:=by
 unfold Bd;repeat' with_reducible first|apply AO<;>intro a|apply AF<;>intro a|(apply BF;try dsimp only)|(apply BC;try dsimp only)|(apply A2<;>(intro u b;try subst b))|apply AA|(refine AJ ?_ (ZO ?_);intro r hr)|(refine AJ ?_ (Vf ?_);intro r hr)|(refine AJ ?_ (Vg ?_);intro r hr)|(refine AJ ?_ (Vh ?_);intro r hr)|(refine AJ ?_ (Vi ?_);intro r hr)
 all_goals ((try dsimp[len]at*);(try first|omega|assumption|grind[SB,VK,F7,OG]))
def WP{x:List Ah×Int}{s:Int}(h:0<=s/\s<=x.1.length/\(x.1.length:Int)<=16777216):Ay (Ad (JA x) s) λr=> ∀u,r= .inl u->0<=u/\u<x.1.length/\ ∃t,x.1[u.toNat]? =some t/\t.1=x.2:=by
 refine AM (λ(s:Int)=>0<=s/\s<=x.1.length/\(x.1.length:Int)<=16777216) (λ(s:Int)=>((x.1.length:Int)-s).toNat) h (λs b=>?_);unfold JA;repeat' with_reducible first|apply AC<;>intro a|apply AQ<;>intro a|apply AF<;>intro a|apply AA|(refine AJ ?_ (AE ?_ ?_);rintro r ⟨hr,c⟩)
 all_goals ((try dsimp[len]at*);(try first|omega|assumption|grind[AW]))
def Hj{x:List Ah×Int}(h:x.1.length<=16777216):Ay (ES x) λr=> -1<=r/\r<x.1.length/\(0<=r-> ∃t,x.1[r.toNat]? =some t/\t.1=x.2):=by
 unfold ES;repeat' with_reducible first|(apply BF;try dsimp only)|(apply BC;try dsimp only)|(apply A2<;>(intro u a;try subst a))|apply AA|(refine AJ ?_ (WP ?_);intro r hr)
 all_goals ((try dsimp[len]at*);(try first|omega|assumption|grind[AW]))
def FM{x:List Ah×Int}(h:x.1.length<=16777216):Ay (CG x) λr=> -1<=r/\r<x.1.length/\(0<=r-> ∃t,x.1[r.toNat]? =some t/\t.1=x.2):=by
 unfold CG;repeat' with_reducible first|apply AA|(refine AJ ?_ (Hj ?_);intro r hr)
 all_goals ((try dsimp[len]at*);(try first|omega|assumption|grind[AW]))
def fy(p:BY)(id:Int):Prop:= ∃(i:Nat) (f:A0),p.2.1[i]? =some f/\f.1.1=id
def WO{x:BY×Int}{s:Int}(h:0<=s/\s<=x.1.2.1.length/\(x.1.2.1.length:Int)<=16777216/\ ∀(i:Nat) (f:A0),i<s->x.1.2.1[i]? =some f->f.1.1≠x.2):Ay (Ad (NC x) s) λr=>(∃u,r= .inl u/\0<=u/\u<x.1.2.1.length/\ ∃f,x.1.2.1[u.toNat]? =some f/\f.1.1=x.2)\/(r= .inr ()/\ ¬fy x.1 x.2):=by
 refine AM (λ(s:Int)=>0<=s/\s<=x.1.2.1.length/\(x.1.2.1.length:Int)<=16777216/\ ∀(i:Nat) (f:A0),i<s->x.1.2.1[i]? =some f->f.1.1≠x.2) (λ(s:Int)=>((x.1.2.1.length:Int)-s).toNat) h (λs b=>?_);unfold NC;repeat' with_reducible first|apply AC<;>intro a|apply AQ<;>intro a|apply AF<;>intro a|apply AA|(refine AJ ?_ (AE ?_ ?_);rintro r ⟨hr,c⟩)
 all_goals try (have e:=AW (x:=s+1))
 all_goals first|omega|grind[fy]
def GX{x:BY×Int}(h:x.1.2.1.length<=16777216):Ay (FE x) λr=> -1<=r/\r<x.1.2.1.length/\(0<=r-> ∃f,x.1.2.1[r.toNat]? =some f/\f.1.1=x.2)/\(r<0-> ¬fy x.1 x.2):=by refine AB (WO (by refine⟨by omega,by omega,by omega,λi f a=>absurd a (by omega)⟩)) λs b=>?_;grind[BF,AA,BC]
def FL{x:BY×Int}:Ay (Dz x) λr=> -1<=r/\r<x.1.2.1.length/\(0<=r->OG x.1/\ ∃f,x.1.2.1[r.toNat]? =some f/\f.1.1=x.2)/\(OG x.1->fy x.1 x.2->0<=r):=by
 unfold Dz;repeat' with_reducible first|apply AO<;>intro b|apply AF<;>intro b|apply AA|(apply AB (ED);intro r hr)|(refine AJ ?_ (GX ?_);intro r hr)
 all_goals first|omega|(have a:OG x.1:=(by grind);have:=a.1;have:=a.2.1;have:=a.2.2.1;omega)|grind
def IK{x:BY×Int}:Ay (Fc x) λr=>(r.2=true->OG x.1/\jc r.1/\fy x.1 x.2/\r.1.1=x.2/\ ∃f∈x.1.2.1,f.1=r.1)/\(r.2=false->OG x.1-> ¬fy x.1 x.2):=by
 unfold Fc;repeat' with_reducible first|apply AC<;>intro a|apply AF<;>intro a|apply AA|(apply AB (FL);intro r hr)|(refine AJ ?_ (AE ?_ ?_);rintro r ⟨hr,b⟩)
 all_goals first|omega|(simp;grind)|grind[OG,JY,iD,fy]
theorem D2.last{x:Aj}(h:D2 x):wi (wi (x.1+len x.2.1)-1)=x.1+x.2.1.length-1:=by have⟨a,b,c,d,e,f⟩:=h;grind[AW]
def D2.at{x:Aj}{n:Int}{e:AD}(h:D2 x)(a:x.1<=n)(b:n<=x.1+x.2.1.length-1)(c:x.2.1[(wi (n-x.1)).toNat]? =some e):OF e/\e.1=n:=by have⟨a1,a2,a3,a4,a5,a6⟩:=h;grind[AW]
theorem D2.append{x:Aj}{e:AD}{l:List AD}(h:D2 x)(b:x.2.1.length≠4096)(d:OF e)(c:e.1=x.1+x.2.1.length)(a:l=x.2.1++[e]):D2 (x.1,l,x.2.2):=by have⟨a1,a2,a3,a4,a5,a6⟩:=h;subst a;refine⟨a1,a2,by simp;omega,a4,by simp;omega,λi f g=>?_⟩;grind[Nat.lt_or_ge,List.getElem?_append_right,List.getElem?_eq_none]
def D2.force{x:Aj}{n:Int}(h:D2 x)(a:n<=x.1+x.2.1.length-1):D2 (x.1,x.2.1,if n>x.2.2 then n else x.2.2):=by have⟨a1,a2,a3,a4,a5,a6⟩:=h;refine⟨a1,a2,a3,?_,?_,a6⟩<;>(dsimp only;split<;>omega)
def EP{x:Aj}:Ay (Dw x) λr=>D2 x->r=x.1+x.2.1.length-1:=by
 unfold Dw;repeat' with_reducible first|apply AO<;>intro a|apply AF<;>intro a|apply AA|(apply AB (Bp);intro r hr)|(apply AB (EQ);intro r hr)
 all_goals ((try dsimp[len]at*);(try first|omega|assumption|grind[D2.last]))
def I8{x:Aj×Int}:Ay (EA x) λr=>(r.2=0->D2 r.1/\r.1.2.1=x.1.2.1/\r.1.1=x.1.1):=by
 unfold EA;repeat' with_reducible first|apply AC<;>intro a|apply AO<;>intro a|apply AF<;>intro a|apply AA|(apply AB (Bp);intro r hr)|(apply AB (EQ);intro r hr)
 all_goals try (intro _;have b:D2 x.1:=by grind
                have c:=b.last;exact⟨b.force (by omega),rfl,rfl⟩)
 all_goals ((try dsimp[len]at*);(try first|omega|assumption|grind[AW]))
def Gq{x:Aj×Int}:Ay (Eo x) λr=>(r.2=0->OF r.1/\r.1.1=x.2/\x.1.2.1[(x.2-x.1.1).toNat]? =some r.1/\x.1.1<=x.2)/\(D2 x.1->x.1.1<=x.2->x.2<=x.1.1+x.1.2.1.length-1->r.2=0):=by
 unfold Eo;repeat' with_reducible first|apply AC<;>intro c|apply AO<;>intro c|apply AF<;>intro c|apply AA|(apply AB (Bp);intro r hr)|(apply AB (EQ);intro r hr)|(refine AJ ?_ (AE ?_ ?_);rintro r ⟨hr,f⟩)
 all_goals try (have a:D2 x.1:=by grind)
 all_goals try (have e:=a.last;have:=a.1;have:=a.2.1;have:=a.2.2.1)
 all_goals try (have d:wi (x.2-x.1.1)=x.2-x.1.1:=AW)
 all_goals try (have b:=a.at (n:=x.2) (by omega) (by omega) hr;rw[d]at hr;exact⟨λ_=>⟨b.1,b.2,hr,by omega⟩,λ_ _ _=>rfl⟩)
 all_goals ((try dsimp[len]at*);(try first|omega|assumption|grind[AW]))
def Xg{x:Aj×AD}:Ay (Je x) λr=>(r.2.2=0->D2 r.1/\D2 x.1/\r.1.2.1=x.1.2.1++[(r.2.1,x.2.2)]/\r.1.1=x.1.1/\r.2.1=x.1.1+x.1.2.1.length):=by
 unfold Je;repeat' with_reducible first|apply AO<;>intro b|apply AQ<;>intro b|apply AF<;>intro b|apply AA|(apply AB (Bp);intro r hr)|(apply AB (EQ);intro r hr)|(apply AB (B9);intro r hr)|(refine AJ ?_ (Ac ?_);rintro r ⟨hr,c,d⟩)
 all_goals try (have a:D2 x.1:=by grind)
 all_goals try (have c:=a.last;have:=a.1;have:=a.2.1;have:=a.2.2.1)
 all_goals ((try dsimp[len]at*);(try first|omega|assumption|grind[AW,D2.append]))
def Bv{x:AD}:Ay (A5 x) λr=>r=true↔x.2.1=1\/x.2.1=2:=by
 unfold A5;repeat' with_reducible first|apply AQ<;>intro a|apply AF<;>intro a|apply AA
 all_goals ((try dsimp[len]at*);(try first|omega|assumption|grind[AW]))
def kg(n:Int):0<=IntKind.wrap .u64 n:=by rw[S2];omega
theorem LJ(l:List Int):(Gv l).length=l.length:=by simp[Gv]
theorem XY{x:Bb×Int×Int}{s:Bb×Int}(h:0<=s.2/\s.2<=x.2.2/\x.2.2<=8/\(s.1.length:Int)=x.1.length+s.2/\x.1.length<=1099511627776):Ay (Ad (GS x) s) λr=>(r.length:Int)=x.1.length+x.2.2:=by
 refine AM (λ(s:Bb×Int)=>0<=s.2/\s.2<=x.2.2/\x.2.2<=8/\(s.1.length:Int)=x.1.length+s.2/\x.1.length<=1099511627776) (λ(s:Bb×Int)=>(x.2.2-s.2).toNat) h (λs b=>?_);unfold GS;repeat' with_reducible first|refine AC ?_ ?_<;>intro a|refine AF ?_ ?_<;>intro a|refine AA ?_|refine XW ?_|(refine AJ ?_ (CY ?_);rintro r ⟨hr,c⟩)
 all_goals try (have d:=kg (wi (8*s.2));omega)
 all_goals ((try dsimp only[len]at*);(try first|omega|assumption|grind[AW,LJ]))
theorem Cj{x:Bb×Int×Int}(h:x.1.length<=1099511627776):Ay (Al x) λr=>(1<=x.2.2->x.2.2<=8->(r.length:Int)=x.1.length+x.2.2)/\r.length<=x.1.length+8:=by
 unfold Al;repeat' with_reducible first|refine AC ?_ ?_<;>intro a|refine AF ?_ ?_<;>intro a|refine AA ?_|(refine AJ ?_ (XY ?_);intro r hr)
 all_goals ((try dsimp only[len]at*);(try first|omega|assumption|grind[AW]))
def uG{n:Int}(h:n<=4):(2:Int)^(8*n.toNat)<=4294967296:=by
 have:n.toNat=0\/n.toNat=1\/n.toNat=2\/n.toNat=3\/n.toNat=4:=by omega
 rcases this with h|h|h|h|h<;>rw[h]<;>decide
def zQ{n:Int}(h:n<=2):(2:Int)^(8*n.toNat)<=65536:=by
 have:n.toNat=0\/n.toNat=1\/n.toNat=2:=by omega
 rcases this with h|h|h<;>rw[h]<;>decide
def xD{a b:Int}{k:Nat}(e:0<=a)(c:a<2^k)(f:0<=b)(d:b<2^k)(g:k<=64):(0:Int)<=((BitVec.toNat (BitVec.ofInt 64 a|||BitVec.ofInt 64 b):Nat):Int)/\((BitVec.toNat (BitVec.ofInt 64 a|||BitVec.ofInt 64 b):Nat):Int)<2^k:=by
 refine⟨by omega,?_⟩;obtain⟨n,rfl⟩:=Eb e;obtain⟨m,rfl⟩:=Eb f;have hn:n<2^k:=by exact_mod_cast c
 have h:m<2^k:=by exact_mod_cast d
 have i:2^k<=2^64:=VE (by decide) g;rw[BitVec.toNat_or];simp only[S9,TA];rw[S8 (by omega),S8 (by omega)];exact_mod_cast Nat.or_lt_two_pow hn h
def qI{a v i:Int}(q:0≤i)(r:i<8)(p:0≤a)(b:a<2^(8*i.toNat))(u:0≤v)(w:v<256):
  0<=IntKind.wrap .u64 (((BitVec.toNat ((BitVec.ofInt 64 a)|||(BitVec.ofInt 64 (IntKind.wrap .u64 ((IntKind.wrap .u64 v)*(2^(min (Int.toNat (IntKind.wrap .u64 (wi (8*i)))) 64))))))):Nat):Int)/\
  IntKind.wrap .u64 (((BitVec.toNat ((BitVec.ofInt 64 a)|||(BitVec.ofInt 64 (IntKind.wrap .u64 ((IntKind.wrap .u64 v)*(2^(min (Int.toNat (IntKind.wrap .u64 (wi (8*i)))) 64))))))):Nat):Int)<2^(8*(wi (i+1)).toNat):=by
 have f:wi (i+1)=i+1:=AW;have g:wi (8*i)=8*i:=AW;have h:IntKind.wrap .u64 (8*i)=8*i:=by rw[S2];omega
 have j:IntKind.wrap .u64 v=v:=by rw[S2];omega
 rw[f,g,h,j];obtain⟨n,rfl⟩:=Eb q;obtain⟨m,rfl⟩:=Eb u;have s:min (8*(n:Int)).toNat 64=8*n:=by omega
 rw[s];have e:((n:Int)+1).toNat=n+1:=by omega
 have d:((n:Int)).toNat=n:=by omega
 rw[e];rw[d]at b;have t:(m:Int)*2^(8*n)<2^(8*(n+1)):=by
  have:(m*2^(8*n):Nat)<2^(8*(n+1)):=by
   have o:2^(8*(n+1))=256*2^(8*n):=by rw[Nat.mul_add,Zr];omega
   rw[o];exact Nat.mul_lt_mul_of_pos_right (by omega) (Nat.pow_pos (by decide))
  exact_mod_cast this
 have z:(2:Int)^(8*(n+1))<=2^64:=by have:(2^(8*(n+1)):Nat)<=2^64:=VE (by decide) (by omega);exact_mod_cast this
 have x:(0:Int)<=(m:Int)*2^(8*n):=by
  have:(0:Int)<=((m*2^(8*n):Nat):Int):=by omega
  exact_mod_cast this
 have l:IntKind.wrap .u64 ((m:Int)*2^(8*n))=(m:Int)*2^(8*n):=by rw[S2];omega
 rw[l];have c:a<2^(8*(n+1)):=by
  have:(2:Int)^(8*n)<=2^(8*(n+1)):=by have:(2^(8*n):Nat)<=2^(8*(n+1)):=VE (by decide) (by omega);exact_mod_cast this
  omega
 obtain⟨q1,q2⟩:=xD (k:=8*(n+1)) p c x t (by omega);generalize ((BitVec.toNat _:Nat):Int)=y at q1 q2;rw[S2];omega
theorem XX{x:Bb×Int×Int}{s:Int×Int}(h:0<=s.2/\s.2<=x.2.2/\x.2.2<=8/\0<=x.2.1/\x.2.1+x.2.2<=x.1.length/\x.1.length<=1099511627776/\0<=s.1/\s.1<2^(8*s.2.toNat)):Ay (Ad (GR x) s) λr=>0<=r/\r<2^(8*x.2.2.toNat):=by
 refine AM (λ(s:Int×Int)=>0<=s.2/\s.2<=x.2.2/\x.2.2<=8/\0<=x.2.1/\x.2.1+x.2.2<=x.1.length/\x.1.length<=1099511627776/\0<=s.1/\s.1<2^(8*s.2.toNat)) (λ(s:Int×Int)=>(x.2.2-s.2).toNat) h (λs n=>?_);unfold GR;obtain⟨d,q,f,g,j,k,l,m⟩:=n;repeat' with_reducible first|refine AC ?_ ?_<;>intro o|refine AF ?_ ?_<;>intro o|refine AA ?_|refine XW ?_|(refine AJ ?_ (Pe ?_ ?_);rintro r ⟨hr,p⟩)
 all_goals try (have t:=kg (wi (8*s.2));omega)
 all_goals (first|(obtain⟨b,c⟩:=qI (a:=s.1) (v:=r) (i:=s.2) d (by omega) l m hr p;have e:=AW (x:=s.2+1) (by omega);exact⟨⟨by omega,by omega,f,g,j,k,b,c⟩,by dsimp only;omega⟩)|skip)
 all_goals ((try dsimp only[len]at*);(try first|omega|assumption|grind[AW]))
def CZ{x:Bb×Int×Int}(h:x.1.length<=1099511627776):Ay (Av x) λr=>r.2=0->0<=x.2.1/\x.2.1+x.2.2<=x.1.length/\(x.2.2<=4->0<=r.1/\r.1<4294967296)/\(x.2.2<=2->r.1<65536):=by
 unfold Av;repeat' with_reducible first|apply AC<;>intro c|apply AF<;>intro c|apply AA|(refine AJ ?_ (XX ?_);intro r hr)
 all_goals dsimp only[len]at*
 all_goals first
  |omega
  |(intro d;exact absurd d (by decide))
  |(have e:=AW (x:=(x.1.length:Int)-x.2.1);exact⟨by omega,by omega,by omega,by omega,by omega,h,by omega,by simp⟩)
  |(intro _;have e:=AW (x:=(x.1.length:Int)-x.2.1);refine⟨by omega,by omega,λb=>?_,λa=>?_⟩;(have:=uG b;rw[AW];omega);(have:=zQ a;rw[AW];omega))
theorem Xa  {s:Int×Int}(h:0<=s.2/\s.2<=8):Ay (Ad (He) s) λr=>True:=by
 refine AM (λ(s:Int×Int)=>0<=s.2/\s.2<=8) (λ(s:Int×Int)=>(8-s.2).toNat) h (λs b=>?_);unfold He;repeat' with_reducible first|refine AC ?_ ?_<;>intro a|refine AQ ?_ ?_<;>intro a|refine AF ?_ ?_<;>intro a|(refine BE ?_;try dsimp only)|refine BP ?_|refine BX ?_|refine AA ?_
 all_goals ((try dsimp only[len]at*);(try first|omega|assumption|grind[AW]))
theorem XZ{x:Bb}{s:Int×Int}(h:0<=s.2/\s.2<=x.length/\x.length<=1099511627776):Ay (Ad (Hd x) s) λr=>True:=by
 refine AM (λ(s:Int×Int)=>0<=s.2/\s.2<=x.length/\x.length<=1099511627776) (λ(s:Int×Int)=>((x.length:Int)-s.2).toNat) h (λs b=>?_);unfold Hd;repeat' with_reducible first|refine AC ?_ ?_<;>intro a|refine AF ?_ ?_<;>intro a|refine AA ?_|(refine AJ ?_ (Xa ?_);intro r hr)|(refine AJ ?_ (Pe ?_ ?_);rintro r ⟨hr,c⟩)
 all_goals ((try dsimp only[len]at*);(try first|omega|assumption|grind[AW]))
theorem KO{x:Bb}(h:x.length<=1099511627776):Ay (En x) λr=>True:=by
 unfold En;repeat' with_reducible first|refine AA ?_|(refine AJ ?_ (XZ ?_);intro r hr)
 all_goals ((try dsimp only[len]at*);(try first|omega|assumption|grind[AW]))
theorem RW{x:Bb}:Ay (D9 x) λr=>r.length<=8408:=by
 unfold D9;repeat' with_reducible first|refine AC ?_ ?_<;>intro a|refine AF ?_ ?_<;>intro a|refine AA ?_|(refine AJ ?_ (Cj ?_);intro r hr)|(refine AJ ?_ (KO ?_);intro r hr)|(refine AJ ?_ (CY ?_);rintro r ⟨hr,b⟩)
 all_goals dsimp only[len]at*
 all_goals ((try dsimp only[len]at*);(try first|omega|assumption|grind[AW]))
theorem Pt{x:Bb×Int}(h:x.1.length<=1099511627776):Ay (By x) λr=>r.2.2=0->r.1.length<=8392/\x.2+8+r.1.length=r.2.1/\0<=x.2/\r.2.1<=x.1.length:=by
 unfold By;repeat' with_reducible first|refine AC ?_ ?_<;>intro a|refine AL ?_ ?_<;>intro a|refine AF ?_ ?_<;>intro a|refine AA ?_|(refine AJ ?_ (CZ ?_);intro r hr)|(refine AJ ?_ (KO ?_);intro r hr)|(refine AJ ?_ (Dr ?_ ?_ ?_);rintro r ⟨hr,b⟩)
 all_goals dsimp only[len]at*
 all_goals ((try dsimp only[len]at*);(try first|omega|assumption|grind[AW]))
theorem Mz{x:Int}(h:0<=x/\x<=16777216):Ay (Gn x) λr=>(r.length:Int)=x:=by
 unfold Gn;repeat' with_reducible first|refine AA ?_|(refine AJ ?_ (jw ?_ ?_);rintro r ⟨hr,a⟩)
 all_goals ((try dsimp only[len]at*);(try first|omega|assumption|grind[AW,LJ]))
theorem ac{x:Bb×FG}(h:x.1.length<=1099511627776)(b:x.2.2.length<=16777216):Ay (GB x) λr=>r.length<=x.1.length+8+x.2.2.length:=by
 unfold GB;repeat' with_reducible first|refine AO ?_ ?_<;>intro a|refine AF ?_ ?_<;>intro a|refine AA ?_|(refine AJ ?_ (Cj ?_);intro r hr)|(refine AJ ?_ (CY ?_);rintro r ⟨hr,c⟩)
 all_goals ((try dsimp only[len]at*);(try first|omega|assumption|grind[AW]))
def U8.lens{x:AD}(h:U8 x):x.2.2.2.2.2.2.1.2.2.1.2.length<=12/\x.2.2.2.2.2.2.1.2.2.2.2.length<=12/\x.2.2.2.2.2.2.2.length<=8192:=by unfold U8 TT HS Oi at h;grind
theorem Xe{x:AD}:Ay (FJ x) λr=>r.1.length<=8400:=by
 unfold FJ;repeat' with_reducible first|refine AO ?_ ?_<;>intro a|refine AF ?_ ?_<;>intro a|refine AA ?_|(refine AB (B9) ?_;intro r hr)|(refine AJ ?_ (Cj ?_);intro r hr)|(refine AJ ?_ (ac ?_ ?_);intro r hr)|(refine AJ ?_ (CY ?_);rintro r ⟨hr,b⟩)
 all_goals try (have c:=(U8.lens (x:=x) (by unfold OF at*;grind)))
 all_goals ((try dsimp only[len]at*);(try first|omega|assumption|grind[AW]))
def ACe(k:Nat):(256:Int)^k=((256^k:Nat):Int):=by grind
def zI(k:Nat):(0:Int)<256^k:=by have:0<256^k:=Nat.pow_pos (by decide);grind
def AB4(b k:Nat):(b:Int)*256^k=((b*256^k:Nat):Int):=by grind
def EZ(n:Int):Nat->Bb
 |0=>[]
 |k+1=>UInt8.ofNat (n%256).toNat::EZ (n/256) k
def gu:Bb->Nat
 |[]=>0
 |b::r=>b.toNat+256*gu r
theorem BN: ∀(k:Nat) (n:Int),(EZ n k).length=k
 |0,n=>rfl
 |k+1,n=>by rw[EZ,BV,BN k]
def mB: ∀l:Bb,gu l<256^l.length
 |[]=>by simp[gu]
 |b::r=>by have a:=mB r;have c:=b.toNat_lt;rw[gu,BV,Nat.pow_succ];omega
def uC: ∀l:Bb,EZ (gu l:Int) l.length=l
 |[]=>rfl
 |b::r=>by
  have d:=b.toNat_lt;have a:((gu (b::r):Nat):Int)/256=(gu r:Int):=by rw[gu];omega
  have c:(((gu (b::r):Nat):Int)%256).toNat=b.toNat:=by rw[gu];omega
  rw[BV,EZ,a,c,uC r];simp
def nZ: ∀(k:Nat) (n m:Int),n%256^k=m%256^k->EZ n k=EZ m k
 |0,_,_,_=>rfl
 |k+1,n,m,h=>by
  have e:(256:Int)^(k+1)=256^k*256:=Int.pow_succ ..;have b:n%256=m%256:=by have a:n%256^(k+1)%256=n%256:=Int.emod_emod_of_dvd n ⟨256^k,by rw[e,Int.mul_comm]⟩;simp_all
  have c:n/256%256^k=m/256%256^k:=by
   have g: ∀x:Int,x/256%256^k=x%256^(k+1)/256:=λx=>by have d:=dk (x/256) (256^k);have f:=dk x (256*256^k);have i:x/(256*256^k)=x/256/256^k:=(iH (by decide)).symm;grind
   grind
  rw[EZ,EZ,b,nZ k _ _ c]
def qV: ∀(k:Nat) (n:Int),EZ n (k+1)=EZ n k++[UInt8.ofNat (n/256^k%256).toNat]
 |0,n=>by simp[EZ]
 |k+1,n=>by
  rw[EZ,qV k (n/256),EZ];have:n/256/256^k=n/256^(k+1):=by rw[Int.pow_succ,Int.mul_comm,iH (by decide)]
  grind
def o0: ∀(k:Nat) (n:Int),((gu (EZ n k):Nat):Int)=n%256^k
 |0,n=>by simp[EZ,gu]
 |k+1,n=>by
  rw[EZ,gu];have d:(UInt8.ofNat (n%256).toNat).toNat=(n%256).toNat:=by rw[VG];omega
  have e:=o0 k (n/256);have a:=dk (n/256) (256^k);have b:=dk n (256*256^k);have c:n/(256*256^k)=n/256/256^k:=(iH (by decide)).symm;grind
def mC: ∀(l:Bb) (b:UInt8),gu (l++[b])=gu l+b.toNat*256^l.length
 |[],b=>by simp[gu]
 |a::r,b=>by rw[Do,gu,mC r b,gu,BV,Nat.pow_succ,Nat.mul_add];grind
def Wz(k:Nat)(n:Int):Prop:=(k<=7->0<=n/\n<256^k)/\ -9223372036854775808<=n/\n<=9223372036854775807
def oy{k:Nat}(f:k<=8){n m:Int}(hn:Wz k n)(e:Wz k m)(h:EZ n k=EZ m k):n=m:=by
 have c:=o0 k n;rw[h,o0 k m]at c;by_cases d:k<=7;have a:=hn.1 d;have b:=e.1 d;rw[Int.emod_eq_of_lt a.1 a.2,Int.emod_eq_of_lt b.1 b.2]at c;grind;have:k=8:=by omega
 have a:=hn.2;have b:=e.2;grind
def rd(l:Bb):Int:=wi (gu l:Int)
def AB5{k:Nat}(h:k<=7):(256:Int)^k<=72057594037927936:=by
 have:k=0\/k=1\/k=2\/k=3\/k=4\/k=5\/k=6\/k=7:=by omega
 grind
theorem sm{l:Bb}(h:l.length<=8):Wz l.length (rd l):=by have b:=mB l;have d:rd l=((gu l:Int)+9223372036854775808)%18446744073709551616-9223372036854775808:=xt _;refine⟨λa=>?_,by omega⟩;have c:=AB5 a;grind
theorem oz{l:Bb}(h:l.length<=8):EZ (rd l) l.length=l:=by
 rw[show EZ (rd l) l.length=EZ (gu l:Int) l.length from ?_,uC];apply nZ;by_cases a:l.length<=7;have c:=AB5 a;have b:(gu l:Int)<256^l.length:=by rw[ACe];have:=mB l;omega
 have:rd l=(gu l:Int):=by unfold rd;exact AW
 rw[this];have:l.length=8:=by omega
 rw[this,show(256:Int)^8=18446744073709551616 by decide];unfold rd;rw[xt];omega
theorem jU{k:Nat}{n:Int}(a:k<=8)(h:Wz k n):rd (EZ n k)=n:=by have b:=BN k n;refine oy (k:=k) a ?_ h ?_;have:=sm (l:=EZ n k) (by omega);grind;have:=oz (l:=EZ n k) (by omega);grind
def xL(k:Nat):(2:Int)^(8*k)=256^k:=by rw[Int.pow_mul];rfl
def xN{n:Int}{i:Int}(c:0<=i)(d:i<8):Gv ([IntKind.wrap .u8 (Int.fdiv (IntKind.wrap .u64 n) (2^(min (Int.toNat (IntKind.wrap .u64 (wi (8*i)))) 64)))]:List Int)=[UInt8.ofNat (n/256^i.toNat%256).toNat]:=by
 have a:wi (8*i)=8*i:=AW;have b:IntKind.wrap .u64 (8*i)=8*i:=by rw[S2];omega
 rw[a,b,show min (8*i).toNat 64=8*i.toNat by omega,xL];have e:=zI i.toNat
 rw[YC _ (by omega),S2,zp];have:n%18446744073709551616/256^i.toNat%256=n/256^i.toNat%256:=by
  have:i.toNat=0\/i.toNat=1\/i.toNat=2\/i.toNat=3\/i.toNat=4\/i.toNat=5\/i.toNat=6\/i.toNat=7:=by omega
  rcases this with h|h|h|h|h|h|h|h<;>rw[h];rw[show(256:Int)^0=1 by decide];omega;rw[show(256:Int)^1=256 by decide];omega;rw[show(256:Int)^2=65536 by decide];omega;rw[show(256:Int)^3=16777216 by decide];omega;rw[show(256:Int)^4=4294967296 by decide];omega;rw[show(256:Int)^5=1099511627776 by decide];omega;rw[show(256:Int)^6=281474976710656 by decide];omega;rw[show(256:Int)^7=72057594037927936 by decide];omega
 rw[this];rfl
theorem HU{s:Bb}{n:Int}{k:Int}(h:s.length<=1099511627776)(j:1<=k)(l:k<=8):Al (s,(n,k))=some (s++EZ n k.toNat):=by
 have key:Ay (Ad (GS (s,(n,k))) (s,0)) λr=>r=s++EZ n k.toNat:=by refine AM (λ(t:Bb×Int)=>0<=t.2/\t.2<=k/\t.1=s++EZ n t.2.toNat) (λt=>(k-t.2).toNat) ⟨Ae _,by dsimp only;omega,by simp[EZ]⟩ ?_;rintro⟨m,a⟩ ⟨b,i,c⟩;dsimp only at b i c;subst c;unfold GS;dsimp only;refine AC (λd=>?_) (λd=>AA (by rw[show a=k by omega]));refine AC (λf=>absurd f (by have:=kg (wi (8*a));omega)) (λ_=>?_);rw[xN b (by omega)];refine AB (CY (by rw[Ag,BN];simp;omega)) λv g=>AA ?_;have e:wi (a+1)=a+1:=AW;rw[e];refine⟨⟨by omega,by omega,?_⟩,by omega⟩;rw[g.1,show(a+1).toNat=a.toNat+1 by omega,qV,Ax]
 obtain⟨r,hr,rfl⟩:=key;unfold Al;grind
def rE{a t:Bb}{i:Int}(c:0<=i)(d:i<t.length)(e:(a.length:Int)<=2199023255552)(f:(t.length:Int)<=2199023255552): ∃b:UInt8,six (a++t) (wi ((a.length:Int)+i))=some (b.toNat:Int)/\t.take (i+1).toNat=t.take i.toNat++[b]:=by obtain⟨k,rfl⟩:=Eb c;refine⟨t[k],?_,?_⟩;rw[AW];unfold six;grind;simp_all
def AA1{a b k:Nat}(h:a<256^k)(i:b<256)(j:k<8):BitVec.toNat (BitVec.ofInt 64 (a:Int)|||BitVec.ofInt 64 ((b:Int)*256^k))=a+b*256^k:=by
 have e:(256:Nat)^k=2^(8*k):=by rw[Nat.pow_mul]
 have g:a+b*256^k<256^(k+1):=by
  have:b*256^k+256^k<=256*256^k:=by rw[<-fN];exact O8 _ (by omega)
  omega
 have f:(256:Nat)^(k+1)<=2^64:=by rw[show(2:Nat)^64=256^8 by decide];exact VE (by decide) (by omega)
 have d:b*256^k<2^64:=by omega
 have c:a<2^64:=by omega
 rw[AB4];rw[BitVec.toNat_or,S9,S9,TA,TA,S8 c,S8 d];rw[Nat.or_comm,e,Nat.mul_comm,<-Nat.two_pow_add_eq_or_of_lt (by rw[<-e];exact h)];omega
def ti{a:Nat}{b:UInt8}{i:Int}(l:0<=i)(m:i<8)(f:a<256^i.toNat)(j:Int)(h:j=8*i):IntKind.wrap .u64 (((BitVec.toNat ((BitVec.ofInt 64 (a:Int))|||(BitVec.ofInt 64 (IntKind.wrap .u64 ((IntKind.wrap .u64 (b.toNat:Int))*(2^(min (Int.toNat j) 64))))))):Nat):Int)=((a+b.toNat*256^i.toNat:Nat):Int):=by
 have g:=b.toNat_lt;have e:(256:Nat)^(i.toNat+1)<=2^64:=by rw[show(2:Nat)^64=256^8 by decide];exact VE (by decide) (by omega)
 have k:a+b.toNat*256^i.toNat<256^(i.toNat+1):=by
  have:b.toNat*256^i.toNat+256^i.toNat<=256*256^i.toNat:=by rw[<-fN];exact O8 _ (by omega)
  omega
 have c:IntKind.wrap .u64 (b.toNat:Int)=b.toNat:=by rw[S2];omega
 rw[h,c,show min (8*i).toNat 64=8*i.toNat by omega,xL];have d:IntKind.wrap .u64 ((b.toNat:Int)*256^i.toNat)=(b.toNat:Int)*256^i.toNat:=by rw[S2,AB4];omega
 rw[d,AA1 f g (by omega),S2];omega
theorem fB{a t:Bb}{k:Int}(h:(a.length:Int)+t.length<=2199023255552)(v:1<=k)(w:k<=8):Av (a++t,((a.length:Int),k))=if k<=t.length then some (rd (t.take k.toNat),0)else some (0,5):=by
 unfold Av;dsimp only;have d:len (a++t)=(a.length:Int)+t.length:=by unfold len;rw[List.length_append];omega
 rw[decide_eq_false (by omega),cond_false,decide_eq_false (by omega),cond_false,decide_eq_false (by omega),cond_false,decide_eq_false (by omega),cond_false];have q:wi (len (a++t)-(a.length:Int))=t.length:=by rw[d,AW];omega
 by_cases g:k<=t.length;rw[decide_eq_false (by omega),cond_false,if_pos g];have key:Ay (Ad (GR (a++t,((a.length:Int),k))) (0,0)) λr=>r=(gu (t.take k.toNat):Int):=by
  refine AM (λ(s:Int×Int)=>0<=s.2/\s.2<=k/\s.1=(gu (t.take s.2.toNat):Int)) (λs=>(k-s.2).toNat) ⟨Ae _,by dsimp only;omega,by simp[gu]⟩ ?_;rintro⟨x,c⟩ ⟨f,u,l⟩;dsimp only at f u l;subst l;unfold GR;dsimp only;refine AC (λo=>?_) (λo=>AA (by rw[show c=k by omega]));obtain⟨b,q1,q2⟩:=rE (a:=a) (t:=t) (i:=c) f (by omega) (by omega) (by omega);rw[q1,AI];refine AC (λp=>absurd p (by have:=kg (wi (8*c));omega)) (λ_=>AA ?_);have e:wi (c+1)=c+1:=AW;have m:wi (8*c)=8*c:=AW;have n:IntKind.wrap .u64 (8*c)=8*c:=by rw[S2];omega
  have j:(t.take c.toNat).length=c.toNat:=by rw[CH];omega
  dsimp only;rw[e,ti f (by omega) (by have:=mB (t.take c.toNat);rwa [j]at this) _ (by rw[m,n])];refine⟨⟨by omega,by omega,?_⟩,by omega⟩;rw[q2,mC,j]
 obtain⟨r,hr,rfl⟩:=key;rw[hr];rfl;rw[decide_eq_true (by omega),cond_true,if_neg g]
def bQ{a t:Bb}{k:Int}(h:(a.length:Int)+t.length<=2199023255552)(u:1<=k)(v:k<=8):CN (a++t,((a.length:Int),k))=if k<=t.length then some (rd (t.take k.toNat),0)else some (0,5):=by
 unfold CN;dsimp only;have d:len (a++t)=(a.length:Int)+t.length:=by grind
 rw[decide_eq_false (by omega),cond_false,decide_eq_false (by omega),cond_false,decide_eq_false (by omega),cond_false,decide_eq_false (by omega),cond_false];have p:wi (len (a++t)-(a.length:Int))=t.length:=by rw[d,AW];omega
 by_cases o:k<=t.length;rw[decide_eq_false (by omega),cond_false,if_pos o];have key:Ay (Ad (R6 (a++t,((a.length:Int),k))) (0,0)) λr=>r=(gu (t.take k.toNat):Int):=by
  refine AM (λ(s:Int×Int)=>0<=s.2/\s.2<=k/\s.1=(gu (t.take s.2.toNat):Int)) (λs=>(k-s.2).toNat) ⟨Ae _,by dsimp only;omega,by simp[gu]⟩ ?_;rintro⟨w,c⟩ ⟨f,q,j⟩;dsimp only at f q j;subst j;unfold R6;dsimp only;refine AC (λm=>?_) (λm=>AA (by rw[show c=k by omega]));obtain⟨b,q1,q2⟩:=rE (a:=a) (t:=t) (i:=c) f (by omega) (by omega) (by omega);have l:wi (8*c)=8*c:=AW;rw[q1,AI];refine AC (λn=>absurd n (by omega)) (λ_=>AA ?_);have e:wi (c+1)=c+1:=AW;have g:(t.take c.toNat).length=c.toNat:=by grind
  rw[e,ti f (by omega) (by have:=mB (t.take c.toNat);rwa [g]at this) _ l];refine⟨⟨by omega,by omega,?_⟩,by omega⟩;rw[q2,mC,g]
 obtain⟨r,hr,rfl⟩:=key;rw[hr];rfl;grind
def Vx(c:BitVec 32):BitVec 32:=if c.getLsbD 0=true then(c>>>1)^^^2197175160#32 else c>>>1
def fg:Nat->BitVec 32->BitVec 32
 |0,c=>c
 |n+1,c=>Vx (fg n c)
def cW(c:BitVec 32)(b:UInt8):BitVec 32:=fg 8 (c^^^BitVec.ofNat 32 b.toNat)
def yX(s:Bb):BitVec 32:=4294967295#32^^^s.foldl cW 4294967295#32
def Tg(s:Bb):Int:=((yX s).toNat:Int)
def bn{a b:BitVec 32}(h:a^^^b=0#32):a=b:=by simp_all
def vS(a b:BitVec 32):Vx (a^^^b)=Vx a^^^Vx b:=by
 unfold Vx;rw[BitVec.getLsbD_xor,BitVec.ushiftRight_xor_distrib];cases a.getLsbD 0<;>cases b.getLsbD 0<;>simp;grind;grind;have:a>>>1^^^2197175160#32^^^(b>>>1^^^2197175160#32)=(a>>>1^^^b>>>1)^^^(2197175160#32^^^2197175160#32):=by ac_rfl
 grind
def ox: ∀(n:Nat) (a b:BitVec 32),fg n (a^^^b)=fg n a^^^fg n b
 |0,a,b=>rfl
 |n+1,a,b=>by rw[fg,fg,fg,ox n,vS]
def tE{c:BitVec 32}(h:Vx c=0#32):c=0#32:=by
 unfold Vx at h;by_cases b:c.getLsbD 0=true;rw[if_pos b]at h;have d:=bn h;have a:(c>>>1).getLsbD 31=(2197175160#32).getLsbD 31:=by rw[d]
 rw[BitVec.getLsbD_ushiftRight]at a;simp_all;rw[if_neg b]at h;apply iG;intro i e;cases i with
 |zero=>grind
 |succ j=>
  have a:(c>>>1).getLsbD j=(0#32).getLsbD j:=by rw[h]
  grind
def qR: ∀(n:Nat) {c:BitVec 32},fg n c=0#32->c=0#32
 |0,c,h=>h
 |n+1,c,h=>qR n (tE h)
def tz{n:Nat}{a b:BitVec 32}(h:fg n a=fg n b):a=b:=by refine bn (qR n ?_);rw[ox,h,Ur]
def yR{a b:BitVec 32}{x:UInt8}(h:cW a x=cW b x):a=b:=by have c:=tz h;simp_all
def yS{a:BitVec 32}{x y:UInt8}(h:cW a x=cW a y):x=y:=by
 have b:=tz h;have:a^^^(a^^^BitVec.ofNat 32 x.toNat)=a^^^(a^^^BitVec.ofNat 32 y.toNat):=by rw[b]
 rw[<-X9,Ur,YA,<-X9,Ur,YA]at this;have c:=congrArg BitVec.toNat this;rw[TA,TA]at c;have d:=x.toNat_lt;have e:=y.toNat_lt;exact UInt8.toNat_inj.1 (by omega)
def wX: ∀(s:Bb) {a b:BitVec 32},s.foldl cW a=s.foldl cW b->a=b
 |[],a,b,h=>h
 |x::r,a,b,h=>yR (wX r h)
def yY{u v:Bb}{x y:UInt8}(h:Tg (u++x::v)=Tg (u++y::v)):x=y:=by
 unfold Tg at h;have a:yX (u++x::v)=yX (u++y::v):=BitVec.eq_of_toNat_eq (by omega);unfold yX at a;rw[YJ,YJ,YK,YK]at a;have b: ∀p q:BitVec 32,4294967295#32^^^p=4294967295#32^^^q->p=q:=λp q c=>by
  have:4294967295#32^^^(4294967295#32^^^p)=4294967295#32^^^(4294967295#32^^^q):=by rw[c]
  rwa [<-X9,Ur,YA,<-X9,Ur,YA]at this
 exact yS (wX v (b _ _ a))
def kU(s:Bb):0<=Tg s/\Tg s<4294967296:=by unfold Tg;omega
def zx(c:BitVec 32):BitVec.ofInt 32 (c.toNat:Int)=c:=by grind
def w32(c:BitVec 32):IntKind.wrap .u32 (c.toNat:Int)=(c.toNat:Int):=by rw[rJ];omega
def fdN(c:BitVec 32)(k:Nat)(a:k<=32):Int.fdiv (c.toNat:Int) (2^(min (Int.toNat (k:Int)) 32))=((c>>>k).toNat:Int):=by rw[show min (Int.toNat (k:Int)) 32=k by omega,YC _ (by exact_mod_cast B7 (2^k)),BitVec.toNat_ushiftRight,Nat.shiftRight_eq_div_pow];grind
def fd1(c:BitVec 32):Int.fdiv (c.toNat:Int) (2^(min (Int.toNat 1) 32))=((c>>>1).toNat:Int):=fdN c 1 (by decide)
def fd4(c:BitVec 32):Int.fdiv (c.toNat:Int) (2^(min (Int.toNat 4) 32))=((c>>>4).toNat:Int):=fdN c 4 (by decide)
def zE(c:BitVec 32):((IntKind.wrap .u32 (((BitVec.toNat ((BitVec.ofInt 32 (c.toNat:Int))&&&(BitVec.ofInt 32 1))):Nat):Int))==1)=c.getLsbD 0:=by rw[zx,w32,BitVec.toNat_and,show(BitVec.ofInt 32 1).toNat=1 by decide,Nat.and_one_is_mod];rw[show c.getLsbD 0=c.toNat.testBit 0 from rfl,Nat.testBit_zero];grind
def AAF(c:BitVec 32):(bif ((IntKind.wrap .u32 (((BitVec.toNat ((BitVec.ofInt 32 (c.toNat:Int))&&&(BitVec.ofInt 32 1))):Nat):Int))==1)then
     some (IntKind.wrap .u32 (((BitVec.toNat ((BitVec.ofInt 32 (Int.fdiv (c.toNat:Int) (2^(min (Int.toNat 1) 32))))^^^(BitVec.ofInt 32 2197175160))):Nat):Int))
    else
    some (Int.fdiv (c.toNat:Int) (2^(min (Int.toNat 1) 32))):Option Int)=some ((Vx c).toNat:Int):=by
 rw[zE,fd1,zx,w32];unfold Vx;grind
def ABL(c:BitVec 32):Ad He ((c.toNat:Int),0)=some ((fg 8 c).toNat:Int):=by
 have key:Ay (Ad He ((c.toNat:Int),0)) λr=>r=((fg 8 c).toNat:Int):=by refine AM (λ(s:Int×Int)=>0<=s.2/\s.2<=8/\s.1=((fg s.2.toNat c).toNat:Int)) (λs=>(8-s.2).toNat) ⟨Ae _,by dsimp only;omega,rfl⟩ ?_;rintro⟨g,a⟩ ⟨e,f,b⟩;dsimp only at e f b;subst b;refine AC (λd=>?_) (λd=>AA (by rw[show a.toNat=8 by omega]));rw[AAF,AI,AW];refine AA ⟨⟨by omega,by omega,?_⟩,by omega⟩;rw[show(a+1).toNat=a.toNat+1 by omega];rfl
 obtain⟨r,hr,rfl⟩:=key;exact hr
def wB(c:BitVec 32)(b:UInt8):IntKind.wrap .u32 (((BitVec.toNat ((BitVec.ofInt 32 (c.toNat:Int))^^^(BitVec.ofInt 32 (IntKind.wrap .u32 (b.toNat:Int))))):Nat):Int)=((c^^^BitVec.ofNat 32 b.toNat).toNat:Int):=by
 have a:=b.toNat_lt;have:IntKind.wrap .u32 (b.toNat:Int)=(b.toNat:Int):=by rw[rJ];omega
 rw[this,zx,S9,w32]
def xg{x:Bb}{i:Int}(a:0<=i)(c:i<x.length): ∃b:UInt8,six x i=some (b.toNat:Int)/\x.take (i+1).toNat=x.take i.toNat++[b]:=by obtain⟨k,rfl⟩:=Eb a;refine⟨x[k],?_,?_⟩;unfold six;grind;simp_all
def vk{x:Bb}(h:x.length<=2199023255552):En x=some (Tg x):=by
 have key:Ay (Ad (Hd x) (4294967295,0)) λr=>r=((x.foldl cW 4294967295#32).toNat:Int):=by refine AM (λ(s:Int×Int)=>0<=s.2/\s.2<=x.length/\s.1=(((x.take s.2.toNat).foldl cW 4294967295#32).toNat:Int)) (λs=>((x.length:Int)-s.2).toNat) ⟨Ae _,by dsimp only;omega,rfl⟩ ?_;rintro⟨f,g⟩ ⟨c,e,d⟩;dsimp only at c e d;subst d;unfold Hd;simp only[len];refine AC (λa=>?_) (λa=>AA (by rw[Cb (by omega)]));obtain⟨b,q1,q2⟩:=xg c a;rw[q1,AI,wB,ABL,AI,AW];refine AA ⟨⟨by omega,by omega,?_⟩,by omega⟩;rw[q2,YJ];rfl
 obtain⟨r,hr,rfl⟩:=key;unfold En;rw[hr,AI,zx];rw[show(BitVec.ofInt 32 (if(false=true)then(-1)else(if(false=true)then((2^(32-1))-1)else((2^32)-1))))=4294967295#32 by decide,w32];rfl
def ACb{d:BitVec 32}(b:d.getLsbD 0=false)(c:d.getLsbD 1=false)(f:d.getLsbD 2=false)(g:d.getLsbD 3=false):fg 4 d=d>>>4:=by
 have h: ∀e:BitVec 32,e.getLsbD 0=false->Vx e=e>>>1:=λe a=>by unfold Vx;rw[if_neg (by rw[a];decide)]
 show Vx (Vx (Vx (Vx d)))=_;grind
def AAu(c:BitVec 32):(c>>>4)^^^fg 4 (c&&&15#32)=fg 4 c:=by
 have d:c=(c&&& ~~~15#32)^^^(c&&&15#32):=by apply iG;intro i a;rw[BitVec.getLsbD_xor,BitVec.getLsbD_and,BitVec.getLsbD_and,BitVec.getLsbD_not];grind
 have e:fg 4 (c&&& ~~~15#32)=c>>>4:=by
  have z: ∀i,i<4->(c&&& ~~~15#32).getLsbD i=false:=λi a=>by
   have:i=0\/i=1\/i=2\/i=3:=by omega
   grind
  rw[ACb (z 0 (by decide)) (z 1 (by decide)) (z 2 (by decide)) (z 3 (by decide))];apply iG;intro i a;have b:(15#32).getLsbD (4+i)=false:=by show(15#32).toNat.testBit (4+i)=false;grind
  grind
 conv=>rhs;rw[d]
 rw[ox,e]
def ABH(c:BitVec 32):Ad KH ((c.toNat:Int),0)=some ((fg 4 c).toNat:Int):=by
 have key:Ay (Ad KH ((c.toNat:Int),0)) λr=>r=((fg 4 c).toNat:Int):=by refine AM (λ(s:Int×Int)=>0<=s.2/\s.2<=4/\s.1=((fg s.2.toNat c).toNat:Int)) (λs=>(4-s.2).toNat) ⟨Ae _,by dsimp only;omega,rfl⟩ ?_;rintro⟨g,a⟩ ⟨e,f,b⟩;dsimp only at e f b;subst b;refine AC (λd=>?_) (λd=>AA (by rw[show a.toNat=4 by omega]));rw[AAF,AI,AW];refine AA ⟨⟨by omega,by omega,?_⟩,by omega⟩;rw[show(a+1).toNat=a.toNat+1 by omega];rfl
 obtain⟨r,hr,rfl⟩:=key;exact hr
def vd(t:Fin (15+1)->(Ty.int IntKind.u32).D):Prop:= ∀j:Fin 16,t j=((fg 4 (BitVec.ofNat 32 j.val)).toNat:Int)
def AB7:Ay (J2 ()) vd:=by
 refine AB (P:=vd) ?_ λr hr=>AA hr;refine AM (λ(s:Int×(Fin (15+1)->(Ty.int IntKind.u32).D))=>0<=s.1/\s.1<=16/\ ∀j:Fin 16,(j.val:Int)<s.1->s.2 j=((fg 4 (BitVec.ofNat 32 j.val)).toNat:Int)) (λs=>(16-s.1).toNat) ⟨Ae _,by decide,λj c=>absurd c (by dsimp only;omega)⟩ ?_;rintro⟨i,l⟩ ⟨d,h,e⟩;refine AC (λb=>?_) (λb=>AA λj=>e j (by have:=j.isLt;omega));obtain⟨k,rfl⟩:=Eb d;have a:IntKind.wrap .u32 (k:Int)=((BitVec.ofNat 32 k).toNat:Int):=by rw[rJ,TA];omega
 rw[a,ABH,AI];refine AB (Dh (by omega) (by omega)) λm f=>?_;refine AB (Dh (by omega) (by omega)) λn g=>AA ?_;rw[AW];unfold fR;grind
theorem xo{t:Fin (15+1)->(Ty.int IntKind.u32).D}(b:vd t)(c:BitVec 32):Kt t (IntKind.wrap .u32 (((BitVec.toNat ((BitVec.ofInt 32 (c.toNat:Int))&&&(BitVec.ofInt 32 15))):Nat):Int))=some ((fg 4 (c&&&15#32)).toNat:Int):=by
 rw[zx,show BitVec.ofInt 32 15=15#32 by decide,w32];have a:(c&&&15#32).toNat<16:=by exact Nat.lt_succ_of_le Nat.and_le_right
 unfold Kt;rw[dif_pos ⟨by omega,by omega⟩];refine congrArg some ((b ⟨(c&&&15#32).toNat,a⟩).trans ?_);grind
def ABr(c:BitVec 32):IntKind.wrap .u32 (((BitVec.toNat ((BitVec.ofInt 32 (Int.fdiv (c.toNat:Int) (2^(min (Int.toNat 4) 32))))^^^(BitVec.ofInt 32 ((fg 4 (c&&&15#32)).toNat:Int)))):Nat):Int)=((fg 4 c).toNat:Int):=by rw[fd4,zx,zx,AAu,w32]
def tu: ∀(m n:Nat) (c:BitVec 32),fg m (fg n c)=fg (m+n) c
 |0,n,c=>by rw[fg,D6]
 |m+1,n,c=>by rw[fg,tu m n,Nat.succ_add];rfl
def zJ{x:Bb}(h:x.length<=2199023255552):RV x=some (Tg x):=by
 unfold RV;obtain⟨t,f,a⟩:=AB7;rw[f,AI];have key:Ay (Ad (R7 x t) (4294967295,0)) λr=>r=((x.foldl cW 4294967295#32).toNat:Int):=by refine AM (λ(s:Int×Int)=>0<=s.2/\s.2<=x.length/\s.1=(((x.take s.2.toNat).foldl cW 4294967295#32).toNat:Int)) (λs=>((x.length:Int)-s.2).toNat) ⟨Ae _,by dsimp only;omega,rfl⟩ ?_;rintro⟨i,j⟩ ⟨d,g,e⟩;dsimp only at d g e;subst e;unfold R7;simp only[len];refine AC (λc=>?_) (λc=>AA (by rw[Cb (by omega)]));obtain⟨b,q1,q2⟩:=xg d c;rw[q1,AI,wB,xo a,AI,AI,ABr,xo a,AI,AI,ABr,AW];refine AA ⟨⟨by omega,by omega,?_⟩,by omega⟩;rw[q2,YJ,tu];rfl
 obtain⟨r,hr,rfl⟩:=key;rw[hr,AI,zx];rw[show(BitVec.ofInt 32 (if(false=true)then(-1)else(if(false=true)then((2^(32-1))-1)else((2^32)-1))))=4294967295#32 by decide,w32];rfl
def Hy(p:Bb):Bb:=EZ (p.length:Int) 4++(p++EZ (Tg (EZ (p.length:Int) 4++p)) 4)
theorem F4(p:Bb):(Hy p).length=p.length+8:=by unfold Hy;rw[Ag,Ag,BN,BN];omega
def gB{p:Bb}(h:p.length<=8392):D9 p=some (Hy p):=by
 unfold D9;simp only[len];rw[decide_eq_false (by omega),cond_false,HU (by simp) (by decide) (by decide),AI,CD];have a:sapp (EZ (p.length:Int) (Int.toNat 4)) p=some (EZ (p.length:Int) 4++p):=by unfold sapp;rw[if_pos (by rw[BN];omega)];rfl
 have c:(EZ (p.length:Int) 4++p).length=p.length+4:=by rw[Ag,BN];omega
 rw[a,AI,vk (by omega),AI];have b:=kU (EZ (p.length:Int) 4++p);rw[AW,HU (by omega) (by decide) (by decide),AI,Ax];rfl
def UF(al:Nat)(t:Bb):Bb×Int×Int:=
 if t.length<4 then([],0,5)else
 if rd (t.take 4)>8392 then([],0,2)else
 if(t.length:Int)<rd (t.take 4)+8 then([],0,5)else
 if rd ((t.drop (4+(rd (t.take 4)).toNat)).take 4)≠Tg (t.take (4+(rd (t.take 4)).toNat))then([],0,3)else
 ((t.drop 4).take (rd (t.take 4)).toNat,(al:Int)+8+rd (t.take 4),0)
def rd4{t:Bb}(h:4<=t.length):0<=rd (t.take 4)/\rd (t.take 4)<4294967296:=by
 have a:(t.take 4).length=4:=by rw[CH];omega
 have:=(sm (l:=t.take 4) (by omega)).1 (by omega);rw[a]at this;exact this
theorem S4{a t:Bb}(h:(a.length:Int)+t.length<=2199023255552):By (a++t,(a.length:Int))=some (UF a.length t):=by
 have b:len (a++t)=(a.length:Int)+t.length:=by unfold len;rw[List.length_append];omega
 have o:((a++t).length:Int)=(a.length:Int)+t.length:=b;unfold By UF;dsimp only;rw[decide_eq_false (by omega),cond_false,decide_eq_false (by omega),cond_false,fB h (by decide) (by decide)];by_cases g:t.length<4;rw[if_neg (by omega),if_pos g];rfl;rw[if_pos (by omega),if_neg g,AI,show Int.toNat 4=4 from rfl];obtain⟨p,u⟩:=rd4 (t:=t) (by omega);generalize hn:rd (t.take 4)=n at*;obtain⟨m,rfl⟩:=Eb p;rw[show((0:Int) !=0)=false by decide,cond_false];by_cases d:(m:Int)>8392;rw[decide_eq_true d,cond_true,if_pos d];rw[decide_eq_false d,cond_false,if_neg d,b,AW,AW];by_cases i:(t.length:Int)<(m:Int)+8;rw[decide_eq_true (by omega),cond_true,if_pos i];rw[decide_eq_false (by omega),cond_false,if_neg i,DD];have f:wi (wi ((a.length:Int)+4)+(m:Int))=((a++t.take (4+m)).length:Int):=by rw[AW (x:=(a.length:Int)+4),AW,Ag,CH];omega
 have j:a++t=(a++t.take (4+m))++t.drop (4+m):=by rw[Ax,F9]
 have s:((t.drop (4+m)).length:Int)=t.length-(4+m):=by rw[G9];omega
 have c:((a++t.take (4+m)).length:Int)=a.length+4+m:=by rw[Ag,CH];omega
 have l:Av (a++t,(wi (wi ((a.length:Int)+4)+(m:Int)),4))=some (rd ((t.drop (4+m)).take 4),0):=by
  rw[f];conv=>lhs;rw[j]
  rw[fB (by omega) (by decide) (by decide),if_pos (by omega)];rfl
 have q:Rp (a++t) (a.length:Int) (wi (wi ((a.length:Int)+4)+(m:Int)))=some (t.take (4+m)):=by unfold Rp;rw[f,if_pos (by omega),c,DD,RG,show((a.length:Int)+4+m).toNat-a.length=4+m by omega]
 have r:Rp (a++t) (wi ((a.length:Int)+4)) (wi (wi ((a.length:Int)+4)+(m:Int)))=some ((t.drop 4).take m):=by unfold Rp;rw[f,AW (x:=(a.length:Int)+4),if_pos (by omega),c,show((a.length:Int)+4).toNat=a.length+4 by omega,YE,YG (by omega),CD,VD,show((a.length:Int)+4+m).toNat-(a.length+4)=m by omega]
 rw[l,AI,q,AI,vk (by rw[CH];omega),AI,r];obtain⟨q1,q2⟩:=rd4 (t:=t.drop (4+m)) (by omega);have k:IntKind.wrap .u32 (rd ((t.drop (4+m)).take 4))=rd ((t.drop (4+m)).take 4):=by rw[rJ];omega
 rw[k];by_cases e:rd ((t.drop (4+m)).take 4)=Tg (t.take (4+m));rw[if_neg (by simp[e]),e,bne_self_eq_false,cond_false,AI,AW (x:=(a.length:Int)+8),AW];rw[if_pos e,bne_iff_ne.2 e,cond_true]
def xE{x:Bb}{i:Int}(a:0<=i)(h:i>x.length):CN (x,(i,4))=some (0,5):=by unfold CN;dsimp only;simp only[len];rw[decide_eq_false (by decide),cond_false,decide_eq_false (by decide),cond_false,decide_eq_false (by omega),cond_false,decide_eq_true h,cond_true]
theorem Wu{a t:Bb}(h:(a.length:Int)+t.length<=2199023255552):FW (a++t,(a.length:Int))=some (UF a.length t):=by
 have g:len (a++t)=(a.length:Int)+t.length:=by unfold len;rw[List.length_append];omega
 have r:((a++t).length:Int)=(a.length:Int)+t.length:=g;unfold FW UF;dsimp only;rw[decide_eq_false (by omega),cond_false,decide_eq_false (by omega),cond_false,bQ h (by decide) (by decide)];by_cases j:t.length<4;rw[if_neg (by omega),if_pos j];rfl;rw[if_pos (by omega),if_neg j,AI,show Int.toNat 4=4 from rfl];obtain⟨s,w⟩:=rd4 (t:=t) (by omega);generalize hn:rd (t.take 4)=n at*;obtain⟨m,rfl⟩:=Eb s;rw[show((0:Int) !=0)=false by decide,cond_false];by_cases d:(m:Int)>8392;rw[decide_eq_true d,cond_true,if_pos d];rw[decide_eq_false d,cond_false,if_neg d];have i:wi (wi ((a.length:Int)+4)+(m:Int))=(a.length:Int)+4+m:=by rw[AW (x:=(a.length:Int)+4),AW]
 by_cases k:(t.length:Int)<(m:Int)+8;rw[if_pos k];have:CN (a++t,(wi (wi ((a.length:Int)+4)+(m:Int)),4))=some (0,5):=by
  rw[i];by_cases q:(a.length:Int)+4+m>(a++t).length;exact xE (by omega) q;have b:(a.length:Int)+4+m=((a++t.take (4+m)).length:Int):=by rw[Ag,CH];omega
  have f:a++t=(a++t.take (4+m))++t.drop (4+m):=by rw[Ax,F9]
  have p:((t.drop (4+m)).length:Int)=t.length-(4+m):=by rw[G9];omega
  rw[b];conv=>lhs;rw[f]
  rw[bQ (by omega) (by decide) (by decide),if_neg (by omega)]
 rw[this];rfl;rw[if_neg k,DD];have b:wi (wi ((a.length:Int)+4)+(m:Int))=((a++t.take (4+m)).length:Int):=by rw[i,Ag,CH];omega
 have f:a++t=(a++t.take (4+m))++t.drop (4+m):=by rw[Ax,F9]
 have p:((t.drop (4+m)).length:Int)=t.length-(4+m):=by rw[G9];omega
 have c:((a++t.take (4+m)).length:Int)=a.length+4+m:=by rw[Ag,CH];omega
 have l:CN (a++t,(wi (wi ((a.length:Int)+4)+(m:Int)),4))=some (rd ((t.drop (4+m)).take 4),0):=by
  rw[b];conv=>lhs;rw[f]
  rw[bQ (by omega) (by decide) (by decide),if_pos (by omega)];rfl
 have u:Rp (a++t) (a.length:Int) (wi (wi ((a.length:Int)+4)+(m:Int)))=some (t.take (4+m)):=by unfold Rp;rw[b,if_pos (by omega),c,DD,RG,show((a.length:Int)+4+m).toNat-a.length=4+m by omega]
 have v:Rp (a++t) (wi ((a.length:Int)+4)) (wi (wi ((a.length:Int)+4)+(m:Int)))=some ((t.drop 4).take m):=by unfold Rp;rw[b,AW (x:=(a.length:Int)+4),if_pos (by omega),c,show((a.length:Int)+4).toNat=a.length+4 by omega,YE,YG (by omega),CD,VD,show((a.length:Int)+4+m).toNat-(a.length+4)=m by omega]
 rw[l,AI,show(((rd ((t.drop (4+m)).take 4),(0:Int)):Int×Int).2 !=0)=false from rfl,cond_false,u,AI,zJ (by rw[CH];omega),AI,v];have o:=kU (t.take (4+m));rw[AW (x:=Tg (t.take (4+m)))];by_cases e:rd ((t.drop (4+m)).take 4)=Tg (t.take (4+m));rw[if_neg (by simp[e]),e,bne_self_eq_false,cond_false,AI,i,AW];refine congrArg some (HZ rfl (HZ ?_ rfl));dsimp only;omega;rw[if_pos e,bne_iff_ne.2 e,cond_true]
def pZ{a:Nat}{t:Bb}(h:(UF a t).2.2=0):(UF a t).1.length<=8392/\(∃c,t=Hy (UF a t).1++c)/\(UF a t).2.1=(a:Int)+8+(UF a t).1.length:=by
 unfold UF at h⊢;by_cases i:t.length<4;rw[if_pos i]at h;exact absurd h (by decide);rw[if_neg i]at h⊢;obtain⟨p,q⟩:=rd4 (t:=t) (by omega);by_cases j:rd (t.take 4)>8392;rw[if_pos j]at h;exact absurd h (by decide);rw[if_neg j]at h⊢;by_cases k:(t.length:Int)<rd (t.take 4)+8;rw[if_pos k]at h;exact absurd h (by decide);rw[if_neg k]at h⊢;by_cases b:rd ((t.drop (4+(rd (t.take 4)).toNat)).take 4)≠Tg (t.take (4+(rd (t.take 4)).toNat));rw[if_pos b]at h;exact absurd h (by decide);rw[if_neg b]at h⊢;have b:=Decidable.not_not.1 b;dsimp only;have hl4:(t.take 4).length=4:=by rw[CH];omega
 have f:EZ (rd (t.take 4)) 4=t.take 4:=by have:=oz (l:=t.take 4) (by omega);rwa [hl4]at this
 generalize hn:rd (t.take 4)=n at*;obtain⟨m,rfl⟩:=Eb p;rw[DD]at b⊢;have g:((t.drop 4).take m).length=m:=by rw[CH,G9];omega
 refine⟨by omega,?_,by omega⟩;have o:t.take (4+m)=EZ (m:Int) 4++(t.drop 4).take m:=by rw[List.take_add,f]
 have e:((t.drop (4+m)).take 4).length=4:=by rw[CH,G9];omega
 have d:EZ (Tg (t.take (4+m))) 4=(t.drop (4+m)).take 4:=by rw[<-b];have:=oz (l:=(t.drop (4+m)).take 4) (by omega);rwa [e]at this
 refine⟨t.drop (4+m+4),?_⟩;unfold Hy;rw[g,<-o,d,<-Ax,<-o];conv=>lhs;rw[<-F9 (4+m) t,<-F9 4 (t.drop (4+m)),PZ]
 rw[Ax]
theorem kv{d:Nat}{p a:Bb}(h:p.length<=8392):UF d (Hy p++a)=(p,((d:Int)+8+p.length,0)):=by
 have k:Wz 4 (p.length:Int):=⟨λ_=>⟨by omega,by rw[show(256:Int)^4=4294967296 by decide];omega⟩,by omega⟩
 have m:=kU (EZ (p.length:Int) 4++p);have c:Wz 4 (Tg (EZ (p.length:Int) 4++p)):=⟨λ_=>⟨by omega,by rw[show(256:Int)^4=4294967296 by decide];omega⟩,by omega⟩
 have l:=F4 p;have f:(Hy p++a).take 4=EZ (p.length:Int) 4:=by unfold Hy;rw[Ax];exact O6 (BN _ _)
 have e:rd (EZ (p.length:Int) 4)=p.length:=jU (by decide) k;have b:(Hy p++a).length=p.length+8+a.length:=by rw[Ag,l]
 have g:(Hy p++a).take (4+p.length)=EZ (p.length:Int) 4++p:=by unfold Hy;rw[<-Ax,Ax];exact O6 (by rw[Ag,BN])
 have i:(Hy p++a).drop (4+p.length)=EZ (Tg (EZ (p.length:Int) 4++p)) 4++a:=by unfold Hy;rw[<-Ax,Ax];exact List.drop_left' (by rw[Ag,BN])
 have j:(Hy p++a).drop 4=p++(EZ (Tg (EZ (p.length:Int) 4++p)) 4++a):=by unfold Hy;rw[Ax,Ax];exact List.drop_left' (BN _ _)
 unfold UF;rw[f,e,DD,g,i,j,b,if_neg (by omega),if_neg (by omega),if_neg (by omega),O6 (BN _ _),jU (by decide) c,if_neg (by simp),O6 rfl]
def CI(b:DT):Prop:=b.1.length<=1099511627776/\0<=b.2.1/\b.2.1<=b.1.length
def MZ{b:DT}{x:Int}(h:CI b)(c:0<=x/\x<=8):Ay (BB b x) λr=>CI r.2/\(x<=4->0<=r.1/\r.1<4294967296):=by
 unfold BB;unfold CI at*
 repeat' first
   |with_reducible apply AL<;>intro a
   |with_reducible apply AA
   |(with_reducible refine AJ ?_ (CZ ?_);intro r hr)
 all_goals ((try dsimp[len]at*);(try first|omega|assumption|grind[AW]))
def M3{b:DT}{x:Int}(h:CI b)(d:0<=x/\x<=4294967296):Ay (Cq b x) λr=>CI r.2:=by
 unfold Cq;unfold CI at*
 repeat' first
   |with_reducible apply AC<;>intro a
   |with_reducible apply AL<;>intro a
   |with_reducible apply AA
   |(with_reducible refine AJ ?_ (Dr ?_ ?_ ?_);rintro r ⟨hr,c⟩)
 all_goals ((try dsimp[len]at*);(try first|omega|assumption|grind[AW]))
def Tj{b:DT}{x:Unit}(h:CI b):Ay (Cf b x) λr=>CI r.2:=by
 unfold Cf;repeat' with_reducible first|apply AC<;>intro a|apply AQ<;>intro a|apply AL<;>intro a|apply AF<;>intro a|apply AA|(refine AJ ?_ (MZ ?_ ?_);intro r hr)|(refine AJ ?_ (M3 ?_ ?_);intro r hr)
 all_goals ((try dsimp[len]at*);(try first|omega|assumption|grind[CI]))
def Xd{x:Bb}(h:x.length<=1099511627776):Ay (Ds x) λr=>r.2=0->OF r.1:=by
 unfold Ds;have b:CI (x,0,0):=⟨h,by simp,by simp⟩
 repeat' with_reducible first|apply AO<;>intro a|apply AL<;>intro a|apply AF<;>intro a|apply AA|(refine AJ ?_ (MZ ?_ ?_);intro r hr)|(refine AJ ?_ (Tj ?_);intro r hr)|(refine AJ ?_ (M3 ?_ ?_);intro r hr)|(apply AB (B9);intro r hr)
 all_goals first|omega|assumption|(exact And.left (by assumption))|grind
def T7{x:Bb×List Int}{s:Bb×Int}(h:0<=s.2/\s.2<=x.2.length/\x.2.length<=16777216/\x.1.length<=1073741824/\(s.1.length:Int)<=x.1.length+8*s.2):Ay (Ad (J7 x) s) λr=>(r.length:Int)<=x.1.length+8*x.2.length:=by
 refine AM (λ(s:Bb×Int)=>0<=s.2/\s.2<=x.2.length/\x.2.length<=16777216/\x.1.length<=1073741824/\(s.1.length:Int)<=x.1.length+8*s.2) (λ(s:Bb×Int)=>((x.2.length:Int)-s.2).toNat) h (λs b=>?_);unfold J7;repeat' with_reducible first|apply AC<;>intro a|apply AF<;>intro a|apply AA|(refine AJ ?_ (Cj ?_);intro r hr)|(refine AJ ?_ (AE ?_ ?_);rintro r ⟨hr,c⟩)
 all_goals ((try dsimp[len]at*);(try first|omega|assumption|grind[AW]))
def WQ{x:Bb×List Int}(h:x.2.length<=16777216/\x.1.length<=1073741824):Ay (HF x) λr=>(r.length:Int)<=x.1.length+8*x.2.length:=by
 unfold HF;repeat' with_reducible first|apply AA|(refine AJ ?_ (T7 ?_);intro r hr)
 all_goals ((try dsimp[len]at*);(try first|omega|assumption|grind[AW]))
def Ug{x:List Ah}{s:Bb×Int}(h:0<=s.2/\s.2<=x.length/\V2 x/\(s.1.length:Int)<=10+40000*s.2):Ay (Ad (K3 x) s) λr=>(r.length:Int)<=10+40000*x.length:=by
 refine AM (λ(s:Bb×Int)=>0<=s.2/\s.2<=x.length/\V2 x/\(s.1.length:Int)<=10+40000*s.2) (λ(s:Bb×Int)=>((x.length:Int)-s.2).toNat) h (λs c=>?_);unfold K3;have⟨e,f,⟨b,a⟩,g⟩:=c;repeat' with_reducible first|apply AC<;>intro d|apply AF<;>intro d|apply AA|(refine AJ ?_ (Cj ?_);intro r hr)|(refine AJ ?_ (WQ ?_);intro r hr)|(refine AJ ?_ (AE ?_ ?_);rintro r ⟨hr,i⟩)
 all_goals try (have j:=a _ _ (by assumption))
 all_goals try unfold xz at*
 all_goals dsimp[len]at*
 all_goals first|omega|(refine⟨⟨?_,?_,⟨b,a⟩,?_⟩,?_⟩<;>(simp (disch:=omega) only[AW];omega))|grind
def Qb{x:List Ah}:Ay (Ji x) λr=>r.1.length<=16777216:=by
 unfold Ji;repeat' with_reducible first|apply AO<;>intro a|apply AF<;>intro a|apply AA|(apply AB (De);intro r hr)|(refine AJ ?_ (Cj ?_);intro r hr)|(refine AJ ?_ (Ug ?_);intro r hr)
 all_goals ((try dsimp[len]at*);(try first|omega|assumption|grind[V2]))
def CJ(b:Bj):Prop:=b.1.length<=1099511627776/\0<=b.2.1/\b.2.1<=b.1.length
def F5{b:Bj}{x:Int}(h:CJ b)(c:0<=x/\x<=8):Ay (CO b x) λr=>CJ r.2/\(x<=2->0<=r.1/\r.1<65536):=by
 unfold CO;unfold CJ at*
 repeat' first
   |with_reducible apply AF<;>intro a
   |with_reducible apply AA
   |(with_reducible refine AJ ?_ (CZ ?_);intro r hr)
 all_goals ((try dsimp[len]at*);(try first|omega|assumption|grind[AW]))
def SG  {s:Int×List Int×Bj}(h:0<=s.1/\s.1+s.2.1.length<=65536/\CJ s.2.2):Ay (Ad (IX) s) λr=>CJ r.2/\r.1.length<=65536:=by
 refine AM (λ(s:Int×List Int×Bj)=>0<=s.1/\s.1+s.2.1.length<=65536/\CJ s.2.2) (λ(s:Int×List Int×Bj)=>s.1.toNat) h (λs c=>?_);unfold IX;repeat' with_reducible first|apply AC<;>intro a|apply AO<;>intro a|apply AF<;>intro a|apply AA|(refine AJ ?_ (F5 ?_ ?_);intro r hr)|(refine AJ ?_ (Ac ?_);rintro r ⟨hr,d,b⟩)
 all_goals ((try dsimp[len]at*);(try first|omega|assumption|grind[AW]))
def Tk{b:Bj}{x:Int}(h:CJ b)(a:0<=x/\x<=2):Ay (Fv b x) λr=>CJ r.2:=by
 unfold Fv;repeat' with_reducible first|apply AA|(refine AJ ?_ (F5 ?_ ?_);intro r hr)|(refine AJ ?_ (SG ?_);intro r hr)
 all_goals ((try dsimp[len]at*);(try first|omega|assumption|grind[AW]))
def Uf  {s:Int×List Ah×Bj}(h:0<=s.1/\s.1+s.2.1.length<=65536/\CJ s.2.2):Ay (Ad (K2) s) λr=>CJ r.2/\r.1.length<=65536:=by
 refine AM (λ(s:Int×List Ah×Bj)=>0<=s.1/\s.1+s.2.1.length<=65536/\CJ s.2.2) (λ(s:Int×List Ah×Bj)=>s.1.toNat) h (λs c=>?_);unfold K2;repeat' with_reducible first|apply AC<;>intro a|apply AO<;>intro a|apply AF<;>intro a|apply AA|(refine AJ ?_ (F5 ?_ ?_);intro r hr)|(refine AJ ?_ (Tk ?_ ?_);intro r hr)|(refine AJ ?_ (Ac ?_);rintro r ⟨hr,d,b⟩)
 all_goals ((try dsimp[len]at*);(try first|omega|assumption|grind[AW]))
def Qa{x:Bb}(h:x.length<=1099511627776):Ay (Jh x) λr=>r.1.length<=65536/\(r.2=0->V2 r.1):=by
 unfold Jh;have b:CJ (x,0,false):=⟨h,by simp,by simp⟩
 repeat' with_reducible first|apply AO<;>intro a|apply AL<;>intro a|apply AF<;>intro a|apply AA|(refine AJ ?_ (F5 ?_ ?_);intro r hr)|(refine AJ ?_ (Uf ?_);intro r hr)|(apply AB (De);intro r hr)
 all_goals ((try dsimp[len]at*);(try first|omega|assumption|grind[AW]))
def Ue{x:BW}{s:Bb×Int}(h:0<=s.2/\s.2<=x.length/\x.length<=64/\(s.1.length:Int)<=10+24*s.2):Ay (Ad (IA x) s) λr=>r.length<=2000:=by
 refine AM (λ(s:Bb×Int)=>0<=s.2/\s.2<=x.length/\x.length<=64/\(s.1.length:Int)<=10+24*s.2) (λ(s:Bb×Int)=>((x.length:Int)-s.2).toNat) h (λs b=>?_);unfold IA;repeat' with_reducible first|apply AC<;>intro a|apply AF<;>intro a|apply AA|(refine AJ ?_ (Cj ?_);intro r hr)|(refine AJ ?_ (AE ?_ ?_);rintro r ⟨hr,c⟩)
 all_goals ((try dsimp[len]at*);(try first|omega|assumption|grind[AW]))
def QZ{x:BW}:Ay (Hh x) λr=>r.1.length<=2000:=by
 unfold Hh;repeat' with_reducible first|apply AO<;>intro a|apply AF<;>intro a|apply AA|(apply AB (Fz);intro r hr)|(refine AJ ?_ (Cj ?_);intro r hr)|(refine AJ ?_ (Ue ?_);intro r hr)
 all_goals ((try dsimp[len]at*);(try first|omega|assumption|grind[fD]))
def Ud{x:Bb}{a:Int×Int}{s:Int×List DX}(h:0<=s.1/\s.1<=a.1/\a.1<=65536/\x.length<=1099511627776/\s.2.length<=s.1):Ay (Ad (H9 x a) s) λr=>r.length<=65536:=by
 refine AM (λ(s:Int×List DX)=>0<=s.1/\s.1<=a.1/\a.1<=65536/\x.length<=1099511627776/\s.2.length<=s.1) (λ(s:Int×List DX)=>(a.1-s.1).toNat) h (λs d=>?_);unfold H9;repeat' with_reducible first|apply AC<;>intro b|apply AF<;>intro b|apply AA|(refine AJ ?_ (CZ ?_);intro r hr)|(refine AJ ?_ (Ac ?_);rintro r ⟨hr,e,c⟩)
 all_goals ((try dsimp[len]at*);(try first|omega|assumption|grind[AW]))
def QY{x:Bb}(h:x.length<=1099511627776):Ay (ER x) λr=>(r.2=0->fD r.1)/\r.1.length<=65536:=by
 unfold ER;repeat' with_reducible first|apply AC<;>intro a|apply AO<;>intro a|apply AL<;>intro a|apply AF<;>intro a|apply AA|(refine AJ ?_ (CZ ?_);intro r hr)|(refine AJ ?_ (Ud ?_);intro r hr)|(apply AB (Fz);intro r hr)
 all_goals ((try dsimp[len]at*);(try first|omega|assumption|grind[AW]))
def PL{x:CE}{s:Int}(h:0<=s/\s<=x.2.2.1.length/\(x.2.2.1.length:Int)<=16777216):Ay (Ad (MS x) s) λr=>r≠ .inl true:=by
 refine AM (λ(s:Int)=>0<=s/\s<=x.2.2.1.length/\(x.2.2.1.length:Int)<=16777216) (λ(s:Int)=>((x.2.2.1.length:Int)-s).toNat) h (λs b=>?_);unfold MS;repeat' with_reducible first|apply AC<;>intro a|apply AF<;>intro a|apply AA|(refine AJ ?_ (AE ?_ ?_);rintro r ⟨hr,c⟩)
 all_goals ((try dsimp[len]at*);(try first|omega|assumption|grind[AW]))
def kw(x:CE):Prop:=1<=x.1/\x.1<=64/\V2 x.2.2.1/\fD x.2.2.2.2/\x.2.2.2.2.length=x.1
def NF{x:CE}(h:x.2.2.2.1.length<=16777216):Ay (Gs x) λr=>r=true->kw x:=by
 unfold Gs kw
 repeat' first
   |with_reducible apply AC<;>intro a
   |with_reducible apply AO<;>intro a
   |with_reducible apply AL<;>intro a
   |(with_reducible apply A2<;>(intro u b;try subst b))
   |with_reducible apply AA
   |(with_reducible apply AB (De);intro r hr)
   |(with_reducible refine AJ ?_ (OR ?_);intro r hr)
   |(with_reducible apply AB (Fz);intro r hr)
   |(with_reducible refine AJ ?_ (PL ?_);intro r hr)
 all_goals ((try dsimp[len]at*);(try first|omega|assumption|grind[V2]))
def Uj{x:CE}{s:Bb×Int}(h:0<=s.2/\s.2<=x.2.2.2.1.length/\x.2.2.2.1.length<=16777216/\(s.1.length:Int)<=100000000+24*s.2):Ay (Ad (IC x) s) λr=>r.length<=1073741824:=by
 refine AM (λ(s:Bb×Int)=>0<=s.2/\s.2<=x.2.2.2.1.length/\x.2.2.2.1.length<=16777216/\(s.1.length:Int)<=100000000+24*s.2) (λ(s:Bb×Int)=>((x.2.2.2.1.length:Int)-s.2).toNat) h (λs b=>?_);unfold IC;repeat' with_reducible first|apply AC<;>intro a|apply AF<;>intro a|apply AA|(refine AJ ?_ (Cj ?_);intro r hr)|(refine AJ ?_ (AE ?_ ?_);rintro r ⟨hr,c⟩)
 all_goals ((try dsimp[len]at*);(try first|omega|assumption|grind[AW]))
def Xt{x:CE}(h:x.2.2.2.1.length<=16777216):Ay (GZ x) λr=>r.1.length<=2147483648:=by
 unfold GZ;repeat' with_reducible first|apply AO<;>intro a|apply AF<;>intro a|apply AA|(refine AJ ?_ (NF ?_);intro r hr)|(apply AB (Qb);intro r hr)|(refine AJ ?_ (Cj ?_);intro r hr)|(refine AJ ?_ (Uj ?_);intro r hr)|(apply AB (QZ);intro r hr)|(refine AJ ?_ (CY ?_);rintro r ⟨hr,b⟩)
 all_goals ((try dsimp[len]at*);(try first|omega|assumption|grind[AW]))
def Rz(c:FG):Bb:=bif c.1 then EZ (c.2.length:Int) 1++c.2 else EZ 255 1
def Br(e:AD):Bb:=
 EZ e.1 8++(EZ e.2.1 1++(EZ e.2.2.1 4++(EZ e.2.2.2.1 8++(EZ e.2.2.2.2.1 8++(EZ e.2.2.2.2.2.1 8++(EZ e.2.2.2.2.2.2.1.1 4++(EZ e.2.2.2.2.2.2.1.2.1 1++
 (Rz e.2.2.2.2.2.2.1.2.2.1++(Rz e.2.2.2.2.2.2.1.2.2.2++(EZ (e.2.2.2.2.2.2.2.length:Int) 4++e.2.2.2.2.2.2.2))))))))))
theorem dA{c:FG}(h:HS c):(Rz c).length<=13:=by
 unfold Rz;cases c.1 with
 |true=>rw[cond_true,Ag,BN];have:=h.1;omega
 |false=>grind[BN]
def tS{s:Bb}{c:FG}(h:s.length<=1099511627776)(a:c.2.length<=8192):GB (s,c)=some (s++Rz c):=by grind[GB,Rz,Bool.not_false,HU,Bool.not_true,sapp,EZ,Int.toNat,List.length_append,BN,List.append_assoc]
def OF.cells{e:AD}(h:OF e):HS e.2.2.2.2.2.2.1.2.2.1/\HS e.2.2.2.2.2.2.1.2.2.2/\e.2.2.2.2.2.2.2.length<=8192/\Wz 8 e.1/\Wz 1 e.2.1/\Wz 4 e.2.2.1/\Wz 8 e.2.2.2.1/\Wz 8 e.2.2.2.2.1/\Wz 8 e.2.2.2.2.2.1/\Wz 4 e.2.2.2.2.2.2.1.1/\Wz 1 e.2.2.2.2.2.2.1.2.1:=by
 have⟨a1,a2,a3,a4,a5,a6,a7,a8,j⟩:=h;have k: ∀n:Int,0<=n->n<=1099511627776->Wz 8 n:=λn l m=>⟨λh=>absurd h (by decide),by omega⟩
 have p: ∀n:Int,0<=n->n<=1073741824->Wz 4 n:=λn l m=>⟨λ_=>by rw[show(256:Int)^4=4294967296 by decide];omega,by omega⟩
 have o: ∀n:Int,0<=n->n<=255->Wz 1 n:=λn l m=>⟨λ_=>by rw[show(256:Int)^1=256 by decide];omega,by omega⟩
 have z:HS (false,[]):=⟨by decide,.inr rfl⟩
 refine and_assoc.1 (and_assoc.1 ⟨?_,k _ (by omega) (by omega),?_⟩);rcases j with⟨k1,f,d,g,c,a⟩|⟨k1,f,d,g,c,a,i,b⟩|⟨k1,f,d,g,c,a,i,b⟩|⟨k1,f,d,g,c,a,i⟩|j;exact⟨⟨a.2.2.2.2.1,a.2.2.2.2.2⟩,by rw[d];decide⟩;exact⟨⟨b.2.2.2.2.1,b.2.2.2.2.2⟩,by rw[c];decide⟩;rw[c,a];exact⟨⟨z,z⟩,by decide⟩;rw[a];exact⟨⟨z,z⟩,i⟩;have⟨k1,f,d,g,c,a,i,b⟩:=j;rw[i,b];exact⟨⟨z,z⟩,by decide⟩;have q:1<=e.2.1/\e.2.1<=8/\0<=e.2.2.1/\e.2.2.1<=1073741824/\0<=e.2.2.2.2.2.2.1.1/\e.2.2.2.2.2.2.1.1<64/\0<=e.2.2.2.2.2.2.1.2.1/\e.2.2.2.2.2.2.1.2.1<16:=by rcases j with⟨k1,f,d,g,c,a⟩|⟨k1,f,d,g,c,a,i,b⟩|⟨k1,f,d,g,c,a,i,b⟩|⟨k1,f,d,g,c,a,i⟩|j;have:=a.1;have:=a.2.1;have:=a.2.2.1;have:=a.2.2.2.1;omega;have:=b.1;have:=b.2.1;have:=b.2.2.1;have:=b.2.2.2.1;omega;grind[Oi];grind[Oi];grind[Oi]
 exact⟨o _ (by omega) (by omega),p _ (by omega) (by omega),k _ (by omega) (by omega),k _ (by omega) (by omega),k _ (by omega) (by omega),p _ (by omega) (by omega),o _ (by omega) (by omega)⟩
def R1{e:AD}(h:OF e):(Br e).length<=8392:=by have⟨a,b,c,_⟩:=h.cells;grind[dA,Br,List.length_append,BN]
def jZ{e:AD}(h:OF e):FJ e=some (Br e,0):=by have⟨c,d,i,_⟩:=h.cells;have l1:=dA c;have l2:=dA d;have⟨b,f,g⟩:=B9 (x:=e);have a:b=true:=g.2 h;subst a;unfold FJ;rw[f,AI,Ea,cond_false];rw[HU (by simp) (by decide) (by decide),AI,CD];rw[HU (by simp only[Ag,BN];simp only[Int.reduceToNat];omega) (by decide) (by decide),AI];rw[HU (by simp only[Ag,BN];simp only[Int.reduceToNat];omega) (by decide) (by decide),AI];rw[HU (by simp only[Ag,BN];simp only[Int.reduceToNat];omega) (by decide) (by decide),AI];rw[HU (by simp only[Ag,BN];simp only[Int.reduceToNat];omega) (by decide) (by decide),AI];rw[HU (by simp only[Ag,BN];simp only[Int.reduceToNat];omega) (by decide) (by decide),AI];rw[HU (by simp only[Ag,BN];simp only[Int.reduceToNat];omega) (by decide) (by decide),AI];rw[HU (by simp only[Ag,BN];simp only[Int.reduceToNat];omega) (by decide) (by decide),AI];rw[tS (by simp only[Ag,BN];simp only[Int.reduceToNat];omega) (by have:=c.1;omega),AI];rw[tS (by simp only[Ag,BN];simp[Int.reduceToNat];omega) (by have:=d.1;omega),AI];rw[HU (by simp only[Ag,BN];simp[Int.reduceToNat];omega) (by decide) (by decide),AI];unfold sapp;rw[if_pos (by simp only[Ag,BN];simp[Int.reduceToNat];omega),AI];simp[Ax];rfl
def CS(x p:Bb)(c:Bb×Int×Int):Prop:=c.1=x/\(c.2.2=0-> ∃rest,x=p++rest/\c.2.1=p.length)
def kp{t:Bb}{k:Nat}(h:k<=t.length)(a:k<=8):Wz k (rd (t.take k))/\EZ (rd (t.take k)) k=t.take k:=by grind[List.length_take,sm,oz]
def X4{x p:Bb}{c:Bb×Int×Int}{k:Nat}(h:CS x p c)(o:x.length<=1099511627776)(q:1<=k)(m:k<=8):Ay (BB c (k:Int)) λr=>CS x (p++EZ r.1 k) r.2/\(r.2.2.2=0->Wz k r.1)/\(c.2.2≠0->r=(0,c)):=by have⟨s,l,e⟩:=c;have⟨g,i⟩:=h;dsimp only at g i;subst g;unfold BB;refine AL (λd=>AA ⟨⟨rfl,λb=>absurd b d⟩,λb=>absurd b d,λ_=>rfl⟩) (λd=>?_);dsimp only at d;subst d;have⟨a,hr,n⟩:=i rfl;subst hr n;rw[Ag]at o;rw[fB (by omega) (by omega) (by omega)];by_cases j:(k:Int)<=a.length;rw[if_pos j,AI,DD];have⟨q1,q2⟩:=kp (t:=a) (k:=k) (by omega) m;rw[show((0:Int) !=0)=false by decide,cond_false];refine AA ⟨⟨rfl,λ_=>⟨a.drop k,?_,?_⟩⟩,λ_=>q1,λf=>absurd rfl f⟩;grind[List.append_assoc,List.take_append_drop];grind[AW,List.length_append,BN];rw[if_neg j,AI];rw[show((5:Int) !=0)=true by decide,cond_true];exact AA ⟨⟨rfl,λb=>absurd (show(5:Int)=0 from b) (by decide)⟩,λb=>absurd (show(5:Int)=0 from b) (by decide),λf=>absurd rfl f⟩
def xS{x p:Bb}{c:Bb×Int×Int}{n:Int}(h:CS x p c)(k:x.length<=1099511627776)(hn:c.2.2=0->0<=n/\n<4294967296):Ay (Cq c n) λr=>CS x (p++r.1) r.2/\(r.2.2.2=0->(r.1.length:Int)=n/\c.2.2=0):=by have⟨s,g,e⟩:=c;have⟨d,f⟩:=h;dsimp only at d f hn;subst d;unfold Cq;by_cases j:e=0;subst j;have⟨a,hr,i⟩:=f rfl;have⟨l,q⟩:=hn rfl;subst hr i;obtain⟨m,rfl⟩:=Eb l;rw[Ag]at k;rw[show((0:Int) !=0)=false by decide,cond_false];simp only[len];rw[show wi (((p++a).length:Int)-(p.length:Int))=a.length by rw[Ag,AW];omega];by_cases o:(m:Int)<=a.length;rw[decide_eq_false (by omega),cond_false];rw[(by grind[AW,Rp,List.length_append,List.drop_left]:Rp (p++a) (wi (wi ((p.length:Int)+(m:Int))-(m:Int))) (wi ((p.length:Int)+(m:Int)))=some (a.take m)),AI];refine AA ⟨⟨rfl,λ_=>⟨a.drop m,?_,?_⟩⟩,λ_=>⟨?_,by first|rfl|trivial⟩⟩;grind[List.append_assoc,List.take_append_drop];grind[AW,List.length_append,List.length_take];grind[List.length_take];rw[decide_eq_true (by omega),cond_true];exact AA ⟨⟨rfl,λb=>absurd (show(5:Int)=0 from b) (by decide)⟩,λb=>absurd (show(5:Int)=0 from b) (by decide)⟩;grind[AA]
theorem xP{x p:Bb}{c:Bb×Int×Int}(h:CS x p c)(i:x.length<=1099511627776):Ay (Cf c ()) λr=>CS x (p++Rz r.1) r.2/\(r.2.2.2=0->HS r.1):=by unfold Cf;refine AB (X4 (k:=1) h i (by decide) (by decide)) λv n=>?_;have⟨⟨f,j⟩,q,y⟩:=n;refine AL (λd=>AA ⟨⟨f,λb=>absurd b d⟩,λb=>absurd b d⟩) (λd=>?_);have⟨e,hr,g⟩:=j d;have m:=(q d).1 (by decide);rw[show(256:Int)^1=256 by decide]at m;refine AQ (λa=>AA ⟨⟨f,λ_=>⟨e,?_,?_⟩⟩,λ_=>⟨B7 _,.inr rfl⟩⟩) (λa=>?_);dsimp only;rw[a]at hr;exact hr;dsimp only;rw[a]at g;exact g;refine AC (λ_=>AA ⟨⟨f,λb=>absurd (show(4:Int)=0 from b) (by decide)⟩,λb=>absurd (show(4:Int)=0 from b) (by decide)⟩) (λl=>?_);refine AB (xS (x:=x) (p:=p++EZ v.1 1) ⟨f,j⟩ i (λ_=>⟨by omega,by omega⟩)) λw o=>AA ?_;have⟨⟨s,z⟩,t⟩:=o;refine⟨⟨s,λb=>?_⟩,λb=>?_⟩;grind[Rz,EZ,List.append_assoc];dsimp only at b⊢;have⟨u,_⟩:=t b;exact⟨by dsimp only;omega,.inl rfl⟩
def Vu{x p a:Bb}{n:Int}{k:Nat}(e:x=p++(EZ n k++a))(d:x.length<=1099511627776)(b:1<=k)(c:k<=8)(hn:Wz k n):BB (x,((p.length:Int),0)) (k:Int)=some (n,(x,(((p++EZ n k).length:Int),0))):=by grind[List.length,List.length_append,BN,BB,fB,Int.toNat_natCast,List.take_left',jU,AW]
theorem xR{x p w a:Bb}(c:x=p++(w++a))(d:x.length<=1099511627776):Cq (x,((p.length:Int),0)) (w.length:Int)=some (w,(x,(((p++w).length:Int),0))):=by
 have b:=congrArg List.length c;simp[Ag]at b;unfold Cq;dsimp only;rw[show((0:Int) !=0)=false by decide,cond_false];simp only[len];rw[show decide ((w.length:Int)>wi ((x.length:Int)-(p.length:Int)))=false from decide_eq_false (by rw[AW];omega),cond_false];have e:Rp x (wi (wi ((p.length:Int)+(w.length:Int))-(w.length:Int))) (wi ((p.length:Int)+(w.length:Int)))=some w:=by rw[AW (x:=(p.length:Int)+(w.length:Int)),AW];unfold Rp;rw[if_pos (by omega),c,show((p.length:Int)+(w.length:Int)-(w.length:Int)).toNat=p.length by omega,RG,show((p.length:Int)+(w.length:Int)).toNat-p.length=w.length by omega,Zo]
 grind[AW,List.length_append]
def xO{x p a:Bb}{c:FG}(e:x=p++(Rz c++a))(i:x.length<=1099511627776)(k:HS c):Cf (x,((p.length:Int),0)) ()=some (c,(x,(((p++Rz c).length:Int),0))):=by
 have⟨b,d⟩:=c;have⟨j,f⟩:=k;dsimp only at j f;unfold Cf;cases b with
 |false=>
  have l:d=[]:=by rcases f with h|h;cases h;exact h
  subst l;rw[(rfl:Rz (false,[])=EZ 255 1)]at e⊢;rw[show(1:Int)=((1:Nat):Int)from rfl,Vu e i (by decide) (by decide) ⟨λ_=>by decide,by decide,by decide⟩];rfl
 |true=>have g:Rz (true,d)=EZ (d.length:Int) 1++d:=rfl;rw[g,Ax]at e;rw[g];rw[show(1:Int)=((1:Nat):Int)from rfl,Vu e i (by decide) (by decide) ⟨λ_=>by rw[show(256:Int)^1=256 by decide];omega,by omega⟩,AI];grind[xR,List.append_assoc]
def ABE{x:Bb}(a:x.length<=1099511627776):Ay (Ds x) λr=>r.2=0->x=Br r.1/\HS r.1.2.2.2.2.2.2.1.2.2.1/\HS r.1.2.2.2.2.2.2.1.2.2.2/\Wz 4 (r.1.2.2.2.2.2.2.2.length:Int)/\Ck r.1=some true:=by
 unfold Ds;have I:CS x [] (x,(0,0)):=⟨rfl,λ_=>⟨x,rfl,rfl⟩⟩
 refine AB (X4 (k:=8) I a (by decide) (by decide)) λO y=>?_;refine AB (X4 (k:=1) y.1 a (by decide) (by decide)) λP z=>?_;refine AB (X4 (k:=4) z.1 a (by decide) (by decide)) λQ A=>?_;refine AB (X4 (k:=8) A.1 a (by decide) (by decide)) λR B=>?_;refine AB (X4 (k:=8) B.1 a (by decide) (by decide)) λS C=>?_;refine AB (X4 (k:=8) C.1 a (by decide) (by decide)) λT D=>?_;refine AB (X4 (k:=4) D.1 a (by decide) (by decide)) λU E=>?_;refine AB (X4 (k:=1) E.1 a (by decide) (by decide)) λV F=>?_;refine EM (xP F.1 a) λq M o=>?_;refine EM (xP o.1 a) λs w p=>?_;refine AB (X4 (k:=4) p.1 a (by decide) (by decide)) λj b=>?_;refine AB (xS (n:=j.1) b.1 a (λc=>?_)) λJ f=>?_;have:=(b.2.1 c).1 (by decide);rw[show(256:Int)^4=4294967296 by decide]at this;exact this;refine AL (λh=>AA λc=>absurd c h) (λh=>?_);refine AL (λ_=>AA λc=>absurd c (by decide)) (λG=>?_);refine EM (B9) λK i _=>?_;refine AO (λ_=>AA λc=>absurd c (by decide)) (λH=>AA λ_=>?_);subst H;obtain⟨q11,d⟩:=f.2 h;have l:s.2.2.2=0:=RF λe=>by have:=b.2.2 e;rw[this]at d;exact e d
 have u:=p.2 l;have L:q.2.2.2=0:=RF λe=>by
  have:s=((false,[]),q.2):=by have:=w;unfold Cf BB at this;rw[bne_iff_ne.2 e,cond_true,AI,bne_iff_ne.2 e,cond_true]at this;injection this with this;exact this.symm
  rw[this]at l;exact e l
 have t:=o.2 L;obtain⟨g,m,N⟩:=f.1.2 h;have hr:g=[]:=by simp only[len]at G;have v:=congrArg List.length m;rw[Ag]at v;exact EJ (by omega)
 subst hr;refine⟨?_,t,u,?_,i⟩;rw[m];unfold Br;dsimp only;rw[q11];simp only[Ax,CD,Dn];dsimp only;rw[q11];exact b.2.1 d
def xQ{e:AD}(h:OF e):Ds (Br e)=some (e,0):=by
 obtain⟨s,t,H,w,y,z,A,B,C,D,E⟩:=h.cells;have I:=R1 h;have g:Wz 4 (e.2.2.2.2.2.2.2.length:Int):=⟨λ_=>by rw[show(256:Int)^4=4294967296 by decide];omega,by omega⟩
 have a:Br e=[]++(EZ e.1 8++(EZ e.2.1 1++(EZ e.2.2.1 4++(EZ e.2.2.2.1 8++(EZ e.2.2.2.2.1 8++(EZ e.2.2.2.2.2.1 8++(EZ e.2.2.2.2.2.2.1.1 4++(EZ e.2.2.2.2.2.2.1.2.1 1++
 (Rz e.2.2.2.2.2.2.1.2.2.1++(Rz e.2.2.2.2.2.2.1.2.2.2++(EZ (e.2.2.2.2.2.2.2.length:Int) 4++(e.2.2.2.2.2.2.2++[])))))))))))):=by rw[Dn];rfl
 generalize Br e=x at*;have i:BB (x,(((0:Int)),0)) 8=_:=Vu (p:=[]) (k:=8) a (by omega) (by decide) (by decide) w;rw[CD]at i;rw[CD]at a;have j:=Vu (k:=1) a (by omega) (by decide) (by decide) y;rw[<-Ax]at a;have l:=Vu (k:=4) a (by omega) (by decide) (by decide) z;rw[<-Ax]at a;have m:=Vu (k:=8) a (by omega) (by decide) (by decide) A;rw[<-Ax]at a;have n:=Vu (k:=8) a (by omega) (by decide) (by decide) B;rw[<-Ax]at a;have o:=Vu (k:=8) a (by omega) (by decide) (by decide) C;rw[<-Ax]at a;have q:=Vu (k:=4) a (by omega) (by decide) (by decide) D;rw[<-Ax]at a;have r:=Vu (k:=1) a (by omega) (by decide) (by decide) E;rw[<-Ax]at a;have F:=xO a (by omega) s;rw[<-Ax]at a;have G:=xO a (by omega) t;rw[<-Ax]at a;have c:=Vu (k:=4) a (by omega) (by decide) (by decide) g;rw[<-Ax]at a;have d:=xR a (by omega);rw[Dn]at a;rw[<-a]at d;unfold Ds;rw[i,AI];rw[show((1:Nat):Int)=1 from rfl]at j r;rw[show((4:Nat):Int)=4 from rfl]at l q c;rw[show((8:Nat):Int)=8 from rfl]at m n o;rw[j,AI,l,AI,m,AI,n,AI,o,AI,q,AI,r,AI,F,AI,G,AI,c,AI,d,AI];obtain⟨b,u,v⟩:=B9 (x:=e);have f:b=true:=v.2 h;subst f;dsimp only[len];rw[show((0:Int) !=0)=false by decide,cond_false,bne_self_eq_false,cond_false];rw[show(e.1,(e.2.1,(e.2.2.1,(e.2.2.2.1,(e.2.2.2.2.1,(e.2.2.2.2.2.1,((e.2.2.2.2.2.2.1.1,(e.2.2.2.2.2.2.1.2.1,(e.2.2.2.2.2.2.1.2.2.1,e.2.2.2.2.2.2.1.2.2.2))),e.2.2.2.2.2.2.2)))))))=e from rfl,u,AI,Ea,cond_false]
def bf{S R:Type}(I:S->Prop)(μ:S->Nat)(m:Nat)(Q:R->Prop):Step S R->Prop
 | .next s'=>I s'/\μ s'<m
 | .done r=>Q r
def Ia{S R:Type}{body:S->Option (Step S R)}(I:S->Prop)(a:S->Nat){Q:R->Prop}{s:S}(b:I s)(c: ∀s,I s->Ay (body s) (bf I a (a s) Q)):Ay (Ad body s) Q:=AM I a b λs d=>(c s d).mono λe h=>by cases e<;>exact h
theorem Ay.next{S R:Type}{I:S->Prop}{a:S->Nat}{m:Nat}{Q:R->Prop}{s:S}(h:I s)(b:a s<m):Ay (some (Step.next s)) (bf I a m Q):=⟨_,rfl,h,b⟩
theorem Ay.done{S R:Type}{I:S->Prop}{a:S->Nat}{m:Nat}{Q:R->Prop}{r:R}(h:Q r):Ay (some (Step.done r)) (bf I a m Q):=⟨_,rfl,h⟩
def Jq(l:List AD):Bb:=(l.map λe=>Hy (Br e)).flatten
def R3(l:List AD)(e:AD):Jq (l++[e])=Jq l++Hy (Br e):=by unfold Jq;grind
theorem ga(e:AD)(l:List AD):Jq (e::l)=Hy (Br e)++Jq l:=rfl
def kV{l:List AD}(h: ∀e∈l,OF e):(Jq l).length<=8400*l.length:=by
 induction l with
 |nil=>exact Ak _
 |cons e r b=>have c:=b λx a=>h x (An.2 (.inr a));have d:=R1 (h e (An.2 (.inl rfl)));rw[ga,Ag,F4,BV];omega
def up{x p a:Bb}{at_:Int}{k:Nat}(c:x=p++a)(e:at_=p.length)(i:x.length≤1099511627776)(h:1≤k)(f:k≤8)(g:k≤a.length):
  ∃n b,Av (x,(at_,(k:Int)))=some (n,0)/\CN (x,(at_,(k:Int)))=some (n,0)/\x=(p++EZ n k)++b/\Wz k n/\b.length+k=a.length:=by
 have d:=congrArg List.length c;rw[Ag]at d;obtain⟨q1,q2⟩:=kp (t:=a) g f;refine⟨rd (a.take k),a.drop k,?_,?_,?_,q1,?_⟩;rw[c,e,fB (by omega) (by omega) (by omega),if_pos (by omega),DD];rw[c,e,bQ (by omega) (by omega) (by omega),if_pos (by omega),DD];rw[q2,Ax,F9];exact c;rw[G9];omega
def dS{x p rest:Bb}{at_ n:Int}{k:Nat}(a:x=p++(EZ n k++rest))(d:at_=p.length)(f:x.length≤1099511627776)(e:1≤k)(c:k≤8)(hn:Wz k n):
  Av (x,(at_,(k:Int)))=some (n,0)/\CN (x,(at_,(k:Int)))=some (n,0):=by
 have b:=congrArg List.length a;simp only[Ag,BN]at b;refine⟨?_,?_⟩;rw[a,d,fB (by rw[Ag,BN];omega) (by omega) (by omega),if_pos (by rw[Ag,BN];omega),DD,O6 (BN _ _),jU c hn];rw[a,d,bQ (by rw[Ag,BN];omega) (by omega) (by omega),if_pos (by rw[Ag,BN];omega),DD,O6 (BN _ _),jU c hn]
theorem WK{x:List Ao×Int×Bool×Cl}{s:Int×List Ao}(h:0<=s.1/\s.1<=x.1.length/\x.1.length<=16777216/\s.2.length<=s.1):Ay (Ad (NA x) s) λr=>r.length<=x.1.length:=by
 refine AM (λ(s:Int×List Ao)=>0<=s.1/\s.1<=x.1.length/\x.1.length<=16777216/\s.2.length<=s.1) (λ(s:Int×List Ao)=>((x.1.length:Int)-s.1).toNat) h (λs b=>?_);unfold NA;repeat' with_reducible first|refine AF ?_ ?_<;>intro c|(refine BE ?_;try dsimp only)|refine BP ?_|refine BX ?_|refine AA ?_|(refine AJ ?_ (AE ?_ ?_);rintro r ⟨hr,e⟩)|(refine AJ ?_ (Ac ?_);rintro r ⟨hr,d,a⟩)
 all_goals ((try dsimp only[len]at*);(try first|omega|assumption|grind[AW]))
def Jf{x:List Ao×Int×Bool×Cl}(h:x.1.length<=16777216):Ay (GD x) λr=>r.length<=x.1.length:=by
 unfold GD;repeat' with_reducible first|apply AA|(refine AJ ?_ (WK ?_);intro r hr)
 all_goals grind
theorem WH{x:Aw×Int}{s:Int}(h:0<=s/\s<=x.1.1.length/\(x.1.1.length:Int)<=16777216/\0<=x.2/\x.2<x.1.2.length):Ay (Ad (M6 x) s) λr=>True:=by
 refine AM (λ(s:Int)=>0<=s/\s<=x.1.1.length/\(x.1.1.length:Int)<=16777216/\0<=x.2/\x.2<x.1.2.length) (λ(s:Int)=>((x.1.1.length:Int)-s).toNat) h (λs a=>?_);unfold M6;repeat' with_reducible first|refine AF ?_ ?_<;>intro b|refine AA ?_|(refine AB (GC) ?_;intro r hr)|(refine AJ ?_ (AE ?_ ?_);rintro r ⟨hr,c⟩)
 all_goals ((try dsimp only[len]at*);(try first|omega|assumption|grind[AW]))
theorem WI{x:Aw×Int}{s:Int}(h:0<=s/\s<=x.2/\(x.2:Int)<=16777216/\0<=x.2/\x.2<x.1.2.length):Ay (Ad (M7 x) s) λr=>True:=by
 refine AM (λ(s:Int)=>0<=s/\s<=x.2/\(x.2:Int)<=16777216/\0<=x.2/\x.2<x.1.2.length) (λ(s:Int)=>((x.2:Int)-s).toNat) h (λs a=>?_);unfold M7;repeat' with_reducible first|refine AF ?_ ?_<;>intro b|refine AA ?_|(refine AB (GC) ?_;intro r hr)|(refine AJ ?_ (AE ?_ ?_);rintro r ⟨hr,c⟩)
 all_goals ((try dsimp only[len]at*);(try first|omega|assumption|grind[AW]))
def af{x:Aw×Int}(h:x.1.1.length<=4096/\x.1.2.length<=4096)(b:0<=x.2/\x.2<x.1.2.length):Ay (LZ x) λr=>True:=by
 unfold LZ;repeat' with_reducible first|(apply A2<;>(intro u a;try subst a))|apply AA|(refine AJ ?_ (WH ?_);intro r hr)|(refine AJ ?_ (WI ?_);intro r hr)
 all_goals grind
def WJ{x:List Ao×Ao}{s:Bool×Int×List Ao}(h:0<=s.2.1/\s.2.1<=x.1.length/\x.1.length<=4096/\s.2.2.length<=s.2.1+1/\(s.1=false->(s.2.2.length:Int)<=s.2.1)):Ay (Ad (M9 x) s) λr=>r.2.length<=x.1.length+1/\(r.1=false->r.2.length<=x.1.length):=by
 refine AM (λ(s:Bool×Int×List Ao)=>0<=s.2.1/\s.2.1<=x.1.length/\x.1.length<=4096/\s.2.2.length<=s.2.1+1/\(s.1=false->(s.2.2.length:Int)<=s.2.1)) (λ(s:Bool×Int×List Ao)=>((x.1.length:Int)-s.2.1).toNat) h (λs c=>?_);unfold M9;repeat' with_reducible first|apply AC<;>intro a|apply AO<;>intro a|apply AL<;>intro a|(apply BE;try dsimp only)|apply BP|apply BX|apply AA|(apply AB (SD);intro r hr)|(refine AJ ?_ (AE ?_ ?_);rintro r ⟨hr,f⟩)|(refine AJ ?_ (Ac ?_);rintro r ⟨hr,d,b⟩)
 all_goals try (have e:=AW (x:=s.2.1+1))
 all_goals (first|omega|grind)
def ag{x:List Ao×Ao}(h:x.1.length<=4096):Ay (La x) λr=>r.length<=x.1.length+1:=by
 unfold La;repeat' with_reducible first|apply AO<;>intro b|(apply BE;try dsimp only)|apply BP|apply BX|apply AA|(refine AJ ?_ (WJ ?_);intro r hr)|(refine AJ ?_ (Ac ?_);rintro r ⟨hr,c,a⟩)
 all_goals grind
def Ua{B:Nat}(t:B<=2000){s:Int×Aw}(h:0<=s.1/\s.1<=s.2.2.length/\s.2.1.length+s.2.2.length<=B):Ay (Ad Pw s) λr=>r.1.length+r.2.length<=B:=by
 refine AM (λs=>0<=s.1/\s.1<=s.2.2.length/\s.2.1.length+s.2.2.length<=B) (λs=>s.2.2.length*3000+((s.2.2.length:Int)-s.1).toNat) h (λs m=>?_);obtain⟨f,o,g⟩:=m;refine AC (λd=>?_) (λd=>AA g);simp only[len]at d;refine AB (af (by dsimp only;omega) ⟨f,d⟩) λv _=>?_;refine AB (P:=λv:Int×Aw=>(v=s)\/(v.1= -1/\v.2.1.length<=s.2.1.length+1/\v.2.2.length+1=s.2.2.length)) ?_ λi l=>?_;refine AF (λ_=>?_) (λ_=>AA (.inl rfl));refine AB (AE f d) λu _=>?_;refine AB (ag (by dsimp only;omega)) λw g=>?_;refine AB (Bu (by omega) f) λy p=>?_;have e:=AW (x:=s.1+1);refine AB (Bu (by rw[e];omega) (by rw[e];simp only[len];omega) (by simp only[len];omega)) λz j=>?_;have n:=j.2;simp only[len]at n;refine AB (Ac (by simp;omega)) λA k=>?_;refine AB (Ac (by have:=k.2.1;simp at this;omega)) λC q=>?_;refine AA (.inr ⟨rfl,g,?_⟩);grind;apply AA;rcases l with rfl|⟨a,b,c⟩;have e:=AW (x:=i.1+1);grind;have e:wi (i.1+1)=0:=by rw[a];exact AW
 grind
def Ig{B:Nat}{x:Aw}(a:B<=2000)(h:x.1.length+x.2.length<=B):Ay (FK x) λr=>r.1.length+r.2.length<=B:=by exact AB (Ua a ⟨by simp,by simp,h⟩) λr hr=>AA hr
theorem F7.of{x:Aw}{B:Nat}(a:B<=2000)(h:x.1.length+x.2.length<=B):F7 x:=⟨by omega,by omega⟩
def F7.nil:F7 (([],[]):Aw):=⟨by simp,by simp⟩
def Kz{x:Aw×Int}(h:F7 x.1):Ay (HD x) λr=>F7 r:=by refine AB (Ey h) λv e=>?_;refine AO (λ_=>AA h) (λc=>?_);have d:=e c;refine AB (Jf h.1) λa f=>?_;refine AB (Jf h.2) λb g=>?_;refine AB (Ig (B:=1024) (by decide) ?_) λr hr=>AA (F7.of (by decide) hr);unfold W3 at d;grind
def Xh{x:Aw×Int}(h:F7 x.1):Ay (N0 x) λr=>F7 r:=by refine AB (Ey h) λv d=>?_;refine AO (λ_=>AA h) (λa=>?_);have c:=d a;refine AB (Jf h.2) λb e=>?_;refine AB (Ig (B:=1024) (by decide) ?_) λr hr=>AA (F7.of (by decide) hr);unfold W3 at c;grind
def SC{x:Aw×Int×Cl}(h:F7 x.1):Ay (LY x) λr=>F7 r:=by refine AB (Ey h) λv d=>?_;refine AO (λ_=>AA h) (λa=>?_);have c:=d a;refine AB (Jf h.1) λb e=>?_;refine AB (Ig (B:=1024) (by decide) ?_) λr hr=>AA (F7.of (by decide) hr);unfold W3 at c;grind
theorem T5{x:Aw×Int}{s:Int×Ao}(h:0<=s.1/\s.1<=x.1.2.length/\x.1.2.length<=16777216):Ay (Ad (J5 x) s) λr=>True:=by
 refine AM (λ(s:Int×Ao)=>0<=s.1/\s.1<=x.1.2.length/\x.1.2.length<=16777216) (λ(s:Int×Ao)=>((x.1.2.length:Int)-s.1).toNat) h (λs b=>?_);unfold J5;repeat' with_reducible first|refine AC ?_ ?_<;>intro a|refine AQ ?_ ?_<;>intro a|refine AA ?_|(refine AJ ?_ (AE ?_ ?_);rintro r ⟨hr,c⟩)
 all_goals ((try dsimp only[len]at*);(try first|omega|assumption|grind[AW]))
theorem H8{x:Aw×Int}(h:F7 x.1):Ay (Ez x) λr=>r.2=true->W3 x.1:=by
 unfold Ez;repeat' with_reducible first|refine AF ?_ ?_<;>intro b|(refine BE ?_;try dsimp only)|refine BP ?_|refine BX ?_|refine L4 ?_|(refine A2 ?_ ?_<;>(intro u a;try subst a))|refine AA ?_|(refine AJ ?_ (Ey ?_);intro r hr)|(refine AJ ?_ (T5 ?_);intro r hr)
 all_goals ((try dsimp only[len]at*);(try first|omega|assumption|grind[F7]))
theorem VZ{x:Aw×Ao}{s:Int}(h:0<=s/\s<=x.1.2.length/\(x.1.2.length:Int)<=16777216/\x.1.1.length<=16777216):Ay (Ad (MI x) s) λr=> ∀u,r= .inl u->0<=u/\u<=x.1.2.length:=by
 refine AM (λ(s:Int)=>0<=s/\s<=x.1.2.length/\(x.1.2.length:Int)<=16777216/\x.1.1.length<=16777216) (λ(s:Int)=>((x.1.2.length:Int)-s).toNat) h (λs a=>?_);unfold MI;repeat' with_reducible first|refine AF ?_ ?_<;>intro b|refine AA ?_|(refine AJ ?_ (Hf ?_);intro r hr)|(refine AJ ?_ (AE ?_ ?_);rintro r ⟨hr,c⟩)
 all_goals ((try dsimp only[len]at*);(try first|omega|assumption|grind[AW]))
theorem ZF{x:Aw×Ao}(h:F7 x.1):Ay (IJ x) λr=>0<=r/\r<=x.1.2.length:=by
 unfold IJ;repeat' with_reducible first|refine AQ ?_ ?_<;>intro b|(refine A2 ?_ ?_<;>(intro u a;try subst a))|refine AA ?_|(refine AJ ?_ (Hf ?_);intro r hr)|(refine AJ ?_ (VZ ?_);intro r hr)
 all_goals ((try dsimp only[len]at*);(try first|omega|assumption|grind[F7]))
def WG{x:Aw×Ao}(h:F7 x.1):Ay (M5 x) λr=>F7 r.1:=by refine AB (Ey h) λv o=>?_;refine AO (λ_=>AA F7.nil) (λl=>?_);have n:=o l;unfold W3 at n;refine AB M8 λ_ _=>?_;refine AO (λ_=>AA F7.nil) (λ_=>?_);refine AB (H8 h) λA _=>?_;apply AF<;>intro m;refine AF (λ_=>AA F7.nil) (λ_=>?_);refine AF (λ_=>AA h) (λz=>?_);grind;refine AF (λ_=>AA h) (λ_=>?_);refine AB (Hf h.1) λ_ _=>?_;refine AF (λ_=>AA h) (λ_=>?_);refine AF (λ_=>AA F7.nil) (λ_=>?_);refine AB (ZF h) λp e=>?_;refine AB (Bu (by omega) e.1 e.2) λq j=>?_;refine AB (Bu e.1 (by simp only[len];omega) (by simp only[len];omega)) λs a=>?_;have f:=a.2;simp only[len]at f;refine AB (Ac (by simp;omega)) λt b=>?_;have g:=b.2.1;simp at g;refine AB (Ac (by simp;omega)) λu c=>?_;have i:=c.2.1;simp at i;refine AB (Ac (by omega)) λw k=>?_;refine AB (Ig (B:=1025) (by decide) (by dsimp only;omega)) λy d=>?_;refine AB (Hf (by dsimp only;omega)) λ_ _=>?_;exact AA (F7.of (by decide) d)
def WN{x:List Int×Int}{s:Bool×Int×List Int}(h:0<=s.2.1/\s.2.1<=x.1.length/\x.1.length<=4096/\s.2.2.length<=s.2.1+1/\(s.1=false->(s.2.2.length:Int)<=s.2.1)):Ay (Ad (M0 x) s) λr=>r.2.length<=x.1.length+1/\(r.1=false->r.2.length<=x.1.length):=by
 refine AM (λ(s:Bool×Int×List Int)=>0<=s.2.1/\s.2.1<=x.1.length/\x.1.length<=4096/\s.2.2.length<=s.2.1+1/\(s.1=false->(s.2.2.length:Int)<=s.2.1)) (λ(s:Bool×Int×List Int)=>((x.1.length:Int)-s.2.1).toNat) h (λs b=>?_);unfold M0;repeat' with_reducible first|apply AC<;>intro a|apply AO<;>intro a|apply AL<;>intro a|apply AF<;>intro a|(apply BE;try dsimp only)|apply BP|apply BX|apply AA|(refine AJ ?_ (AE ?_ ?_);rintro r ⟨hr,g⟩)|(refine AJ ?_ (Ac ?_);rintro r ⟨hr,f,d⟩)
 all_goals try dsimp only[len]at*
 all_goals try (have e:=AW (x:=s.2.1+1))
 all_goals try (have c:=b.2.2.2.2 (by assumption))
 all_goals (try simp only[BV,Bt,Bool.true_eq_false,false_implies,and_true]at*)
 all_goals first|omega|grind
theorem N4{x:List Int×Int}(h:x.1.length<=4096):Ay (FB x) λr=>r.length<=x.1.length+1:=by
 unfold FB;repeat' with_reducible first|refine AO ?_ ?_<;>intro a|refine AF ?_ ?_<;>intro a|(refine BE ?_;try dsimp only)|refine BP ?_|refine BX ?_|refine AA ?_|(refine AJ ?_ (WN ?_);intro r hr)|(refine AJ ?_ (Ac ?_);rintro r ⟨hr,c,b⟩)
 all_goals ((try dsimp only[len]at*);(try first|omega|assumption|grind[AW]))
theorem T6{x:Aw}{s:List Int×Int}(h:0<=s.2/\s.2<=x.2.length/\x.2.length<=4096/\s.1.length<=s.2):Ay (Ad (J6 x) s) λr=>r.length<=x.2.length:=by
 refine AM (λ(s:List Int×Int)=>0<=s.2/\s.2<=x.2.length/\x.2.length<=4096/\s.1.length<=s.2) (λ(s:List Int×Int)=>((x.2.length:Int)-s.2).toNat) h (λs b=>?_);unfold J6;repeat' with_reducible first|refine AC ?_ ?_<;>intro a|refine AF ?_ ?_<;>intro a|refine AA ?_|(refine AJ ?_ (N4 ?_);intro r hr)|(refine AJ ?_ (AE ?_ ?_);rintro r ⟨hr,c⟩)
 all_goals ((try dsimp only[len]at*);(try first|omega|assumption|grind[AW]))
theorem WM{x:Aw}(h:F7 x):Ay (I9 x) λr=>r.length<=4096:=by
 unfold I9;repeat' with_reducible first|refine AF ?_ ?_<;>intro a|(refine BE ?_;try dsimp only)|refine BP ?_|refine BX ?_|refine AA ?_|(refine AJ ?_ (Ey ?_);intro r hr)|(refine AJ ?_ (T6 ?_);intro r hr)
 all_goals ((try dsimp only[len]at*);(try first|omega|assumption|grind[AW,W3]))
theorem Xi{x:Aw×Int}{b:Ao×Bool}{s:List Int×Int}(h:0<=s.2/\s.2<=x.1.1.length/\x.1.1.length<=1024/\s.1.length<=s.2):Ay (Ad (N1 x b) s) λr=>r.length<=x.1.1.length:=by
 refine AM (λ(s:List Int×Int)=>0<=s.2/\s.2<=x.1.1.length/\x.1.1.length<=1024/\s.1.length<=s.2) (λ(s:List Int×Int)=>((x.1.1.length:Int)-s.2).toNat) h (λs c=>?_);unfold N1;repeat' with_reducible first|refine AC ?_ ?_<;>intro a|refine AF ?_ ?_<;>intro a|(refine BE ?_;try dsimp only)|refine BP ?_|refine BX ?_|refine AA ?_|(refine AJ ?_ (N4 ?_);intro r hr)|(refine AB (GC) ?_;intro r hr)|(refine AJ ?_ (AE ?_ ?_);rintro r ⟨hr,d⟩)
 all_goals ((try dsimp only[len]at*);(try first|omega|assumption|grind[AW]))
theorem Xj{x:Aw×Int}{b:Ao×Bool}{s:List Int×Int}(h:0<=s.2/\s.2<=x.1.2.length/\x.1.2.length<=1024/\s.1.length<=s.2+1024):Ay (Ad (N2 x b) s) λr=>r.length<=4096:=by
 refine AM (λ(s:List Int×Int)=>0<=s.2/\s.2<=x.1.2.length/\x.1.2.length<=1024/\s.1.length<=s.2+1024) (λ(s:List Int×Int)=>((x.1.2.length:Int)-s.2).toNat) h (λs c=>?_);unfold N2;repeat' with_reducible first|refine AC ?_ ?_<;>intro a|refine AL ?_ ?_<;>intro a|refine AF ?_ ?_<;>intro a|(refine BE ?_;try dsimp only)|refine BP ?_|refine BX ?_|refine AA ?_|(refine AJ ?_ (N4 ?_);intro r hr)|(refine AB (GC) ?_;intro r hr)|(refine AJ ?_ (AE ?_ ?_);rintro r ⟨hr,d⟩)
 all_goals ((try dsimp only[len]at*);(try first|omega|assumption|grind[AW]))
def KY{x:Aw×Int}(h:F7 x.1):Ay (Hr x) λr=>r.length<=4096:=by unfold Hr;refine AB (H8 h) λg d=>?_;refine AO (λ_=>AA (by simp)) (λb=>?_);have c:=d b;unfold W3 at c;refine AB (Xi ⟨by simp,by simp,by omega,by simp⟩) λi f=>?_;refine AB (Xj ⟨by simp,by simp,by omega,by dsimp only;omega⟩) λe a=>?_;exact AA a
theorem Oo{x:Aw×List Int×Int}{a:List Int}{s:Int}(h:0<=s/\s<=a.length/\(a.length:Int)<=16777216/\1<=x.2.1.length/\x.2.1.length<=4096):Ay (Ad (K0 x a) s) λr=> ∀u,r= .inl u->u=x.2.1:=by
 refine AM (λ(s:Int)=>0<=s/\s<=a.length/\(a.length:Int)<=16777216/\1<=x.2.1.length/\x.2.1.length<=4096) (λ(s:Int)=>((a.length:Int)-s).toNat) h (λs c=>?_);unfold K0;repeat' with_reducible first|refine AC ?_ ?_<;>intro b|refine AQ ?_ ?_<;>intro b|refine AF ?_ ?_<;>intro b|refine AA ?_|(refine AJ ?_ (AE ?_ ?_);rintro r ⟨hr,d⟩)
 all_goals ((try dsimp only[len]at*);(try first|omega|assumption|grind[AW]))
theorem Ub{x:Aw×List Int×Int}{b:Int}{s:Bool×Int}(h:0<=s.2/\s.2<=x.2.1.length/\x.2.1.length<=4096):Ay (Ad (K1 x b) s) λr=>True:=by
 refine AM (λ(s:Bool×Int)=>0<=s.2/\s.2<=x.2.1.length/\x.2.1.length<=4096) (λ(s:Bool×Int)=>((x.2.1.length:Int)-s.2).toNat) h (λs c=>?_);unfold K1;repeat' with_reducible first|refine AC ?_ ?_<;>intro a|refine AQ ?_ ?_<;>intro a|refine AF ?_ ?_<;>intro a|refine AA ?_|(refine AJ ?_ (AE ?_ ?_);rintro r ⟨hr,d⟩)
 all_goals ((try dsimp only[len]at*);(try first|omega|assumption|grind[AW]))
def yT(d:Nat){x:Aw×List Int×Int}(h:F7 x.1)(o:1<=x.2.1.length)(A:(x.2.1.length:Int)+d=x.2.2)(p:x.2.2<=4096):Ay (dE EW (d+1) x) λr=>r.length<=4096:=by
 induction d generalizing x with
 |zero=>show Ay (EW _ x) _;unfold EW;have e:=AW (x:=(x.2.1.length:Int)-1);refine AB (AE (by simp only[len];rw[e];omega) (by simp only[len];rw[e];omega)) λv _=>?_;refine AB (KY h) λm f=>?_;refine AQ (λ_=>?_) (λc=>absurd (by simp only[len];omega) c);refine AB (Oo ⟨by simp,by simp,by omega,o,by omega⟩) λr hr=>?_;exact A2 (λu a=>AA (by rw[hr u a];omega)) (λ_ _=>AA (by simp))
 |succ d t=>show Ay (EW _ x) _;unfold EW;have e:=AW (x:=(x.2.1.length:Int)-1);refine AB (AE (by simp only[len];rw[e];omega) (by simp only[len];rw[e];omega)) λv _=>?_;refine AB (KY h) λm f=>?_;refine AQ (λ_=>?_) (λ_=>?_);refine AB (Oo ⟨by simp,by simp,by omega,o,by omega⟩) λr hr=>?_;exact A2 (λu a=>AA (by rw[hr u a];omega)) (λ_ _=>AA (by simp));refine AB (P:=λr=> ∀u,r= .inl u->u.length<=4096) ?_ λr hr=>A2 (λu a=>AA (hr u a)) (λ_ _=>AA (by simp));refine AM (λ(s:Int)=>0<=s/\s<=m.length) (λ(s:Int)=>((m.length:Int)-s).toNat) (s:=(0:Int)) ⟨by decide,by omega⟩ (λs q=>?_);unfold Px;have b:=AW (x:=s+1);refine AC (λc=>?_) (λ_=>AA (λu a=>by cases a));simp only[len]at c;refine AB (AE q.1 c) λB _=>?_;refine AB (Ub ⟨by simp,by simp,by omega⟩) λw _=>?_;refine AF (λ_=>AA ⟨by rw[b];omega,by rw[b];omega⟩) (λ_=>?_);refine AB (Ac (by simp;omega)) λy g=>?_;have k:=g.2.1;simp only[Bt]at k;refine AB (Ac (by simp;omega)) λn i=>?_;have l:=i.2.1;simp only[BV,Bt]at l;refine AB (t (x:=(x.1,n,x.2.2)) h (by dsimp only;omega) (by dsimp only;omega) p) λz j=>?_;exact AC (λ_=>AA λu a=>by cases a;exact j) (λ_=>AA ⟨by rw[b];omega,by rw[b];omega⟩)
def Xk{x:Aw×List Int×Int}(h:F7 x.1)(a:1<=x.2.1.length)(d:(x.2.1.length:Int)<=x.2.2)(b:x.2.2<=4096):Ay (N3 x) λr=>True:=by obtain⟨r,hr,_⟩:=yT (x.2.2-x.2.1.length).toNat h a (by omega) b;obtain⟨s,c⟩:=aX hr;exact⟨s,c,trivial⟩
def ZG{x:Aw×Int}(h:F7 x.1):Ay (KX x) λr=>True:=by unfold KX;refine AB (P:=λ_=>True) ?_ λr _=>A2 (λ_ _=>AA trivial) (λ_ _=>AA trivial);refine AM (λs=>1<=s/\s<=4097) (λs=>(4097-s).toNat) ⟨by decide,by decide⟩ (λs d=>?_);unfold QW;have a:=AW (x:=s+1);refine AB (WM h) λe c=>?_;refine AC (λb=>?_) (λ_=>AA trivial);simp only[len]at b;refine AB (Xk h (by simp) (by show(1:Int)<=s;omega) (by show s<=4096;omega)) λf _=>?_;exact AC (λ_=>AA trivial) (λ_=>AA ⟨by rw[a];omega,by rw[a];omega⟩)
def TP(l:List Ah):Nat:=(l.map λt=>t.2.2.2.2.1.length+1).sum
theorem AAY{l:List Ah}{i:Nat}{o n:Ah}(h:l[i]? =some o):TP (l.set i n)+o.2.2.2.2.1.length=TP l+n.2.2.2.2.1.length:=by
 induction l generalizing i with
 |nil=>simp at h
 |cons t r a=>
  cases i with
  |zero=>simp at h;subst h;simp[TP];omega
  |succ i=>have:=a (i:=i) (by simpa using h);simp only[TP,List.set_cons_succ,BZ,S6]at*;omega
def nA{l:List Ah}{id:Int}:TP (l.filter λt=>t.1 !=id)<=TP l:=by
 induction l with
 |nil=>simp
 |cons t r a=>simp only[dl];split;simp only[TP,BZ,S6]at*;omega;simp only[TP,BZ,S6]at*;omega
def oM{l:List Ah}{id:Int}{i:Nat}{t:Ah}(h:l[i]? =some t)(a:t.1=id):TP (l.filter λt=>t.1 !=id)<TP l:=by
 induction l generalizing i with
 |nil=>simp at h
 |cons u r b=>
  have q:=nA (l:=r) (id:=id);cases i with
  |zero=>simp at h;subst h;simp only[dl,a,bne_self_eq_false,Iz,if_false];simp only[TP,BZ,S6]at*;omega
  |succ i=>have:=b (i:=i) (by simpa using h);simp only[dl];split<;>(simp only[TP,BZ,S6]at*;omega)
theorem Vc{x:List Ah×Int}{s:Int×List Ah}(h:0<=s.1/\s.1<=x.1.length/\x.1.length<=64/\s.2.length=s.1):Ay (Ad (MK x) s) λr=>r.length<=x.1.length:=by
 refine AM (λ(s:Int×List Ah)=>0<=s.1/\s.1<=x.1.length/\x.1.length<=64/\s.2.length=s.1) (λ(s:Int×List Ah)=>((x.1.length:Int)-s.1).toNat) h (λs c=>?_);unfold MK;repeat' with_reducible first|refine AC ?_ ?_<;>intro a|refine AF ?_ ?_<;>intro a|refine AA ?_|(refine AJ ?_ (AE ?_ ?_);rintro r ⟨hr,e⟩)|(refine AJ ?_ (Ac ?_);rintro r ⟨hr,d,b⟩)
 all_goals ((try dsimp only[len]at*);(try first|omega|assumption|grind[AW]))
theorem Rb{x:List Ah×Int}:Ay (IL x) λr=>r.2=0->r.1.length=x.1.length+1/\r.1.length<=64:=by
 unfold IL;repeat' with_reducible first|refine AC ?_ ?_<;>intro a|refine AO ?_ ?_<;>intro a|refine AQ ?_ ?_<;>intro a|refine AF ?_ ?_<;>intro a|refine AA ?_|(refine AB (De) ?_;intro r hr)|(refine AJ ?_ (Hj ?_);intro r hr)|(refine AJ ?_ (Vc ?_);intro r hr)|(refine AJ ?_ (Ac ?_);rintro r ⟨hr,b,c⟩)|(refine AJ ?_ (Bu ?_ ?_ ?_);rintro r ⟨hr,b⟩)
 all_goals ((try dsimp only[len]at*);(try first|omega|assumption|grind[AW,V2]))
def vJ(l:List Ah)(id:Int):List Ah:=l.filter λt=>t.1 !=id
theorem g8(l:List Ah)(id:Int):(vJ l id).length<=l.length:=LC _ _
theorem zV(l:List Ah)(id:Int):TP (vJ l id)<=TP l:=nA
theorem zW{l:List Ah}{id:Int}{i:Nat}{t:Ah}(h:l[i]? =some t)(a:t.1=id):TP (vJ l id)<TP l:=oM h a
def iu{a:Type}{l:List a}{n:Int}{p:a->Bool}{x:a}(c:0<=n)(b:l[n.toNat]? =some x):(l.take (n+1).toNat).filter p=(l.take n.toNat).filter p++(if p x=true then [x]else []):=by
 have e:(n+1).toNat=n.toNat+1:=by omega
 rw[e,D5,b,Jz,Jp];congr 1;simp only[dl,YH]
def lU{a:Type}{l:List a}{n:Int}{p:a->Bool}(b:0<=n):(((l.take n.toNat).filter p).length:Int)<=n:=by have c:=LC p (l.take n.toNat);have d:=CH (i:=n.toNat) (l:=l);omega
def Uh{x:List Ah×Int}{s:Int×List Ah}(h:0<=s.1/\s.1<=x.1.length/\x.1.length<=16777216/\s.2=(x.1.take s.1.toNat).filter (λt=>t.1 !=x.2)):Ay (Ad (K4 x) s) λr=>r=x.1.filter λt=>t.1 !=x.2:=by
 refine AM (λ(s:Int×List Ah)=>0<=s.1/\s.1<=x.1.length/\x.1.length<=16777216/\s.2=(x.1.take s.1.toNat).filter (λt=>t.1 !=x.2)) (λ(s:Int×List Ah)=>((x.1.length:Int)-s.1).toNat) h (λs g=>?_);unfold K4;obtain⟨b,j,f,c⟩:=g;have a:=lU (l:=x.1) (p:=λt:Ah=>t.1 !=x.2) b;rw[<-c]at a;repeat' with_reducible first|apply AC<;>intro d|apply AL<;>intro d|apply AF<;>intro d|(apply BE;try dsimp only)|apply BP|apply BX|apply AA|(refine AJ ?_ (AE ?_ ?_);rintro r ⟨hr,m⟩)|(refine AJ ?_ (Ac ?_);rintro r ⟨hr,k,i⟩)
 all_goals dsimp only[len]at*
 all_goals first|omega|(have e:=AW (x:=s.1+1);rw[e];refine⟨⟨by omega,by omega,f,?_⟩,by omega⟩;rw[iu b (by assumption)];grind)|(rw[c,Cb (by omega)])|(simp;omega)
theorem Ii{x:List Ah×Int}(h:x.1.length<=16777216):Ay (GY x) λr=>r=vJ x.1 x.2:=by
 unfold GY vJ
 repeat' first
   |with_reducible refine AF ?_ ?_<;>intro a
   |(with_reducible refine BE ?_;try dsimp only)
   |with_reducible refine BP ?_
   |with_reducible refine BX ?_
   |with_reducible refine AA ?_
   |(with_reducible refine AJ ?_ (Uh ?_);intro r hr)
 all_goals ((try dsimp only[len]at*);(try first|omega|assumption|grind[AW]))
theorem MM{x:Ah}(h:x.2.2.2.2.1.length<=16777216):Ay (Hk x) λr=>r.1=x.1/\r.2.2.2.2=x.2.2.2.2:=by
 unfold Hk;repeat' with_reducible first|refine AC ?_ ?_<;>intro a|refine AQ ?_ ?_<;>intro a|refine AF ?_ ?_<;>intro a|(refine BE ?_;try dsimp only)|refine BP ?_|refine BX ?_|refine AA ?_|(refine AJ ?_ (AE ?_ ?_);rintro r ⟨hr,b⟩)
 all_goals ((try dsimp only[len]at*);(try first|omega|assumption|grind[AW]))
def Kc{x:List Ah×Int×Ah}(h:x.1.length<=16777216)(a:0<=x.2.1/\x.2.1<x.1.length):Ay (Ht x) λr=>r=x.1.set x.2.1.toNat x.2.2:=by unfold Ht;refine AB (Ac (by simpa using h)) λr hr=>?_;obtain⟨hr,b,_⟩:=hr;rw[CD]at hr;subst hr;refine AB (AE a.1 a.2) λ_ _=>?_;refine AB (AE a.1 a.2) λ_ _=>?_;exact AA rfl
theorem Pz{x:List Ah×AD}{a:Ah}{s:Int×List Int}(h:0<=s.1/\s.1<=a.2.2.2.2.1.length/\a.2.2.2.2.1.length<=4096/\s.2.length<=s.1):Ay (Ad (ND x a) s) λr=>r.length<=a.2.2.2.2.1.length:=by
 refine AM (λ(s:Int×List Int)=>0<=s.1/\s.1<=a.2.2.2.2.1.length/\a.2.2.2.2.1.length<=4096/\s.2.length<=s.1) (λ(s:Int×List Int)=>((a.2.2.2.2.1.length:Int)-s.1).toNat) h (λs d=>?_);unfold ND;repeat' with_reducible first|refine AC ?_ ?_<;>intro b|refine AL ?_ ?_<;>intro b|refine AF ?_ ?_<;>intro b|(refine BE ?_;try dsimp only)|refine BP ?_|refine BX ?_|refine AA ?_|(refine AJ ?_ (AE ?_ ?_);rintro r ⟨hr,f⟩)|(refine AJ ?_ (Ac ?_);rintro r ⟨hr,e,c⟩)
 all_goals ((try dsimp only[len]at*);(try first|omega|assumption|grind[AW]))
def cS(l:List Ah)(id:Int):Prop:= ∃(j:Nat) (t:Ah),l[j]? =some t/\t.1=id
theorem cS.set{l:List Ah}{i:Nat}{n:Ah}{id:Int}(h:i<l.length)(hn:n.1=id):cS (l.set i n) id:=⟨i,n,by rw[G8 h],hn⟩
def tL(l:List Ah)(kind tx:Int)(m:List Ah):Prop:=m.length<=l.length/\(tx=0->m=l)/\(tx≠0->kind≠1->(kind≠4->TP m<TP l)/\TP m<=TP l)/\(tx≠0->kind=4->cS m tx)
def aj{x:List Ah×AD}:Ay (GF x) λr=>r.2=0->tL x.1 x.2.2.1 x.2.2.2.1 r.1:=by
 unfold GF;repeat' with_reducible first|apply AC<;>intro a|apply AO<;>intro a|apply AQ<;>intro a|apply AL<;>intro a|apply AF<;>intro a|(apply BE;try dsimp only)|apply BP|apply BX|apply L4|(apply BF;try dsimp only)|(apply BC;try dsimp only)|(apply A2<;>(intro u c;try subst c))|apply AA|(apply AB (De);intro r hr)|(apply AB (B9);intro r hr)|(refine AJ ?_ (Hj ?_);intro r hr)|(refine AJ ?_ (Pz ?_);intro r hr)|(refine AJ ?_ (Ii ?_);intro r hr)|(refine AJ ?_ (MM ?_);intro r hr)|(refine AJ ?_ (Kc ?_ ?_);intro r hr)|(refine AJ ?_ (AE ?_ ?_);rintro r ⟨hr,f⟩)|(refine AJ ?_ (Ac ?_);rintro r ⟨hr,e,b⟩)
 all_goals dsimp only[len]at*
 all_goals first|omega|(intro d;exact absurd d (by decide))|(unfold V2 xz at*;(first|omega|grind[tL,AAY,zW,zV,g8,List.length_set,cS.set]))
theorem Qd{x:List Ah×Int}:Ay (Hi x) λr=>r.2=0->V2 x.1/\0<=r.1/\r.1<x.1.length:=by
 unfold Hi;repeat' with_reducible first|refine AC ?_ ?_<;>intro a|refine AO ?_ ?_<;>intro a|refine AL ?_ ?_<;>intro a|refine AF ?_ ?_<;>intro a|refine AA ?_|(refine AB (De) ?_;intro r hr)|(refine AJ ?_ (Hj ?_);intro r hr)|(refine AJ ?_ (AE ?_ ?_);rintro r ⟨hr,b⟩)
 all_goals ((try dsimp only[len]at*);(try first|omega|assumption|grind[AW,V2]))
def ak{x:List Ah×Int}:Ay (Ld x) λr=>r.2=0->r.1.length<=64:=by
 unfold Ld;repeat' with_reducible first|apply AQ<;>intro a|apply AL<;>intro a|apply AF<;>intro a|apply AA|(apply AB (Qd);intro r hr)|(refine AJ ?_ (Kc ?_ ?_);intro r hr)|(refine AJ ?_ (AE ?_ ?_);rintro r ⟨hr,e⟩)|(refine AJ ?_ (Ac ?_);rintro r ⟨hr,d,b⟩)
 all_goals try dsimp only[len]at*
 all_goals first|omega|(intro c;exact absurd c (by assumption))|grind[V2,xz,List.length_set]
def ai{x:List Ah×Int×Int}:Ay (Lc x) λr=>r.2=0->r.1.length<=64:=by
 unfold Lc;repeat' with_reducible first|apply AC<;>intro a|apply AL<;>intro a|apply AF<;>intro a|apply AA|(apply AB (Qd);intro r hr)|(refine AJ ?_ (MM ?_);intro r hr)|(refine AJ ?_ (Kc ?_ ?_);intro r hr)|(refine AJ ?_ (AE ?_ ?_);rintro r ⟨hr,e⟩)|(refine AJ ?_ (Ac ?_);rintro r ⟨hr,b,c⟩)|(refine AJ ?_ (Bu ?_ ?_ ?_);rintro r ⟨hr,b⟩)
 all_goals try dsimp only[len]at*
 all_goals first|omega|(intro d;exact absurd d (by assumption))|grind[V2,xz,List.length_set,AW]
def cL{x:BW×Int×DX}(h:x.1.length<=16777216)(a:0<=x.2.1/\x.2.1<x.1.length):Ay (Mi x) λr=>r=x.1.set x.2.1.toNat x.2.2:=by unfold Mi;refine AB (Ac (by simpa using h)) λr hr=>?_;obtain⟨hr,b,_⟩:=hr;rw[CD]at hr;subst hr;refine AB (AE a.1 a.2) λ_ _=>?_;refine AB (AE a.1 a.2) λ_ _=>?_;exact AA rfl
def SE{x:BW×AD}:Ay (HE x) λr=>r.2=0->r.1.length=x.1.length/\(x.2.2.1≠7->r.1=x.1)/\(x.2.2.1=7->0<=x.2.2.2.2.2.2.2.1.1/\ ∃w,x.1[x.2.2.2.2.2.2.2.1.1.toNat]? =some w/\r.1=x.1.set x.2.2.2.2.2.2.2.1.1.toNat ((if x.2.2.2.2.2.2.1>w.1 then x.2.2.2.2.2.2.1 else w.1),w.2)):=by
 unfold HE;refine AB Fz λv d=>?_;refine AO (λa=>AA (λb=>absurd b (by decide))) (λa=>?_);refine AB B9 λm l=>?_;refine AO (λa=>AA (λb=>absurd b (by decide))) (λg=>?_);refine AL (λa=>AA λ_=>⟨rfl,λ_=>rfl,λe=>absurd e a⟩) (λf=>?_);have d:OF x.2:=by grind
 have k:fD x.1:=by grind
 have c:0<=x.2.2.2.2.2.2.2.1.1:=by unfold OF U8 TT Oi at d;grind
 refine AC (λa=>AA (λb=>absurd b (by decide))) (λh=>?_);simp only[len]at h;refine AB (AE c) λw j=>?_;refine AB (cL (by have:=k.2;dsimp only;omega) ⟨c,by dsimp only;omega⟩) λu i=>AA λ_=>?_;subst i;exact⟨by simp,λe=>absurd f e,λ_=>⟨c,w,j.1,rfl⟩⟩
def Jk{x:AP×Int}(h:SB x.1):Ay (GG x) λr=>Bd x.1=some true->KP x.1.1 x.1.2.2.1.2.1 x.1.2.2.2.1.2.1 x.1.2.2.2.2.2.2.2 x.1.2.2.2.2.2.2.1->0<=x.2->x.2<x.1.1->r=GM x.1.2.2.1.2.1 x.2:=by unfold GG;refine EM (Bz h) λv u y=>?_;refine AO (λa=>AA λe=>?_) (λa=>?_);rw[u,a]at e;cases e;refine AC (λa=>AA λ_ _ q=>absurd q (by omega)) (λq=>?_);refine AC (λa=>AA λ_ _ _ s=>absurd s (by omega)) (λs=>?_);have d:=y a;refine AB IK λg t=>?_;refine AF (λa=>AA λ_ c j k=>?_) (λm=>?_);obtain⟨_,_,_,e,f,o,b⟩:=t.1 a;have:=(c x.2 j k).1 f o (by rw[b];exact e);rw[b]at this;exact this;refine AB (JC h) λl p=>?_;refine AF (λa=>AA λ_ c j k=>(c x.2 j k).2.1 _ (p.1 a).1 (p.1 a).2) (λn=>?_);refine AB (AE (by omega) (by have:=d.2.2.2.2.2.2.2;omega)) λr hr=>AA λ_ c j k=>?_;exact((c x.2 j k).2.2 r hr.1).2 (p.2 n) λf o e=>by obtain⟨i,w⟩:=Eu o;exact absurd ⟨i,f,w,e⟩ (t.2 m d.2.2.2.1)
def LX(a b:Aj):Prop:=b.1=a.1/\ ∃t,b.2.1=a.2.1++t
def LX.refl(a:Aj):LX a a:=⟨rfl,[],by simp⟩
def LX.trans{a b c:Aj}(h:LX a b)(g:LX b c):LX a c:=by obtain⟨f,t,i⟩:=h;obtain⟨d,u,e⟩:=g;exact⟨d.trans f,t++u,by rw[e,i,Ax]⟩
def LX.get{a b:Aj}(h:LX a b){i:Nat}{e:AD}(c:a.2.1[i]? =some e):b.2.1[i]? =some e:=by obtain⟨f,t,d⟩:=h;rw[d,B6];exact c;rcases Ap i a.2.1.length with h|h;exact h;rw[Cs h]at c;cases c
def ACQ(k:AP)(z:AD)(m:AP):Prop:=
 ∃e,m.2.2.1.2.1=k.2.2.1.2.1++[e]/\e.1=k.2.2.1.1+k.2.2.1.2.1.length/\e.2.1=z.2.1/\e.2.2.2.2.2=z.2.2.2.2.2/\
  (KI k->(e.2.1=1\/e.2.1=2)->0<=e.2.2.2.2.2.2.1.1->e.2.2.2.2.2.2.1.1<k.1->e.2.2.2.2.1=GM k.2.2.1.2.1 e.2.2.2.2.2.2.1.1)/\
  (z.2.1≠7->m.2.2.2.2.2.2.1=k.2.2.2.2.2.2.1)/\
  (z.2.1=7->0<=z.2.2.2.2.2.2.1.1/\ ∃w,k.2.2.2.2.2.2.1[z.2.2.2.2.2.2.1.1.toNat]? =some w/\m.2.2.2.2.2.2.1=k.2.2.2.2.2.2.1.set z.2.2.2.2.2.2.1.1.toNat ((if z.2.2.2.2.2.1>w.1 then z.2.2.2.2.2.1 else w.1),w.2))
def rM(k:AP)(z:AD)(m:AP):Prop:=
 m.1=k.1/\LX k.2.2.1 m.2.2.1/\D2 m.2.2.1/\m.2.2.2.1=k.2.2.2.1/\m.2.2.2.2.1=k.2.2.2.2.1/\tL k.2.2.2.2.2.1 z.2.1 z.2.2.1 m.2.2.2.2.2.1/\m.2.2.2.2.2.2.2=k.2.2.2.2.2.2.2/\SB m/\ACQ k z m
theorem Fi{x:AP×AD}(h:SB x.1):Ay (EG x) λr=>r.2.2=0->VK x.1/\rM x.1 x.2 r.1/\r.2.1=x.1.2.2.1.1+x.1.2.2.1.2.1.length:=by
 unfold EG;refine EM (Bz h) λv q F=>?_;refine AO (λa=>AA (λc=>absurd c (by decide))) (λa=>?_);have n:=F a;rw[a]at q;refine AB (P:=λs=>(∃u,s= .inl u/\u.2.1≠0)\/ ∃u,s= .inr u/\u.1.2.1=x.2.2.1/\u.1.2.2.1=x.2.2.2.1/\u.1.2.2.2.2.2=x.2.2.2.2.2.2) ?_ λs E=>?_
 ·repeat' with_reducible first|refine AC ?_ ?_<;>intro a|refine AO ?_ ?_<;>intro a|refine AL ?_ ?_<;>intro a|refine AF ?_ ?_<;>intro a|(refine BE ?_;try dsimp only)|refine BP ?_|refine BX ?_|refine L4 ?_|(refine BF ?_;try dsimp only)|(refine BC ?_;try dsimp only)|(refine A2 ?_ ?_<;>(intro u b;try subst b))|refine AA ?_|(refine AJ ?_ (FM ?_);intro r hr)|(refine AJ ?_ (AE ?_ ?_);rintro r ⟨hr,O⟩)
  all_goals ((try dsimp only[len]at*);(try first|omega|assumption|grind[AW,SB]))
 rcases E with⟨u,rfl,b⟩|⟨u,rfl,b⟩;exact BF (AA λc=>absurd c b);refine BC ?_;refine AB (Bv) λQ A=>?_;refine AB (P:=λv:AD=>v.2.1=x.2.2.1/\v.2.2.1=x.2.2.2.1/\v.2.2.2.2.2=x.2.2.2.2.2.2/\(KI x.1->(v.2.1=1\/v.2.1=2)->0<=v.2.2.2.2.2.2.1.1->v.2.2.2.2.2.2.1.1<x.1.1->v.2.2.2.2.1=GM x.1.2.2.1.2.1 v.2.2.2.2.2.2.1.1)) ?_ λt d=>?_;refine AF (λa=>?_) (λa=>AA ⟨b.1,b.2.1,b.2.2,λ_ n=>absurd (A.2 n) (by simp[a])⟩);exact AB (Jk h) λw G=>AA ⟨b.1,b.2.1,b.2.2,λo _ H I=>G q o.2.1 H I⟩;refine AB (Xg) λi B=>?_;refine AL (λa=>AA (λc=>absurd c a)) (λa=>?_);obtain⟨a1,a2,a3,a4,a5⟩:=B a;dsimp only at a2 a3 a4 a5;refine AB (Gq) λp e=>?_;refine AB (aj) λJ l=>?_;refine AL (λa=>AA (λc=>absurd c a)) (λf=>?_);refine AB (SE) λK m=>?_;refine AL (λa=>AA (λc=>absurd c a)) (λg=>?_);refine AA λ_=>⟨n,?_⟩
 have M:=a2.1;have N:i.1.2.1.length=x.1.2.2.1.2.1.length+1:=by rw[a3];simp
 have C:=e.2 a1 (by dsimp only;omega) (by dsimp only;omega);obtain⟨L,y,k,z⟩:=e.1 C;dsimp only at y k z;have D:p.1=(i.2.1,t.2):=by
  have:(i.2.1-i.1.1).toNat=x.1.2.2.1.2.1.length:=by omega
  rw[this,a3]at k;simpa using k.symm
 have hn:=l f;have j:=(m g).2;rw[D]at hn j;dsimp only at hn j;rw[d.1,d.2.1]at hn;rw[d.1,d.2.2.1]at j;exact⟨⟨rfl,⟨a4,_,a3⟩,a1,rfl,rfl,hn,rfl,⟨h.1,by have:=hn.1;have:=h.2.1;dsimp only at*;omega,h.2.2⟩,(i.2.1,t.2),a3,a5,d.1,d.2.2.1,d.2.2.2,j⟩,a5⟩
def rM.ki{k m:AP}{z:AD}(h:rM k z m)(b:KI k)(a:z.2.1≠1/\z.2.1≠2/\z.2.1≠6/\z.2.1≠7):KI m:=by obtain⟨a1,_,_,a4,_,_,a7,_,e,c,g,d,i,j,f,l⟩:=h;unfold KI;rw[a1,a4,a7,c,f a.2.2.2];rw[<-d]at a;exact⟨b.1.app ⟨λh=>by omega,λh=>by omega,λh=>by omega⟩,b.2.1.app ⟨a.1,a.2.1⟩,b.2.2⟩
def rM.sk{k m:AP}{z:AD}(h:rM k z m)(a:SK k)(b:z.2.1≠1/\z.2.1≠2/\z.2.1≠6/\z.2.1≠7):SK m:=h.2.2.2.2.2.2.2.1.sk (h.ki a.ki b)
def DI(d:Bs):Prop:=d.1.length<=64/\(∀(i:Nat) (s:Bb),d.1[i]? =some s->s.length=256)/\d.2.2.1=[]/\d.2.2.2.2=[]
def UZ{x:Int}{s:Int×List Bb}(h:0<=s.1/\s.1<=x/\x<=64/\s.2.length=s.1/\ ∀(i:Nat) (t:Bb),s.2[i]? =some t->t.length=256):Ay (Ad (Ky x) s) λr=>(r.length:Int)=x/\ ∀(i:Nat) (t:Bb),r[i]? =some t->t.length=256:=by
 refine AM (λ(s:Int×List Bb)=>0<=s.1/\s.1<=x/\x<=64/\s.2.length=s.1/\ ∀(i:Nat) (t:Bb),s.2[i]? =some t->t.length=256) (λ(s:Int×List Bb)=>(x-s.1).toNat) h (λs c=>?_);unfold Ky;have⟨f,g,a,j,b⟩:=c;have k:(Gv (List.replicate (Int.toNat 256) 0)).length=256:=by rw[LJ,List.length_replicate];rfl
 repeat' with_reducible first|apply AC<;>intro d|apply AF<;>intro d|apply AA|(refine AJ ?_ (Ac ?_);rintro r ⟨hr,l,e⟩)
 all_goals first|omega|(generalize Gv (List.replicate (Int.toNat 256) 0)=bs at*;simp;omega)|(generalize Gv (List.replicate (Int.toNat 256) 0)=bs at*;rw[(AW (x:=s.1+1))];refine⟨⟨by omega,by omega,a,by grind,?_⟩,by omega⟩;grind)|(exact⟨by omega,b⟩)
def QU{x:Int}(h:0<=x/\x<=64):Ay (Jd x) λr=>(r.length:Int)=x/\ ∀(i:Nat) (t:Bb),r[i]? =some t->t.length=256:=by
 unfold Jd;repeat' with_reducible first|apply AA|(refine AJ ?_ (UZ ?_);intro r hr)
 all_goals ((try dsimp[len]at*);(try first|omega|assumption|grind[AW]))
def cG{x:Int}:Ay (Hp x) λr=>r.2=0->DI r.1/\r.1.1.length=x:=by
 unfold Hp;repeat' with_reducible first|apply AC<;>intro a|apply AF<;>intro a|apply AA|(refine AJ ?_ (QU ?_);intro r hr)
 all_goals ((try dsimp[len]at*);(try first|omega|assumption|grind[DI]))
def ZC{x:Bs×Co}:Ay (KU x) λr=>True:=by
 unfold KU;repeat' with_reducible first|apply AC<;>intro a|apply AQ<;>intro a|apply AF<;>intro a|(apply BE;try dsimp only)|apply BP|apply BX|apply L4|(apply BF;try dsimp only)|(apply BC;try dsimp only)|(apply A2<;>(intro u b;try subst b))|apply AA
 all_goals trivial
def VS{x:Bs}{s:Int}(h:0<=s/\s<=x.1.length/\(x.1.length:Int)<=16777216):Ay (Ad (L7 x) s) λr=>r≠ .inl true:=by
 refine AM (λ(s:Int)=>0<=s/\s<=x.1.length/\(x.1.length:Int)<=16777216) (λ(s:Int)=>((x.1.length:Int)-s).toNat) h (λs b=>?_);unfold L7;repeat' with_reducible first|apply AC<;>intro a|apply AL<;>intro a|apply AF<;>intro a|apply AA|(refine AJ ?_ (AE ?_ ?_);rintro r ⟨hr,c⟩)
 all_goals ((try dsimp[len]at*);(try first|omega|assumption|grind[AW]))
def VT{x:Bs}{s:Int}(h:0<=s/\s<=x.2.2.1.length/\(x.2.2.1.length:Int)<=16777216):Ay (Ad (L8 x) s) λr=>r≠ .inl true:=by
 refine AM (λ(s:Int)=>0<=s/\s<=x.2.2.1.length/\(x.2.2.1.length:Int)<=16777216) (λ(s:Int)=>((x.2.2.1.length:Int)-s).toNat) h (λs b=>?_);unfold L8;repeat' with_reducible first|apply AC<;>intro a|apply AF<;>intro a|apply AA|(refine AJ ?_ (AE ?_ ?_);rintro r ⟨hr,c⟩)
 all_goals ((try dsimp[len]at*);(try first|omega|assumption|grind[AW]|((try simp (disch:=omega) only[AW,len]at*)<;>(try intros)<;>(try and_intros)<;>(try intros)<;>(first|omega|assumption|grind))))
def VU{x:Bs}{s:Int}(h:0<=s/\s<=x.2.2.2.2.length/\(x.2.2.2.2.length:Int)<=16777216):Ay (Ad (L9 x) s) λr=>r≠ .inl true:=by
 refine AM (λ(s:Int)=>0<=s/\s<=x.2.2.2.2.length/\(x.2.2.2.2.length:Int)<=16777216) (λ(s:Int)=>((x.2.2.2.2.length:Int)-s).toNat) h (λs b=>?_);unfold L9;repeat' with_reducible first|apply AC<;>intro a|apply AO<;>intro a|apply AF<;>intro a|apply AA|(apply AB (ZC);intro r hr)|(refine AJ ?_ (AE ?_ ?_);rintro r ⟨hr,c⟩)
 all_goals ((try dsimp[len]at*);(try first|omega|assumption|grind[AW]))
def ZA{x:Bs}(h:x.2.2.1.length<=16777216):Ay (KT x) λr=>r=true->1<=x.1.length/\x.1.length<=64:=by
 unfold KT;repeat' with_reducible first|apply AC<;>intro a|apply AF<;>intro a|(apply BF;try dsimp only)|(apply BC;try dsimp only)|(apply A2<;>(intro u b;try subst b))|apply AA|(refine AJ ?_ (VS ?_);intro r hr)|(refine AJ ?_ (VT ?_);intro r hr)|(refine AJ ?_ (VU ?_);intro r hr)
 all_goals ((try dsimp[len]at*);(try first|omega|assumption|grind[AW]))
def MD{x:Bs×Int}(h:x.1.2.2.1.length<=16777216):Ay (GV x) λr=>r=0->0<=x.2/\x.2<x.1.1.length/\x.1.1.length<=64:=by
 unfold GV;repeat' with_reducible first|apply AC<;>intro a|apply AO<;>intro a|apply AF<;>intro a|apply AA|(refine AJ ?_ (ZA ?_);intro r hr)
 all_goals ((try dsimp[len]at*);(try first|omega|assumption|grind[AW]))
def T4{x:List Int×Int}{s:Int×List Int}(h:0<=s.1/\s.1<=x.1.length/\x.1.length<=16777216/\s.2.length<=s.1):Ay (Ad (J4 x) s) λr=>r.length<=x.1.length:=by
 refine AM (λ(s:Int×List Int)=>0<=s.1/\s.1<=x.1.length/\x.1.length<=16777216/\s.2.length<=s.1) (λ(s:Int×List Int)=>((x.1.length:Int)-s.1).toNat) h (λs c=>?_);unfold J4;repeat' with_reducible first|apply AC<;>intro a|apply AL<;>intro a|apply AF<;>intro a|(apply BE;try dsimp only)|apply BP|apply BX|apply AA|(refine AJ ?_ (AE ?_ ?_);rintro r ⟨hr,e⟩)|(refine AJ ?_ (Ac ?_);rintro r ⟨hr,d,b⟩)
 all_goals ((try dsimp[len]at*);(try first|omega|assumption|grind[AW]))
def Pv{x:List Int×Int}(h:x.1.length<=16777216):Ay (Ex x) λr=>r.length<=x.1.length:=by
 unfold Ex;repeat' with_reducible first|apply AA|(refine AJ ?_ (T4 ?_);intro r hr)
 all_goals ((try dsimp[len]at*);(try first|omega|assumption|grind[AW]))
def Xc{x:List Int×Int}{s:Int}(h:0<=s/\s<=x.1.length/\(x.1.length:Int)<=16777216):Ay (Ad (Nz x) s) λr=>True:=by
 refine AM (λ(s:Int)=>0<=s/\s<=x.1.length/\(x.1.length:Int)<=16777216) (λ(s:Int)=>((x.1.length:Int)-s).toNat) h (λs b=>?_);unfold Nz;repeat' with_reducible first|apply AC<;>intro a|apply AQ<;>intro a|apply AF<;>intro a|apply AA|(refine AJ ?_ (AE ?_ ?_);rintro r ⟨hr,c⟩)
 all_goals ((try dsimp[len]at*);(try first|omega|assumption|grind[AW]))
def cH{x:List Int×Int}(h:x.1.length<=16777216):Ay (Mf x) λr=>True:=by
 unfold Mf;repeat' with_reducible first|(apply BF;try dsimp only)|(apply BC;try dsimp only)|(apply A2<;>(intro u a;try subst a))|apply AA|(refine AJ ?_ (Xc ?_);intro r hr)
 all_goals ((try dsimp[len]at*);(try first|omega|assumption|grind[AW]))
def aa{x:Bs×Int}(h:DI x.1):Ay (LR x) λr=>r.2=0->r.1.length=256:=by
 unfold LR;repeat' with_reducible first|apply AL<;>intro a|apply AF<;>intro a|apply AA|(refine AJ ?_ (MD ?_);intro r hr)|(refine AJ ?_ (cH ?_);intro r hr)|(refine AJ ?_ (AE ?_ ?_);rintro r ⟨hr,b⟩)
 all_goals ((try dsimp[len]at*);(try first|omega|assumption|grind[DI]))
def DI.set{d:Bs}{l:List Bb}{i:Int}{t:Bb}{u:List Int}{w:Int}{b:Bool}(h:DI d)(c:l=d.1)(n:t.length=256)(e:u.length<=([]:List Int).length):DI (BR l i t,w,u,b,[]):=by subst c;have⟨a,f,g,k⟩:=h;refine⟨by simpa[BR]using a,λj s m=>?_,List.length_eq_zero_iff.1 (by simpa using e),rfl⟩;grind[BR]
def ol{d:Bs}{l:List Bb}{i:Int}{t:Bb}{u v:List Int}{f:List Co}{w:Int}{b:Bool}(h:DI d)(c:l=[]++d.1)(e:t.length=256)(g:u.length<=v.length)(j:v=[]++[])(a:f=[]++[]):DI (BR l i t,w,u,b,f):=by subst a j;exact h.set (by simpa using c) e (by simpa using g)
def ab{x:Bs×Int×Bb×Int}(h:DI x.1):Ay (LU x) λr=>r.2=0->DI r.1:=by
 have⟨f,g,b,c⟩:=h;unfold LU;rw[b,c];repeat' with_reducible first|apply AC<;>intro d|apply AL<;>intro d|apply AF<;>intro d|apply AA|(refine AJ ?_ (MD ?_);intro r hr)|(refine AJ ?_ (Pv ?_);intro r hr)|(refine AJ ?_ (AE ?_ ?_);rintro r ⟨hr,j⟩)|(refine AJ ?_ (Ac ?_);rintro r ⟨hr,e,i⟩)|(refine AJ ?_ (CY ?_);rintro r ⟨hr,e⟩)|(refine AJ ?_ (Dr ?_ ?_ ?_);rintro r ⟨hr,e⟩)
 all_goals first|omega|(intro a;exact absurd a (by assumption))|(intro a;exact absurd a (by decide))|(simp;done)|(simp;omega)|(exact λ_=>ol ⟨f,g,b,c⟩ (by assumption) (by grind) hr (by assumption) (by assumption))|grind
def ZB{x:Bs×Int×Bb}(h:DI x.1):Ay (Oa x) λr=>r.2=0->DI r.1/\r.1.1.length=x.1.1.length:=by
 have⟨A,B,g,i⟩:=h;refine AB (MD (by dsimp only;rw[g];simp)) λC p=>?_;refine AL (λb=>AA (λc=>absurd c b)) (λb=>?_);refine AL (λb=>AA (λc=>absurd c (by decide))) (λf=>?_);refine AQ (λb=>AA (λc=>absurd c (by decide))) (λo=>?_);refine AB (Ac (by simp;omega)) λw q=>?_;refine AB (Ac (by rw[g];simp)) λy t=>?_;refine AB (Ac (by rw[i];simp)) λz u=>?_;have k:w=x.1.1:=by grind
 have l:y=[]:=by grind
 have m:z=[]:=by grind
 subst k l m;have l1: ∀s,s.1=0->Ad (MA x) s=some s.2:=λs d=>by rw[Ce];unfold MA;rw[i,d];rfl
 rw[l1 _ rfl];apply BE;have l2: ∀a s,a.1=[]->s.2.1=0->Ad (MB x a) s=some (s.1,(s.2.2.2.2.2.2.1,(s.2.2.2.2.2.1,s.2.2.2.2.2.2.2))):=λa s e d=>by rw[Ce];unfold MB;rw[e,d];rfl
 have v: ∀a s,a.1=[]->s.1=0->Ad (MC a) s=some (s.2.2.2.2.2.1,(s.2.2.2.2.1,s.2.2.2.2.2.2)):=λa s e d=>by rw[Ce];unfold MC;rw[e,d];rfl
 rw[l2 _ _ rfl rfl];repeat' with_reducible first|apply AC<;>intro b|apply AO<;>intro b|apply AQ<;>intro b|apply AL<;>intro b|apply AF<;>intro b|(apply BE;try dsimp only)|apply BP|apply BX|apply AA|(rw[v _ _ rfl rfl];apply BE;dsimp only)|(refine AJ ?_ (Pv ?_);intro r hr)|(refine AJ ?_ (AE ?_ ?_);rintro r ⟨hr,o⟩)|(refine AJ ?_ (Ac ?_);rintro r ⟨hr,j,n⟩)|(refine AJ ?_ (CY ?_);rintro r ⟨hr,j⟩)|(refine AJ ?_ (Dr ?_ ?_ ?_);rintro r ⟨hr,j⟩)
 all_goals first|omega|(simp;done)|(intro c;exact absurd c (by decide))|(exact λ_=>⟨h.set rfl (by grind) hr,by simp[BR]⟩)|(cases b;done)|grind
def DC(p:BY):Nat:=p.2.1.countP λf=>f.2.1
def UC(p:BY):Nat:=p.2.1.countP λf=>f.2.2.2
def r9{a:Type}{l:List a}{i:Nat}{o n:a}{q:a->Bool}(h:l[i]? =some o):(l.set i n).countP q+(if q o=true then 1 else 0)=l.countP q+(if q n=true then 1 else 0):=by grind
theorem Ka{x:BY×Int×A0}(h:x.1.2.1.length<=16777216)(a:0<=x.2.1/\x.2.1<x.1.2.1.length):Ay (Hs x) λr=>r=(x.1.1,x.1.2.1.set x.2.1.toNat x.2.2,x.1.2.2):=by refine AB (Ac (by simpa using h)) λr hr=>?_;have⟨hr,b,_⟩:=hr;subst hr;refine AB (AE a.1 a.2) λ_ _=>?_;refine AB (AE a.1 a.2) λ_ _=>?_;exact AA rfl
def gT(f:A0):A8×Bool×Int:=(f.1,f.2.1,f.2.2.1)
def CF(l:List A0):List (A8×Bool×Int):=l.map gT
def AAM{l:List A0}{i:Nat}{f g:A0}(h:l[i]? =some f)(a:gT g=gT f):CF (l.set i g)=CF l:=by unfold CF;apply Mp;grind
def kh{l m:List A0}(h:CF m=CF l){i:Nat}{f:A0}(a:m[i]? =some f): ∃g,l[i]? =some g/\gT g=gT f:=by
 have:(CF m)[i]? =some (gT f):=by unfold CF;rw[List.getElem?_map,a];rfl
 rw[h]at this;unfold CF at this;grind
def AAL{l m:List A0}(h:CF m=CF l):m.length=l.length:=by have:=congrArg List.length h;simpa[CF]using this
def tH{p:BY}:DC p=(CF p.2.1).countP λc=>c.2.1:=by unfold DC CF;rw[List.countP_map];rfl
theorem JY.congr{l m:List A0}{n:Int}(h:CF m=CF l)(d:JY l n):JY m n:=by refine⟨λi f r b=>?_,λi j f g c s b q=>?_⟩;have⟨g,a,o⟩:=kh h b;have:=d.1 i g r a;grind[gT,iD];have⟨e,a,o⟩:=kh h b;have⟨k,p,t⟩:=kh h q;have:=d.2 i j e k c s a p;grind[gT]
def OG.uniq{p:BY}(h:OG p){i j:Nat}{f g:A0}(a:p.2.1[i]? =some f)(b:p.2.1[j]? =some g)(e:f.1.1=g.1.1):f=g:=by have c:=h.2.2.2.2.2.2;grind
def Uc{c:List (A8×Bool×Int)}{z:Int}{s:BY}(h:c=CF s.2.1/\z=s.1/\0<=s.2.2/\s.2.2<s.2.1.length/\s.2.1.length<=64):Ay (Ad Py s) λr=>c=CF r.2.1/\z=r.1/\0<=r.2.2/\r.2.2<r.2.1.length/\r.2.1.length<=64:=by
 refine AM (λs=>c=CF s.2.1/\z=s.1/\0<=s.2.2/\s.2.2<s.2.1.length/\s.2.1.length<=64) UC h (λs n=>?_);have⟨k,l,i,j,m⟩:=n;refine AB (AE i j) λf q=>?_;refine AF (λo=>?_) (λo=>AA ⟨k,l,i,j,m⟩);refine AB (AE i j) λd t=>?_;have e:d=f:=by grind
 subst e;refine AB (Ka (by dsimp only;omega) ⟨i,j⟩) λp u=>?_;subst u;refine AQ (λv=>?_) (λv=>AA ?_);grind;rw[(AW (x:=s.2.2+1))];refine⟨⟨?_,l,(Uu (len (s.2.1.set s.2.2.toNat (d.1,d.2.1,d.2.2.1,false))) (a:=s.2.2+1) (by omega)),(Ut (s.2.2+1) (b:=len (s.2.1.set s.2.2.toNat (d.1,d.2.1,d.2.2.1,false))) (by simp;omega)),by rw[Zl];exact m⟩,?_⟩;rw[k];exact(AAM (g:=(d.1,d.2.1,d.2.2.1,false)) q.1 rfl).symm;unfold UC;grind
def Xm{x:BY}:Ay (N5 x) λr=>(r.2.2=0->OG x/\OG r.1/\CF r.1.2.1=CF x.2.1/\fy r.1 r.2.1)/\(OG x->x.2.1.length≠0->r.2.2=0):=by refine AB ED λv g=>?_;refine AO (λc=>AA ⟨λa=>absurd a (by decide),λh _=>?_⟩) (λc=>?_);grind;have b:=g.1 c;have e:=b;have⟨k,l,m,i,n,o⟩:=b;refine AQ (λa=>AA ⟨λa=>absurd a (by decide),λ_ h=>absurd a (by simpa[len]using h)⟩) (λa=>?_);simp only[len]at a;refine AB (Uc ⟨rfl,rfl,i,by omega⟩) λp b=>?_;have⟨q1,q2,q3,q4,q5⟩:=b;refine AB (AE q3 q4) λf d=>?_;have j:=AAL q1;refine AA ⟨λ_=>⟨e,⟨by dsimp only;omega,by dsimp only;omega,by dsimp only;omega,q3,.inr q4,?_⟩,q1.symm,⟨_,f,d.1,rfl⟩⟩,λ_ _=>rfl⟩;grind[JY.congr]
def ah{x:BY×Int}:Ay (Lb x) λr=>OG x.1-> ∀(i:Nat) (f:A0),x.1.2.1[i]? =some f->f.1.1=x.2->f.2.1=false->(∀g∈r.1.2.1,g∈x.1.2.1)/\ ∀g∈x.1.2.1,g.2.1=true->g∈r.1.2.1:=by
 unfold Lb;refine AB ED λv A=>?_;refine AO (λn=>AA λo=>absurd (A.2 o) (by simp[n])) (λn=>?_);have o:=A.1 n;have T:=o.2.1;have U:=o.2.2.1;refine AB (GX (by omega)) λi G=>?_;have⟨R,J,K,L⟩:=G;refine AC (λn=>AA λ_ j f p e _=>absurd ⟨j,f,p,e⟩ (L n)) (λH=>?_);have⟨k,I,t⟩:=K (by omega);refine AB (AE (by omega) J) λw Q=>?_;have B:w=k:=by grind[Option.some.inj]
 subst B;refine AF (λu=>AA λ_ j f p e l=>?_) (λu=>?_);have:=o.uniq p I (by rw[e,t]);subst this;rw[u]at l;cases l;have O:=AW (x:=i+1);refine AB (Bu) λa C=>?_;refine AB (Bu (by omega) (by simp[len];omega) (by simp only[len];omega)) λb D=>?_;have S:=C.2;have M:=D.2;simp[len]at M;refine AB (Ac (by rw[Bt];omega)) λc s=>?_;have N:=s.2.1;rw[Bt]at N;refine AB (Ac (by omega)) λd E=>?_;have q: ∀(j:Nat) (f:A0),x.1.2.1[j]? =some f->f.1.1=x.2->f.2.1=false->(∀g∈d,g∈x.1.2.1)/\ ∀g∈x.1.2.1,g.2.1=true->g∈d:=by intro j f p e l;refine⟨λg y=>?_,λg y F=>?_⟩;grind[List.mem_of_mem_take,List.mem_of_mem_drop];have⟨m,z⟩:=Eu y;rw[(by grind[List.take_of_length_le,List.length_drop]:d=x.1.2.1.take i.toNat++x.1.2.1.drop (i.toNat+1)),Ar];rcases O7 m i.toNat with h|h|h;exact .inl (BJ (i:=m) (by rw[dm h];exact z));grind[Option.some.inj];exact .inr (BJ (i:=m-(i.toNat+1)) (by rw[OU];rw[show i.toNat+1+(m-(i.toNat+1))=m by omega];exact z))
 refine AB (P:=λ_=>True) (AC (λ_=>AA trivial) (λ_=>AA trivial)) λV _=>?_;refine AB (P:=λ_=>True) (AC (λ_=>AA trivial) (λ_=>AA trivial)) λW _=>AA λ_=>q
theorem ZH{x:BY×Int×Int}:Ay (Oc x) λr=>r.2=0->OG x.1/\DC r.1<=DC x.1/\(∀(i:Nat) (f:A0),x.1.2.1[i]? =some f->f.1.1=x.2.1->f.2.1=true->f.1.2.1=x.2.2->DC r.1<DC x.1)/\(∀g∈r.1.2.1,∃f∈x.1.2.1,f.1.1=g.1.1/\f.1.2.1=g.1.2.1)/\ ∀f∈x.1.2.1,f.1.1≠x.2.1->f∈r.1.2.1:=by
 refine AB ED λv C=>?_;refine AO (λb=>AA (λo=>absurd o (by decide))) (λb=>?_);have l:=C.1 b;have J:=l.2.2.1;have I:=l.2.1;refine AB (GX (by dsimp only;omega)) λi B=>?_;have⟨G,D,E,H⟩:=B;refine AC (λb=>AA (λo=>absurd o (by decide))) (λb=>?_);have⟨f,c,d⟩:=E (by omega);refine AB (AE (by omega) D) λg z=>?_;have e:g=f:=by grind
 subst e;refine AC (λb=>AA (λo=>absurd o (by decide))) (λA=>?_);refine AO (λs=>AA (λ_=>⟨l,Ak _,λj k m a h _=>?_,λg z=>⟨g,z,rfl,rfl⟩,λf c _=>c⟩)) (λs=>?_);have:=l.uniq m c (by rw[a,d]);subst this;rw[s]at h;cases h;refine AB (P:=λn:A0=>(g.1.2.1=x.2.2->n.2.1=false)/\n.1=g.1) ?_ λn hn=>?_
 ·repeat' with_reducible first|refine AC ?_ ?_<;>intro b|refine AO ?_ ?_<;>intro b|refine AQ ?_ ?_<;>intro b|refine AF ?_ ?_<;>intro b|(refine BE ?_;try dsimp only)|refine BP ?_|refine BX ?_|refine AA ?_|(refine AJ ?_ (AE ?_ ?_);rintro r ⟨hr,F⟩)
  all_goals grind
 refine AB (Ka (by dsimp only;omega) ⟨by dsimp only;omega,by dsimp only;omega⟩) λp y=>?_;subst y;refine AA λ_=>?_;have u:=r9 (q:=λf:A0=>f.2.1) (n:=n) c;rw[s]at u;refine⟨l,?_,λj k m a h t=>?_,uN c hn.2,λk m w=>pM c k m (by rw[d];exact w)⟩;unfold DC;dsimp only;simp at u;split at u<;>omega;have:=l.uniq m c (by rw[a,d]);subst this;rw[hn.1 t]at u;unfold DC;dsimp only;simp at u;omega
def UY{x:A8}{s:Bb×Int}(h:0<=s.2/\s.2<=16/\jc x/\(s.1.length:Int)=12+13*s.2):Ay (Ad (Kx x) s) λr=>r.length=220:=by
 refine AM (λ(s:Bb×Int)=>0<=s.2/\s.2<=16/\jc x/\(s.1.length:Int)=12+13*s.2) (λ(s:Bb×Int)=>(16-s.2).toNat) h (λs c=>?_);unfold Kx;obtain⟨g,j,b,k⟩:=c;have a: ∀i,(x.2.2 i).2.length<=12:=λi=>((b.2.2.2.2 i).1).1;repeat' with_reducible first|apply AC<;>intro d|apply AF<;>intro d|(apply BE;try dsimp only)|apply BP|apply BX|apply AA|(refine AJ ?_ (Cj ?_);intro r hr)|(refine AJ ?_ (Mz ?_);intro r hr)|(refine AJ ?_ (Dh ?_ ?_);intro r hr)|(refine AJ ?_ (CY ?_);rintro r ⟨hr,l⟩)
 all_goals try dsimp only[len]at*
 all_goals try (have e:=AW (x:=s.2+1))
 all_goals first|omega|(subst_vars;(try (have q1:=a ⟨s.2.toNat,by omega⟩));(try (have f:=AW (x:=12-((x.2.2 ⟨s.2.toNat,by omega⟩).2.length:Int))));first|omega|grind)|grind
def L5{x:A8}:Ay (GU x) λr=>r.2=0->r.1.length=256:=by
 unfold GU;repeat' with_reducible first|apply AL<;>intro a|apply AF<;>intro a|apply AA|(apply AB (HB);intro r hr)|(refine AJ ?_ (Cj ?_);intro r hr)|(refine AJ ?_ (UY ?_);intro r hr)|(refine AJ ?_ (Mz ?_);intro r hr)|(refine AJ ?_ (KO ?_);intro r hr)|(refine AJ ?_ (CY ?_);rintro r ⟨hr,c⟩)
 all_goals try dsimp only[len]at*
 all_goals try (have e:=AW (x:=244-((220:Nat):Int)))
 all_goals first|omega|(intro b;exact absurd b (by assumption))|grind[AW]
theorem Y8{x:Unit}:Ay (KQ x) λr=>r.length=256:=by
 unfold KQ;repeat' with_reducible first|refine AA ?_|(refine AJ ?_ (Mz ?_);intro r hr)
 all_goals ((try dsimp only[len]at*);(try first|omega|assumption|grind[AW]))
def UX{x:Bb}{s:Int×A8×A8}(h:0<=s.1/\s.1<=16/\x.length=256):Ay (Ad (Kw x) s) λr=>True:=by
 refine AM (λ(s:Int×A8×A8)=>0<=s.1/\s.1<=16/\x.length=256) (λ(s:Int×A8×A8)=>(16-s.1).toNat) h (λs e=>?_);unfold Kw;obtain⟨g,i,j⟩:=e;have b:=AW (x:=s.1*13);have c:=AW (x:=12+s.1*13);have d:=AW (x:=12+s.1*13+1);rw[b,c,d];repeat' with_reducible first|apply AC<;>intro a|apply AQ<;>intro a|apply AF<;>intro a|apply AA|(refine AJ ?_ (Dh ?_ ?_);intro r hr)|(refine AJ ?_ (Dr ?_ ?_ ?_);rintro r ⟨hr,f⟩)|(refine AJ ?_ (Pe ?_ ?_);rintro r ⟨hr,f⟩)
 all_goals try dsimp only[len]at*
 all_goals first|omega|grind[AW]
def Xb{x:Bb}(h:x.length<=1099511627776):Ay (Jb x) λr=>True:=by
 unfold Jb;repeat' with_reducible first|apply AQ<;>intro a|apply AL<;>intro a|apply AF<;>intro a|(apply BF;try dsimp only)|(apply BC;try dsimp only)|(apply A2<;>(intro u b;try subst b))|apply AA|(apply AB (Y8);intro r hr)|(refine AJ ?_ (CZ ?_);intro r hr)|(refine AJ ?_ (KO ?_);intro r hr)|(refine AJ ?_ (UX ?_);intro r hr)|(apply AB (L5);intro r hr)|(refine AJ ?_ (Dr ?_ ?_ ?_);rintro r ⟨hr,c⟩)
 all_goals try dsimp only[len]at*
 all_goals first|trivial|omega|grind
def cF{x:Int}:Ay (Me x) λr=>r.1=x:=by
 unfold Me;repeat' with_reducible first|apply AA
 all_goals trivial
def VP{x:Bb×Int}(h:x.1.length<=1099511627776):Ay (Ie x) λr=>r.2=0->r.1.1=x.2:=by
 unfold Ie;repeat' with_reducible first|apply AC<;>intro a|apply AQ<;>intro a|apply AL<;>intro a|apply AF<;>intro a|apply AA|(refine AJ ?_ (Xb ?_);intro r hr)|(apply AB (cF);intro r hr)
 all_goals first|assumption|(intro b;exact absurd b (by assumption))|(intro b;exact absurd b (by decide))|(intro _;assumption)|grind
def ZJ{x:BW×Int×Int×Bb}(h:x.2.2.2.length<=1099511627776):Ay (Kb x) λr=>r.2=0->r.1.1=x.2.1:=by
 unfold Kb;repeat' with_reducible first|apply AC<;>intro a|apply AO<;>intro a|apply AL<;>intro a|apply AF<;>intro a|apply AA|(apply AB (Fz);intro r hr)|(refine AJ ?_ (VP ?_);intro r hr)|(refine AJ ?_ (AE ?_ ?_);rintro r ⟨hr,c⟩)
 all_goals try dsimp only[len]at*
 all_goals first|assumption|omega|(intro b;exact absurd b (by assumption))|(intro b;exact absurd b (by decide))|(intro _;assumption)|grind
def RY{x:A8×D8}:Ay (IG x) λr=>r.2=0->r.1.1=x.1.1:=by
 unfold IG;repeat' with_reducible first|apply AO<;>intro a|apply AQ<;>intro a|apply AL<;>intro a|apply AF<;>intro a|apply AA|(apply AB (RZ);intro r hr)|(refine AJ ?_ (Dh ?_ ?_);intro r hr)
 all_goals first|(intro b;exact absurd b (by decide))|(intro _;rfl)|omega|grind[TT]
def ZT{x:A8×AD}:Ay (Kk x) λr=>r.2=0->r.1.1=x.1.1:=by
 unfold Kk;repeat' with_reducible first|apply AO<;>intro b|apply AL<;>intro b|apply AF<;>intro b|apply AA|(apply AB (B9);intro r hr)|(apply AB (Bv);intro r hr)|(apply AB (HB);intro r hr)|(apply AB (RY);intro r hr)
 all_goals first|(intro a;exact absurd a (by assumption))|(intro a;exact absurd a (by decide))|(intro _;exact hr (by assumption))|grind
def ZE{x:AD×List AD}(h:x.2.length<=16777215):Ay (KW x) λr=>r.length=x.2.length+1:=by
 unfold KW;repeat' with_reducible first|apply AA|(refine AJ ?_ (Ac ?_);rintro r ⟨hr,b,a⟩)
 all_goals first|(simp at*;omega)|(simp at*;done)
end Go.Pm
