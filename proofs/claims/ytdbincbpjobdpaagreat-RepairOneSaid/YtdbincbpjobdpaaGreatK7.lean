/- Texts of wip, joined and shortened by wip/tools/pack.py; nothing is assumed. -/
import Derived.Test.YtdbincbpjobdpaaGreatK6
noncomputable section
set_option linter.all false
namespace Go.Pm
open Go Go.Ab
set_option maxHeartbeats 400000
def Fo(x:Ch):Prop:=x.2.length<=12/\(x.1=true\/x.2=[])
def OV(x:Ds):Prop:=0<=x.1/\x.1<64/\0<=x.2.1/\x.2.1<16/\Fo x.2.2.1/\Fo x.2.2.2
def KC{x:Ch}:Aq (DY x) λr=>r=true↔Fo x:=by
 unfold DY Fo
 exact x!
def Tc{x:Ds}:Aq (Ic x) λr=>r=true↔OV x:=by
 unfold Ic OV
 exact x!
def Pq:Ds:=(0,0,(false,[]),(false,[]))
def Uy(x:AE):Prop:=
 (x.2.1=1/\x.2.2.2.2.2.1=0/\x.2.2.2.2.2.2.2=[]/\1<=x.2.2.1/\x.2.2.1<=1073741824/\OV x.2.2.2.2.2.2.1)\/
 (x.2.1=2/\0<x.2.2.2.1/\1<=x.2.2.2.2.2.1/\x.2.2.2.2.2.1<=x.2.2.2.1/\x.2.2.2.2.2.2.2=[]/\1<=x.2.2.1/\x.2.2.1<=1073741824/\OV x.2.2.2.2.2.2.1)\/
 ((x.2.1=3\/x.2.1=4\/x.2.1=5)/\0<x.2.2.2.1/\x.2.2.2.2.1=0/\x.2.2.2.2.2.1=0/\x.2.2.2.2.2.2.1=Pq/\x.2.2.2.2.2.2.2=[]/\1<=x.2.2.1/\x.2.2.1<=1073741824)\/
 ((x.2.1=6\/x.2.1=8)/\x.2.2.1=0/\x.2.2.2.1=0/\x.2.2.2.2.1=0/\x.2.2.2.2.2.1=0/\x.2.2.2.2.2.2.1=Pq/\x.2.2.2.2.2.2.2.length<=8192)\/
 (x.2.1=7/\x.2.2.1=0/\x.2.2.2.1=0/\x.2.2.2.2.1=0/\0<=x.2.2.2.2.2.2.1.1/\x.2.2.2.2.2.2.1.1<64/\x.2.2.2.2.2.2.1.2=Pq.2/\x.2.2.2.2.2.2.2=[])
def Ln(x:AE):Prop:=1<=x.1/\x.1<=1099511627776/\0<=x.2.2.2.1/\x.2.2.2.1<x.1/\0<=x.2.2.2.2.1/\x.2.2.2.2.1<x.1/\0<=x.2.2.2.2.2.1/\x.2.2.2.2.2.1<x.1/\Uy x
def aK{x:Int×Int}:Aq (GZ x) λr=>r=true↔0<=x.1/\x.1<x.2:=by
 unfold GZ;exact x!
def cY{x:AE}:Aq (LJ x) λr=>(r.2=true/\r.1=x)↔Uy x:=by
 obtain⟨a,b,c,d,e,f,⟨g,h,⟨i,j⟩,k,l⟩,m⟩:=x;unfold LJ Uy Pq;dsimp only
 repeat' first
   |with_reducible apply AC<;>intro n
   |with_reducible apply AP<;>intro n
   |with_reducible apply AL<;>intro n
   |(with_reducible apply BC;try dsimp only)
   |with_reducible apply Bg
   |with_reducible apply B0
   |with_reducible apply AB
   |(with_reducible apply AA (Tc);intro r hr)
 all_goals grind
def CV{x:AE}:Aq (Co x) λr=>r=true↔Ln x:=by
 unfold Co;refine AA cY λn A=>?_;have e:((n.1.1==x.1)&&((n.1.2.1==x.2.1)&&((n.1.2.2.1==x.2.2.1)&&((n.1.2.2.2.1==x.2.2.2.1)&&((n.1.2.2.2.2.1==x.2.2.2.2.1)&&((n.1.2.2.2.2.2.1==x.2.2.2.2.2.1)&&((n.1.2.2.2.2.2.2.1.1==x.2.2.2.2.2.2.1.1)&&((n.1.2.2.2.2.2.2.1.2.1==x.2.2.2.2.2.2.1.2.1)&&((n.1.2.2.2.2.2.2.1.2.2.1.1==x.2.2.2.2.2.2.1.2.2.1.1)&&((n.1.2.2.2.2.2.2.1.2.2.1.2==x.2.2.2.2.2.2.1.2.2.1.2)&&((n.1.2.2.2.2.2.2.1.2.2.2.1==x.2.2.2.2.2.2.1.2.2.2.1)&&((n.1.2.2.2.2.2.2.1.2.2.2.2==x.2.2.2.2.2.2.1.2.2.2.2)&&((n.1.2.2.2.2.2.2.2==x.2.2.2.2.2.2.2)&&true)))))))))))))=true↔n.1=x:=by obtain⟨⟨a,b,c,d,e,f,⟨g,h,⟨i,j⟩,k,l⟩,m⟩,z⟩:=n;obtain⟨p,q,s,t,u,v,⟨w,y,⟨B,C⟩,D,E⟩,F⟩:=x;simp[and_assoc]
 generalize ((n.1.1==x.1)&&_)=bb at e⊢;unfold Ln
 repeat' first
   |with_reducible apply AC<;>intro o
   |with_reducible apply AP<;>intro o
   |with_reducible apply AL<;>intro o
   |(with_reducible apply BC;try dsimp only)
   |with_reducible apply Bg
   |with_reducible apply B0
   |with_reducible apply AB
   |(with_reducible apply AA (aK);intro r hr)
 all_goals grind
def Ee{x:Ad}:Aq (Ci x) λr=>r=wi (wi (x.1+len x.2.1)-1):=by
 unfold Ci;exact x!
def Do(x:Ad):Prop:=1<=x.1/\x.1<=1099511627776/\x.2.1.length<=4096/\x.1-1<=x.2.2/\x.2.2<=x.1+x.2.1.length-1/\ ∀(i:Nat) (e:AE),x.2.1[i]? =some e->e.1=x.1+i/\Ln e
def X9{x:Ad}{s:Int}(h:0<=s/\s<=x.2.1.length/\x.2.1.length<=4096/\1<=x.1/\x.1<=1099511627776/\ ∀(i:Nat) (e:AE),i<s->x.2.1[i]? =some e->e.1=x.1+i/\Ln e):Aq (Ah (M1 x) s) λr=>(r= .inl false/\ ¬Do x)\/(r= .inr ()/\ ∀(i:Nat) (e:AE),x.2.1[i]? =some e->e.1=x.1+i/\Ln e):=by
 refine AW (λ(s:Int)=>0<=s/\s<=x.2.1.length/\x.2.1.length<=4096/\1<=x.1/\x.1<=1099511627776/\ ∀(i:Nat) (e:AE),i<s->x.2.1[i]? =some e->e.1=x.1+i/\Ln e) (λ(s:Int)=>((x.2.1.length:Int)-s).toNat) h (λs b=>?_);unfold M1;obtain⟨c,d,f,g,j,k⟩:=b;repeat' with_reducible first|intro a|apply AC|apply AO|apply AJ|apply AL|apply AB|(apply AA (CV);intro r hr)|(refine AM ?_ (AI ?_ ?_);rintro r ⟨hr,l⟩)
 all_goals try (first|omega|grind[AY,Do])
theorem Bc{x:Ad}:Aq (B7 x) λr=>r=true↔Do x:=by
 unfold B7;repeat' with_reducible first|intro a|apply AC|apply AL|(apply BL;try dsimp only)|(apply BA;try dsimp only)|(apply A9<;>(intro u b;try subst b))|apply AB|(apply AA (Ee);intro r hr)|(refine AM ?_ (X9 ?_);intro r hr)
 all_goals try (first|omega|grind[AY,Do])
def F9(x:AU):Prop:=0<=x.1/\x.1<64/\0<=x.2.1/\x.2.1<=1099511627776/\ ∀i,Fo (x.2.2 i)/\(x.2.1=0->(x.2.2 i).1=false)
def Lu{x:AU}:Aq (HP x) λr=>r=true↔0<=x.1/\x.1<64/\0<=x.2.1/\x.2.1<=1099511627776:=by
 unfold HP;exact x!
def X5{x:AU}{s:Int}(h:0<=s/\s<=16/\ ∀i:Fin 16,(i.val:Int)<s->Fo (x.2.2 i)/\(x.2.1=0->(x.2.2 i).1=false)):Aq (Ah (Mt x) s) λr=>(r= .inl false/\ ¬ ∀i,Fo (x.2.2 i)/\(x.2.1=0->(x.2.2 i).1=false))\/(r= .inr ()/\ ∀i,Fo (x.2.2 i)/\(x.2.1=0->(x.2.2 i).1=false)):=by
 refine AW (λ(s:Int)=>0<=s/\s<=16/\ ∀i:Fin 16,(i.val:Int)<s->Fo (x.2.2 i)/\(x.2.1=0->(x.2.2 i).1=false)) (λ(s:Int)=>(16-s).toNat) h (λs b=>?_);unfold Mt;exact x!
def Nr{x:AU}:Aq (Ia x) λr=>r=true↔ ∀i,Fo (x.2.2 i)/\(x.2.1=0->(x.2.2 i).1=false):=by
 unfold Ia;exact x!
def cT{x:AU}:Aq (LF x) λr=>r=true↔F9 x:=by
 unfold LF F9
 exact x!
def Nq{x:AU}:Aq (Dz x) λr=>r=0->F9 x:=by
 unfold Dz F9
 exact x!
def nq(f:BE):Prop:=F9 f.1/\(f.2.1=true->1<=f.2.2.1/\f.2.2.1<=f.1.2.1)/\(f.2.1=false->f.2.2.1=0)
def J8(l:List BE)(n:Int):Prop:=(∀(i:Nat) (f:BE),i<n->l[i]? =some f->nq f)/\ ∀(i j:Nat) (f g:BE),i<j->j<n->l[i]? =some f->l[j]? =some g->f.1.1≠g.1.1
def PB(x:Bv):Prop:=1<=x.1/\x.1<=64/\x.2.1.length<=x.1/\0<=x.2.2/\(x.2.1.length=0/\x.2.2=0\/x.2.2<x.2.1.length)/\J8 x.2.1 x.2.1.length
theorem J8.step{l:List BE}{n:Int}{f:BE}(e:0<=n)(h:J8 l n)(o:l[n.toNat]? =some f)(r:nq f)(m: ∀(j:Nat) (g:BE),j<n->l[j]? =some g->g.1.1≠f.1.1):J8 l (n+1):=by
 refine⟨λi g p b=>?_,λi j g k c q b d=>?_⟩;rcases jg i n with a|a;exact h.1 i g a b;grind;rcases jg j n with a|a;exact h.2 i j g k c a b d;have:j=n.toNat:=o!
 grind
theorem og{l:List BE}{n:Int}{f:BE}(c:0<=n)(d:n<l.length)(a:l[n.toNat]? =some f)(b: ¬nq f): ¬J8 l l.length:=λh=>b (h.1 n.toNat f o! a)
theorem oh{l:List BE}{n:Int}{f:BE}(e:0<=n)(i:n<l.length)(d:l[n.toNat]? =some f)(c: ∃(j:Nat) (g:BE),j<n/\l[j]? =some g/\g.1.1=f.1.1): ¬J8 l l.length:=λh=>by have⟨j,g,k,a,b⟩:=c;exact h.2 j n.toNat g f o! o! a d b
def Hy{x:Bv}{a:Int}{b:BE}{s:Int}(h:0<=s/\s<=a/\a<=x.2.1.length/\(x.2.1.length:Int)<=16777216/\ ∀(j:Nat) (g:BE),j<s->x.2.1[j]? =some g->g.1.1≠b.1.1):Aq (Ah (Fu x a b) s) λr=>(r= .inl false/\ ∃(j:Nat) (g:BE),j<a/\x.2.1[j]? =some g/\g.1.1=b.1.1)\/(r= .inr ()/\ ∀(j:Nat) (g:BE),j<a->x.2.1[j]? =some g->g.1.1≠b.1.1):=by
 refine AW (λ(s:Int)=>0<=s/\s<=a/\a<=x.2.1.length/\(x.2.1.length:Int)<=16777216/\ ∀(j:Nat) (g:BE),j<s->x.2.1[j]? =some g->g.1.1≠b.1.1) (λ(s:Int)=>(a-s).toNat) h (λs d=>?_);unfold Fu;exact x!
def YE{x:Bv}{s:Int}(h:0<=s/\s<=x.2.1.length/\(x.2.1.length:Int)<=16777216/\J8 x.2.1 s):Aq (Ah (M6 x) s) λr=>(r= .inl false/\ ¬J8 x.2.1 x.2.1.length)\/(r= .inr ()/\J8 x.2.1 x.2.1.length):=by
 refine AW (λ(s:Int)=>0<=s/\s<=x.2.1.length/\(x.2.1.length:Int)<=16777216/\J8 x.2.1 s) (λ(s:Int)=>((x.2.1.length:Int)-s).toNat) h (λs d=>?_);unfold M6;repeat' with_reducible first|intro a|apply AC|apply AO|apply AJ|apply AL|(apply BL;try dsimp only)|(apply BA;try dsimp only)|(apply A9<;>(intro u c;try subst c))|apply AB|(apply AA (cT);intro r hr)|(refine AM ?_ (Hy ?_);intro r hr)|(refine AM ?_ (Hy ?_);intro r hr)|(refine AM ?_ (Hy ?_);intro r hr)|(refine AM ?_ (Hy ?_);intro r hr)|(refine AM ?_ (AI ?_ ?_);rintro r ⟨hr,f⟩)
 all_goals try (have e:=AY (x:=s+1))
 all_goals first|omega|(exact⟨o!,o!,o!,o!,λj g b=>absurd b o!⟩)|grind[J8.step,og,oh,nq]
def J8.zero(l:List BE):J8 l 0:=⟨λi f h=>absurd h o!,λi j f g h a=>absurd a o!⟩
def AHp(n h:Int)(a:0<=n)(b:n<=64):(h>if wi (n-1)>0 then wi (n-1)else 0)↔ ¬(n=0/\h<=0\/h<n):=by grind[AY]
def EQ{x:Bv}:Aq (Dc x) λr=>r=true↔PB x:=by
 unfold Dc PB
 repeat' first
   |with_reducible apply AC<;>intro b
   |(with_reducible apply A9<;>(intro u a;try subst a))
   |with_reducible apply AB
   |(with_reducible refine AM ?_ (YE ?_);intro r hr)
 all_goals try dsimp[len]at*
 all_goals first
  |(exact⟨o!,o!,o!,J8.zero _⟩)
  |(have c:=AHp (x.2.1.length) x.2.2 o! o!;grind)
  |grind
def Nx{x:As}:Aq (Gz x) λr=>True:=by
 unfold Gz;exact x!
def UZ{x:As×As}:Aq (FV x) λr=>True:=by
 unfold FV;exact x!
def GL{x:As×As}:Aq (EE x) λr=>True:=by
 unfold EE;exact x!
def Yy{x:A8×Int×Cq}{s:Int}(h:0<=s/\s<=x.1.1.length/\(x.1.1.length:Int)<=16777216):Aq (Ah (N0 x) s) λr=>True:=by
 refine AW (λ(s:Int)=>0<=s/\s<=x.1.1.length/\(x.1.1.length:Int)<=16777216) (λ(s:Int)=>((x.1.1.length:Int)-s).toNat) h (λs b=>?_);unfold N0;exact x!
def Hw{x:A8×Int×Cq}(h:x.1.1.length<=16777216):Aq (EF x) λr=>True:=by
 unfold EF;exact x!
def GH(x:A8):Prop:=x.1.length<=16777216/\x.2.length<=16777216
def QU{x:A8}{a:Int}{s:Int}(h:s<a/\ -1<=s/\0<=a/\a<x.1.length/\x.1.length<=16777216):Aq (Ah (I9 x a) s) λr=>r≠ .inl true:=by
 refine AW (λ(s:Int)=>s<a/\ -1<=s/\0<=a/\a<x.1.length/\x.1.length<=16777216) (λ(s:Int)=>(s+1).toNat) h (λs c=>?_);unfold I9;exact x!
def YA{x:A8}{s:Int}(h:0<=s/\s<=x.1.length/\(x.1.length:Int)<=16777216):Aq (Ah (M2 x) s) λr=>r≠ .inl true:=by
 refine AW (λ(s:Int)=>0<=s/\s<=x.1.length/\(x.1.length:Int)<=16777216) (λ(s:Int)=>((x.1.length:Int)-s).toNat) h (λs c=>?_);unfold M2;repeat' with_reducible first|intro a|apply AC|apply AO|apply AL|(apply BL;try dsimp only)|(apply BA;try dsimp only)|(apply A9<;>(intro u b;try subst b))|apply AB|(apply AA (Nx);intro r hr)|(apply AA (UZ);intro r hr)|(refine AM ?_ (QU ?_);intro r hr)|(refine AM ?_ (QU ?_);intro r hr)|(refine AM ?_ (AI ?_ ?_);rintro r ⟨hr,d⟩)
 all_goals ((try dsimp[len]at*);(try first|omega|assumption|grind[AY]|((try simp (disch:=omega) only[AY,len]at*)<;>(try intros)<;>(try and_intros)<;>(try intros)<;>(first|omega|assumption|grind))))
def YC{x:A8}{a:Int}{b:As}{s:Int}(h:0<=s/\s<=a/\(a:Int)<=16777216/\a<=x.2.length):Aq (Ah (M4 x a b) s) λr=>r≠ .inl true:=by
 refine AW (λ(s:Int)=>0<=s/\s<=a/\(a:Int)<=16777216/\a<=x.2.length) (λ(s:Int)=>((a:Int)-s).toNat) h (λs d=>?_);unfold M4;exact x!
def YB{x:A8}{s:Int}(h:0<=s/\s<=x.2.length/\(x.2.length:Int)<=16777216/\x.1.length<=16777216):Aq (Ah (M3 x) s) λr=>r≠ .inl true:=by
 refine AW (λ(s:Int)=>0<=s/\s<=x.2.length/\(x.2.length:Int)<=16777216/\x.1.length<=16777216) (λ(s:Int)=>((x.2.length:Int)-s).toNat) h (λs c=>?_);unfold M3;exact x!
def Zb(x:A8):Prop:=x.1.length+x.2.length<=1024
def FJ{x:A8}(h:GH x):Aq (D0 x) λr=>r=true->Zb x:=by
 unfold D0 Zb;unfold GH at h
 exact x!
def VTx(x:Am):Prop:=x.2.2.2.2.1.length<=4096/\x.2.2.2.2.2.length<=8/\1<=x.1
def Yg(x:List Am):Prop:=x.length<=64/\ ∀(i:Nat) (t:Am),x[i]? =some t->VTx t
def QV{x:Am}{s:Int}(h:0<=s/\s<=x.2.2.2.2.1.length/\(x.2.2.2.2.1.length:Int)<=16777216):Aq (Ah (JD x) s) λr=>r≠ .inl true:=by
 refine AW (λ(s:Int)=>0<=s/\s<=x.2.2.2.2.1.length/\(x.2.2.2.2.1.length:Int)<=16777216) (λ(s:Int)=>((x.2.2.2.2.1.length:Int)-s).toNat) h (λs b=>?_);unfold JD;repeat' with_reducible first|intro a|apply AC|apply AL|apply AB|(refine AM ?_ (AI ?_ ?_);rintro r ⟨hr,c⟩)
 all_goals ((try dsimp[len]at*);(try first|omega|assumption|grind[AY]|((try simp (disch:=omega) only[AY,len]at*)<;>(try intros)<;>(try and_intros)<;>(try intros)<;>(first|omega|assumption|grind))))
def QW{x:Am}{s:Int}(h:0<=s/\s<=x.2.2.2.2.2.length/\(x.2.2.2.2.2.length:Int)<=16777216):Aq (Ah (JE x) s) λr=>r≠ .inl true:=by
 refine AW (λ(s:Int)=>0<=s/\s<=x.2.2.2.2.2.length/\(x.2.2.2.2.2.length:Int)<=16777216) (λ(s:Int)=>((x.2.2.2.2.2.length:Int)-s).toNat) h (λs b=>?_);unfold JE;repeat' with_reducible first|intro a|apply AC|apply AL|apply AB|(refine AM ?_ (AI ?_ ?_);rintro r ⟨hr,c⟩)
 all_goals ((try dsimp[len]at*);(try first|omega|assumption|grind[AY]|((try simp (disch:=omega) only[AY,len]at*)<;>(try intros)<;>(try and_intros)<;>(try intros)<;>(first|omega|assumption|grind))))
def cr{x:Am}:Aq (LR x) λr=>r=true->VTx x:=by
 unfold LR VTx
 exact x!
def YH{x:List Am}{s:Int}(h:0<=s/\s<=x.length/\(x.length:Int)<=16777216/\ ∀(i:Nat) (t:Am),i<s->x[i]? =some t->VTx t):Aq (Ah (M8 x) s) λr=>r= .inl false\/(r= .inr ()/\ ∀(i:Nat) (t:Am),x[i]? =some t->VTx t):=by
 refine AW (λ(s:Int)=>0<=s/\s<=x.length/\(x.length:Int)<=16777216/\ ∀(i:Nat) (t:Am),i<s->x[i]? =some t->VTx t) (λ(s:Int)=>((x.length:Int)-s).toNat) h (λs b=>?_);unfold M8;repeat' with_reducible first|intro a|apply AC|apply AO|apply AL|apply AB|(apply AA (cr);intro r hr)|(refine AM ?_ (AI ?_ ?_);rintro r ⟨hr,c⟩)
 all_goals ((try dsimp[len]at*);(try first|omega|assumption|grind[AY]|((try simp (disch:=omega) only[AY,len]at*)<;>(try intros)<;>(try and_intros)<;>(try intros)<;>(first|omega|assumption|grind))))
def Dw{x:List Am}:Aq (D2 x) λr=>r=true->Yg x:=by
 unfold D2 Yg
 exact x!
def lH(x:Bu):Prop:=1<=x.length/\x.length<=64
def iB{x:Int}:Aq (Gm x) λr=>True:=by
 unfold Gm;exact x!
def YF{x:Bu}{s:Int}(h:0<=s/\s<=x.length/\(x.length:Int)<=16777216):Aq (Ah (JB x) s) λr=>r≠ .inl true:=by
 refine AW (λ(s:Int)=>0<=s/\s<=x.length/\(x.length:Int)<=16777216) (λ(s:Int)=>((x.length:Int)-s).toNat) h (λs b=>?_);unfold JB;exact x!
def GC{x:Bu}:Aq (D1 x) λr=>r=true->lH x:=by
 unfold D1 lH
 exact x!
def Uv{x:List Ag×Int}{s:Int}(h:0<=s/\s<=x.1.length/\(x.1.length:Int)<=16777216):Aq (Ah (Gs x) s) λr=>r≠ .inl true:=by
 refine AW (λ(s:Int)=>0<=s/\s<=x.1.length/\(x.1.length:Int)<=16777216) (λ(s:Int)=>((x.1.length:Int)-s).toNat) h (λs b=>?_);unfold Gs;repeat' with_reducible first|intro a|apply AC|apply AL|apply AB|(refine AM ?_ (AI ?_ ?_);rintro r ⟨hr,c⟩)
 all_goals ((try dsimp[len]at*);(try first|omega|assumption|grind[AY]|((try simp (disch:=omega) only[AY,len]at*)<;>(try intros)<;>(try and_intros)<;>(try intros)<;>(first|omega|assumption|grind))))
def PS{x:List Ag×Int}(h:x.1.length<=16777216):Aq (FL x) λr=>True:=by
 unfold FL;exact x!
theorem Cv{b:Type}{l:List b}{i:Nat}{a:b}(h:l[i]? =some a):i<l.length:=q!
def cE(p:Int)(e:AE):Bool:=((e.2.1==1)||(e.2.1==2))&&(e.2.2.2.2.2.2.1.1==p)
def Bj(L:List AE)(p:Int):Int:=L.foldl (λa e=>if cE p e then e.1 else a) 0
theorem O8(L:List AE)(e:AE)(p:Int):Bj (L++[e]) p=if cE p e then e.1 else Bj L p:=by simp[Bj,XY,XZ,List.foldl_nil]
def upd(x:AU)(e:AE):AU:=(x.1,(e.1,WK x.2.2 e.2.2.2.2.2.2.1.2.1 e.2.2.2.2.2.2.1.2.2.2))
def st(L:List AE)(p:Int):AU:=(L.filter (cE p)).foldl upd (p,(0,HA.all (false,[])))
def AAl(L M:List AE)(p:Int):st (L++M) p=(M.filter (cE p)).foldl upd (st L p):=by unfold st;rw[Ix,XY]
theorem zk(L:List AE)(e:AE)(p:Int):st (L++[e]) p=if cE p e then upd (st L p) e else st L p:=by rw[AAl,VW,jm];split<;>rfl
def ABI(L:List AE)(x:AU):(L.foldl upd x).1=x.1:=by
 induction L generalizing x with
 |nil=>rfl
 |cons e L a=>exact a (upd x e)
theorem Sc(L:List AE)(p:Int):(st L p).1=p:=ABI _ _
theorem K5(L:List AE)(p:Int):(st L p).2.1=Bj L p:=by
 suffices h: ∀(L:List AE) (x:AU),((L.filter (cE p)).foldl upd x).2.1=L.foldl (λa e=>if cE p e then e.1 else a) x.2.1 from h L _
 intro L;induction L with
 |nil=>exact λx=>rfl
 |cons e L b=>intro x;rw[VW,XZ];split;exact b (upd x e);exact b x
def wT(n:Int)(L:List AE)(D:List Ag)(R:List BX):Prop:=
 ∀p,0<=p->p<n->(∀d∈D,d.1=p->d.2.2=Bj L p)/\ ∀r,R[p.toNat]? =some r->r.1<=Bj L p/\((∀d∈D,d.1≠p)->r.1=Bj L p)
def KP(n:Int)(L:List AE)(F:List BE)(D:List Ag)(R:List BX):Prop:=
 ∀p,0<=p->p<n->(∀f∈F,f.1.1=p->f.1=st L p)/\(∀d∈D,d.1=p->d.2.2=Bj L p)/\
  ∀r,R[p.toNat]? =some r->r.1<=Bj L p/\((∀d∈D,d.1≠p)->(∀f∈F,f.1.1=p->f.2.1=false)->r.1=Bj L p)
def EOK(n:Int)(M:List AE)(e:AE):Prop:=
 (e.2.1=1\/e.2.1=2->e.2.2.2.2.1=Bj M e.2.2.2.2.2.2.1.1/\Gj (st M e.2.2.2.2.2.2.1.1).2.2 e.2.2.2.2.2.2.1.2.1=some e.2.2.2.2.2.2.1.2.2.1)/\(e.2.1=7->e.2.2.2.2.2.1=Bj M e.2.2.2.2.2.2.1.1)/\
  (e.2.1=6-> ∀c,DA e.2.2.2.2.2.2.2=some (c,0)->c.1=n->wT n M c.2.2.2.1 c.2.2.2.2)
def LI(n:Int)(L:List AE):Prop:= ∀(i:Nat) (e:AE),L[i]? =some e->EOK n (L.take i) e
def LI.nil(n:Int):LI n []:=λi e h=>by simp at h
def LI.app{n:Int}{L:List AE}{e:AE}(h:LI n L)(c:EOK n L e):LI n (L++[e]):=by intro i f b;rcases QH i L.length with a|a|a;rw[CT a]at b;rw[da o!];exact h i f b;grind;grind[List.getElem?_eq_none]
def LI.pre{n:Int}{L T:List AE}(h:LI n (L++T)):LI n L:=by intro i f a;have:=h i f q!;grind
def FD(B:Int->Prop)(n:Int)(F:List BE)(D:List Ag):Prop:= ∀f∈F,0<=f.1.1/\f.1.1<n/\(∀d∈D,d.1≠f.1.1)/\B f.1.1
variable {B:Int->Prop}
def KI(B:Int->Prop)(k:AS):Prop:=LI k.1 k.2.2.1.2.1/\KP k.1 k.2.2.1.2.1 k.2.2.2.1.2.1 k.2.2.2.2.2.2.2 k.2.2.2.2.2.2.1/\FD B k.1 k.2.2.2.1.2.1 k.2.2.2.2.2.2.2
def FD.sub{n:Int}{F G:List BE}{D:List Ag}(h:FD B n F D)(a: ∀g∈G,∃f∈F,f.1.1=g.1.1/\f.1=g.1):FD B n G D:=by intro g c;have⟨f,b,e,_⟩:=a g c;rw[<-e];exact h f b
def nE{p b:Int}: ∀(L:List AE) (a:Int),a<b->(∀e∈L,e.1<b)->L.foldl (λa e=>if cE p e then e.1 else a) a<b
 |[],a,ha,_=>ha
 |e::L,a,ha,h=>by refine nE L _ ?_ λf c=>h f (CW _ c);show(if cE p e=true then e.1 else a)<b;split;exact h e Iv;exact ha
def kA{l:Ad}(h:Do l)(p:Int):Bj l.2.1 p<l.1+l.2.1.length:=by have⟨a,_,_,_,_,b⟩:=h;refine nE _ _ o! λe c=>?_;grind[List.getElem?_of_mem]
def KP.app{n:Int}{L:List AE}{F:List BE}{D:List Ag}{R:List BX}{e:AE}(h:KP n L F D R)(c:e.2.1≠1/\e.2.1≠2):KP n (L++[e]) F D R:=by intro p a b;rw[(by grind[O8,cE]:Bj (L++[e]) p=Bj L p),(by grind[zk,cE]:st (L++[e]) p=st L p)];exact h p a b
def KP.frames{n:Int}{L:List AE}{F G:List BE}{D:List Ag}{R:List BX}(h:KP n L F D R)
  (m: ∀g∈G,∃f∈F,f.1.1=g.1.1/\f.1=g.1) (o: ∀f∈F,f.2.1=true-> ∃g∈G,g.1.1=f.1.1/\g.2.1=true):KP n L G D R:=by
 intro p w x;obtain⟨a,b,c⟩:=h p w x;refine⟨λg v e=>?_,b,λr hr=>⟨(c r hr).1,λt u=>(c r hr).2 t λf d e=>?_⟩⟩;obtain⟨f,d,j,k⟩:=m g v;rw[<-k];exact a f d (j.trans e);cases s:f.2.1 with
 |false=>rfl
 |true=>obtain⟨g,q,l,i⟩:=o f d s;rw[u g q (l.trans e)]at i;cases i
def KP.written{n:Int}{L:List AE}{F G:List BE}{D:List Ag}{R:List BX}{q d:Int}{w:BX}(h:KP n L F D R)(q0:0≤q)(A:d=Bj L q)(B:q<n)
  (s: ∀g∈G,∃f∈F,f.1.1=g.1.1/\f.1=g.1) (t: ∀f∈F,f.1.1≠q->f∈G) (l:R[q.toNat]? =some w):
  KP n L G D (R.set q.toNat ((if d>w.1 then d else w.1),w.2)):=by
 intro p y z;obtain⟨a,b,c⟩:=h p y z;refine⟨λg x e=>?_,b,λr hr=>?_⟩;obtain⟨f,i,m,o⟩:=s g x;rw[<-o];exact a f i (m.trans e);by_cases k:p=q;subst k;have j:p.toNat<R.length:=by rcases Ay p.toNat R.length with h|h;exact h;rw[Cm h]at l;cases l
 rw[Gt j]at hr;have:=(c w l).1;have e:r.1=Bj L p:=by rw[<-Bf hr];dsimp only;split<;>omega
 exact⟨o!,λ_ _=>e⟩;rw[DU o!]at hr;refine⟨(c r hr).1,λu v=>(c r hr).2 u λf i e=>?_⟩;exact v f (t f i o!) e
def AAk{F:List BE}{i:Nat}{f n:BE}(a:F[i]? =some f)(hn:n.1=f.1): ∀g∈F.set i n,∃f∈F,f.1.1=g.1.1/\f.1=g.1:=q!
def wL{F:List BE}{i:Nat}{f n:BE}(c:F[i]? =some f): ∀g∈F,g.1.1≠f.1.1->g∈F.set i n:=by intro g a b;have⟨j,d⟩:=Dn a;apply BN (i:=j);grind
def KP.change{n:Int}{L:List AE}{F:List BE}{D:List Ag}{R:List BX}{e:AE}{i:Nat}{f g:BE}(h:KP n L F D R)(G:FD B n F D)
  (t:e.2.1=1\/e.2.1=2) (u:F[i]? =some f) (I:f.1.1=e.2.2.2.2.2.2.1.1) (v:g.1=upd f.1 e) (y:g.2.1=true)
  (J: ∀j k,F[j]? =some k->k.1.1=f.1.1->j=i) (H:Bj L f.1.1<e.1):KP n (L++[e]) (F.set i g) D R:=by
 have w:i<F.length:=by rcases Ay i F.length with h|h;exact h;rw[Cm h]at u;cases u
 have A:g∈F.set i g:=BN (i:=i) (Gt w);have C:g.1.1=f.1.1:=by rw[v];rfl
 intro p K M;obtain⟨a,b,c⟩:=h p K M;have E:cE p e=(f.1.1==p):=by rw[I];unfold cE;rcases t with h|h<;>simp[h]
 rw[O8,zk,E];by_cases l:f.1.1=p;subst l;rw[beq_self_eq_true,if_pos rfl,if_pos rfl];refine⟨λk t m=>?_,λd o m=>absurd m ((G f (BN u)).2.2.1 d o),λr hr=>⟨by have:=(c r hr).1;omega,λ_ q=>?_⟩⟩;obtain⟨j,x⟩:=Dn t;by_cases s:j=i;subst s;rw[Gt w]at x;rw[<-Bf x,v];exact congrArg (λz=>upd z e) (a f (BN u) rfl);rw[DU (λh=>s h.symm)]at x;exact absurd (J j k x m) s;have:=q g A C;rw[y]at this;cases this;rw[if_neg (by simpa using l),if_neg (by simpa using l)];refine⟨λk t m=>?_,b,λr hr=>⟨(c r hr).1,λo q=>(c r hr).2 o λk t m=>?_⟩⟩;rcases OY t with h|h;exact a k h m;subst h;exact absurd (C.symm.trans m) l;exact q k (wL u k t o!) m
def FD.set{n:Int}{F:List BE}{D:List Ag}{i:Nat}{f g:BE}(h:FD B n F D)(b:F[i]? =some f)(c:g.1.1=f.1.1):FD B n (F.set i g) D:=by intro k d;rcases OY d with a|a;exact h k a;subst a;rw[c];exact h f (BN b)
def KP.supply{n:Int}{L:List AE}{F:List BE}{D l:List Ag}{R:List BX}{x:AU}{g:BE}(h:KP n L F D R)(y:x=st L x.1)
  (w: ∀f∈F,f.1.1≠x.1) (t:g.1=x) (i:(g.2.1=true/\l=D.filter λd=>d.1 !=x.1)\/(g.2.1=false/\(∀d∈D,d.1≠x.1)/\l=D)):KP n L (F++[g]) l R:=by
 intro p z A;obtain⟨a,b,c⟩:=h p z A;have v: ∀d∈l,d∈D:=by rcases i with⟨_,e⟩|⟨_,_,e⟩<;>subst e;exact λd i=>(BW.1 i).1;exact λd i=>i
 refine⟨λf j e=>?_,λd i=>b d (v d i),λr hr=>⟨(c r hr).1,λq s=>(c r hr).2 ?_ λf j=>s f (GI _ j)⟩⟩;rcases An.1 j with j|j;exact a f j e;rw[A6]at j;subst j;rw[t]at e⊢;rw[<-e];exact y;intro d k e;rcases i with⟨u,o⟩|⟨_,_,o⟩<;>subst o;by_cases m:p=x.1;have:=s g k! (by rw[t,m]);rw[u]at this;cases this;exact q d (BW.2 ⟨k,w!⟩) e;exact q d k e
def FD.supply{n:Int}{F:List BE}{D b:List Ag}{p:Int}{g:BE}(h:FD B n F D)(k:0<=p)(l:p<n)(i:B p)(j:g.1.1=p)(e: ∀d∈b,d∈D)(hn: ∀d∈b,d.1≠p):FD B n (F++[g]) b:=by intro f a;rcases An.1 a with a|a;exact⟨(h f a).1,(h f a).2.1,λd c=>(h f a).2.2.1 d (e d c),(h f a).2.2.2⟩;grind
end Go.Pm
namespace Go.Pm
open Go Go.Ab
set_option maxHeartbeats 400000
variable {B:Int->Prop}
def SB(k:AS):Prop:=GH k.2.2.2.2.1/\k.2.2.2.2.2.1.length<=16777216/\k.2.2.2.2.2.2.2.length<=16777216
def SK(B:Int->Prop)(k:AS):Prop:=GH k.2.2.2.2.1/\k.2.2.2.2.2.1.length<=16777216/\k.2.2.2.2.2.2.2.length<=16777216/\KI B k
def SK.sb{k:AS}(h:SK B k):SB k:=⟨h.1,h.2.1,h.2.2.1⟩
def SK.ki{k:AS}(h:SK B k):KI B k:=h.2.2.2
def SB.sk{k:AS}(h:SB k)(g:KI B k):SK B k:=⟨h.1,h.2.1,h.2.2,g⟩
def VK(k:AS):Prop:=1<=k.1/\k.1<=64/\Do k.2.2.1/\PB k.2.2.2.1/\Zb k.2.2.2.2.1/\Yg k.2.2.2.2.2.1/\lH k.2.2.2.2.2.2.1/\k.2.2.2.2.2.2.1.length=k.1
def cz{x:AS}(h:SB x):Aq (LY x) λr=>r=true->VK x:=by
 unfold LY VK;unfold SB at h
 exact x!
def YI{x:AS×Int}{s:Int×Ag}(h:0<=s.1/\s.1<=x.1.2.2.2.2.2.2.2.length/\x.1.2.2.2.2.2.2.2.length<=16777216/\ ∀(i:Nat) (d:Ag),i<s.1->x.1.2.2.2.2.2.2.2[i]? =some d->d.1≠x.2):Aq (Ah (NA x) s) λr=>(∃d∈x.1.2.2.2.2.2.2.2,r= .inl (true,d)/\d.1=x.2)\/ ∃z,r= .inr z/\ ∀d∈x.1.2.2.2.2.2.2.2,d.1≠x.2:=by
 refine AW (λ(s:Int×Ag)=>0<=s.1/\s.1<=x.1.2.2.2.2.2.2.2.length/\x.1.2.2.2.2.2.2.2.length<=16777216/\ ∀(i:Nat) (d:Ag),i<s.1->x.1.2.2.2.2.2.2.2[i]? =some d->d.1≠x.2) (λ(s:Int×Ag)=>((x.1.2.2.2.2.2.2.2.length:Int)-s.1).toNat) h (λs j=>?_);have⟨c,m,f,g⟩:=j;unfold NA;refine AC (λa=>?_) (λa=>AB (.inr ⟨_,rfl,λd b=>?_⟩));simp[len]at a;refine AA (AI c a) λv o=>?_;apply AP<;>intro n;grind[AA,AI,AB,Option.some.inj];have e:=AY (x:=s.1+1);refine AB ⟨⟨d!,d!,f,λi d k b=>?_⟩,d!⟩;dsimp only at k;by_cases l:(i:Int)<s.1;exact g i d l b;have:i=s.1.toNat:=o!
 grind[Option.some.inj];grind[List.getElem?_of_mem,Nat.lt_or_ge,List.getElem?_eq_none]
def Jh{x:AS×Int}(h:SB x.1):Aq (Ey x) λr=>(r.2=true->r.1∈x.1.2.2.2.2.2.2.2/\r.1.1=x.2)/\(r.2=false-> ∀d∈x.1.2.2.2.2.2.2.2,d.1≠x.2):=by unfold Ey;refine AA (YI ⟨o!,d!,h.2.2,λi d a=>absurd a d!⟩) λv b=>?_;grind[BL,AB,BA]
def YJ{x:AS}{s:Int}(h:0<=s/\s<=x.2.2.2.2.2.1.length/\(x.2.2.2.2.2.1.length:Int)<=16777216):Aq (Ah (NB x) s) λr=>r≠ .inl true:=by
 refine AW (λ(s:Int)=>0<=s/\s<=x.2.2.2.2.2.1.length/\(x.2.2.2.2.2.1.length:Int)<=16777216) (λ(s:Int)=>((x.2.2.2.2.2.1.length:Int)-s).toNat) h (λs b=>?_);unfold NB;exact x!
def YK{x:AS}{s:Int}(h:0<=s/\s<=x.2.2.2.1.2.1.length/\(x.2.2.2.1.2.1.length:Int)<=16777216/\SB x):Aq (Ah (NC x) s) λr=>r≠ .inl true:=by
 refine AW (λ(s:Int)=>0<=s/\s<=x.2.2.2.1.2.1.length/\(x.2.2.2.1.2.1.length:Int)<=16777216/\SB x) (λ(s:Int)=>((x.2.2.2.1.2.1.length:Int)-s).toNat) h (λs b=>?_);unfold NC;exact x!
def YL{x:AS}{s:Int}(h:0<=s/\s<=x.2.2.2.2.1.1.length/\(x.2.2.2.2.1.1.length:Int)<=16777216):Aq (Ah (ND x) s) λr=>r≠ .inl true:=by
 refine AW (λ(s:Int)=>0<=s/\s<=x.2.2.2.2.1.1.length/\(x.2.2.2.2.1.1.length:Int)<=16777216) (λ(s:Int)=>((x.2.2.2.2.1.1.length:Int)-s).toNat) h (λs b=>?_);unfold ND;exact x!
def YM{x:AS}{s:Int}(h:0<=s/\s<=x.2.2.2.2.1.2.length/\(x.2.2.2.2.1.2.length:Int)<=16777216):Aq (Ah (NF x) s) λr=>r≠ .inl true:=by
 refine AW (λ(s:Int)=>0<=s/\s<=x.2.2.2.2.1.2.length/\(x.2.2.2.2.1.2.length:Int)<=16777216) (λ(s:Int)=>((x.2.2.2.2.1.2.length:Int)-s).toNat) h (λs b=>?_);unfold NF;exact x!
def CC{x:AS}(h:SB x):Aq (Bk x) λr=>r=true->VK x:=by
 unfold Bk;repeat' with_reducible first|intro a|apply AO|apply AL|(apply BL;try dsimp only)|(apply BA;try dsimp only)|(apply A9<;>(intro u b;try subst b))|apply AB|(refine AM ?_ (cz ?_);intro r hr)|(refine AM ?_ (YJ ?_);intro r hr)|(refine AM ?_ (YK ?_);intro r hr)|(refine AM ?_ (YL ?_);intro r hr)|(refine AM ?_ (YM ?_);intro r hr)
 all_goals ((try dsimp[len]at*);(try first|omega|assumption|grind[SB,VK,GH,PB]))
def Y2{x:List Am×Int}{s:Int}(h:0<=s/\s<=x.1.length/\(x.1.length:Int)<=16777216):Aq (Ah (Jf x) s) λr=> ∀u,r= .inl u->0<=u/\u<x.1.length/\ ∃t,x.1[u.toNat]? =some t/\t.1=x.2:=by
 refine AW (λ(s:Int)=>0<=s/\s<=x.1.length/\(x.1.length:Int)<=16777216) (λ(s:Int)=>((x.1.length:Int)-s).toNat) h (λs b=>?_);unfold Jf;exact x!
def H5{x:List Am×Int}(h:x.1.length<=16777216):Aq (Eg x) λr=> -1<=r/\r<x.1.length/\(0<=r-> ∃t,x.1[r.toNat]? =some t/\t.1=x.2):=by
 unfold Eg;exact x!
def Fi{x:List Am×Int}(h:x.1.length<=16777216):Aq (Ca x) λr=> -1<=r/\r<x.1.length/\(0<=r-> ∃t,x.1[r.toNat]? =some t/\t.1=x.2):=by
 unfold Ca;exact x!
def mM(p:Bv)(id:Int):Prop:= ∃(i:Nat) (f:BE),p.2.1[i]? =some f/\f.1.1=id
def Y1{x:Bv×Int}{s:Int}(h:0<=s/\s<=x.1.2.1.length/\(x.1.2.1.length:Int)<=16777216/\ ∀(i:Nat) (f:BE),i<s->x.1.2.1[i]? =some f->f.1.1≠x.2):Aq (Ah (N1 x) s) λr=>(∃u,r= .inl u/\0<=u/\u<x.1.2.1.length/\ ∃f,x.1.2.1[u.toNat]? =some f/\f.1.1=x.2)\/(r= .inr ()/\ ¬mM x.1 x.2):=by
 refine AW (λ(s:Int)=>0<=s/\s<=x.1.2.1.length/\(x.1.2.1.length:Int)<=16777216/\ ∀(i:Nat) (f:BE),i<s->x.1.2.1[i]? =some f->f.1.1≠x.2) (λ(s:Int)=>((x.1.2.1.length:Int)-s).toNat) h (λs b=>?_);unfold N1;repeat' with_reducible first|intro a|apply AC|apply AP|apply AL|apply AB|(refine AM ?_ (AI ?_ ?_);rintro r ⟨hr,c⟩)
 all_goals try (have e:=AY (x:=s+1))
 all_goals first|omega|grind[mM]
def Ga{x:Bv×Int}(h:x.1.2.1.length<=16777216):Aq (FW x) λr=> -1<=r/\r<x.1.2.1.length/\(0<=r-> ∃f,x.1.2.1[r.toNat]? =some f/\f.1.1=x.2)/\(r<0-> ¬mM x.1 x.2):=by refine AA (Y1 (by refine⟨o!,o!,o!,λi f a=>absurd a o!⟩)) λs b=>?_;grind[BL,AB,BA]
def Fh{x:Bv×Int}:Aq (EG x) λr=> -1<=r/\r<x.1.2.1.length/\(0<=r->PB x.1/\ ∃f,x.1.2.1[r.toNat]? =some f/\f.1.1=x.2)/\(PB x.1->mM x.1 x.2->0<=r):=by
 unfold EG;repeat' with_reducible first|intro b|apply AO|apply AL|apply AB|(apply AA (EQ);intro r hr)|(refine AM ?_ (Ga ?_);intro r hr)
 all_goals first|omega|(have a:PB x.1:=q!;have:=a.1;have:=a.2.1;have:=a.2.2.1;omega)|grind
def Ig{x:Bv×Int}:Aq (Fx x) λr=>(r.2=true->PB x.1/\F9 r.1/\mM x.1 x.2/\r.1.1=x.2/\ ∃f∈x.1.2.1,f.1=r.1)/\(r.2=false->PB x.1-> ¬mM x.1 x.2):=by
 unfold Fx;repeat' with_reducible first|intro a|apply AC|apply AL|apply AB|(apply AA (Fh);intro r hr)|(refine AM ?_ (AI ?_ ?_);rintro r ⟨hr,b⟩)
 all_goals first|omega|(simp;grind)|grind[PB,J8,nq,mM]
theorem Do.last{x:Ad}(h:Do x):wi (wi (x.1+len x.2.1)-1)=x.1+x.2.1.length-1:=by have⟨a,b,c,d,e,f⟩:=h;grind[AY]
def Do.at{x:Ad}{n:Int}{e:AE}(h:Do x)(a:x.1<=n)(b:n<=x.1+x.2.1.length-1)(c:x.2.1[(wi (n-x.1)).toNat]? =some e):Ln e/\e.1=n:=by have⟨a1,a2,a3,a4,a5,a6⟩:=h;grind[AY]
theorem Do.append{x:Ad}{e:AE}{l:List AE}(h:Do x)(b:x.2.1.length≠4096)(d:Ln e)(c:e.1=x.1+x.2.1.length)(a:l=x.2.1++[e]):Do (x.1,l,x.2.2):=by have⟨a1,a2,a3,a4,a5,a6⟩:=h;subst a;refine⟨a1,a2,w!,a4,w!,λi f g=>?_⟩;grind[Nat.lt_or_ge,List.getElem?_append_right,List.getElem?_eq_none]
def Do.force{x:Ad}{n:Int}(h:Do x)(a:n<=x.1+x.2.1.length-1):Do (x.1,x.2.1,if n>x.2.2 then n else x.2.2):=by have⟨a1,a2,a3,a4,a5,a6⟩:=h;refine⟨a1,a2,a3,?_,?_,a6⟩<;>(dsimp only;split<;>omega)
def Ff{x:Ad}:Aq (Ed x) λr=>Do x->r=x.1+x.2.1.length-1:=by
 unfold Ed;repeat' with_reducible first|intro a|apply AO|apply AL|apply AB|(apply AA (Bc);intro r hr)|(apply AA (Ee);intro r hr)
 all_goals ((try dsimp[len]at*);(try first|omega|assumption|grind[Do.last]))
def Jd{x:Ad×Int}:Aq (EL x) λr=>(r.2=0->Do r.1/\r.1.2.1=x.1.2.1/\r.1.1=x.1.1/\x.1.2.2<=r.1.2.2/\x.2<=r.1.2.2):=by
 unfold EL;repeat' with_reducible first|apply AC<;>intro a|apply AO<;>intro a|apply AL<;>intro a|apply AB|(apply AA (Bc);intro r hr)|(apply AA (Ee);intro r hr)
 all_goals try (intro _;have b:Do x.1:=q!
                have c:=b.last;exact⟨b.force o!,rfl,rfl,by dsimp only;split<;>omega,by dsimp only;split<;>omega⟩)
 all_goals exact l!
theorem Gy{x:Ad×Int}:Aq (E7 x) λr=>(r.2=0->Ln r.1/\r.1.1=x.2/\x.1.2.1[(x.2-x.1.1).toNat]? =some r.1/\x.1.1<=x.2)/\(Do x.1->x.1.1<=x.2->x.2<=x.1.1+x.1.2.1.length-1->r.2=0):=by
 unfold E7;repeat' with_reducible first|intro c|apply AC|apply AO|apply AL|apply AB|(apply AA (Bc);intro r hr)|(apply AA (Ee);intro r hr)|(refine AM ?_ (AI ?_ ?_);rintro r ⟨hr,f⟩)
 all_goals try (have a:Do x.1:=q!)
 all_goals try (have e:=a.last;have:=a.1;have:=a.2.1;have:=a.2.2.1)
 all_goals try (have d:wi (x.2-x.1.1)=x.2-x.1.1:=AY)
 all_goals try (have b:=a.at (n:=x.2) o! o! hr;rw[d]at hr;exact⟨λ_=>⟨b.1,b.2,hr,o!⟩,λ_ _ _=>rfl⟩)
 all_goals exact l!
def aL{x:Ad×AE}:Aq (KD x) λr=>(r.2.2=0->Do r.1/\Do x.1/\r.1.2.1=x.1.2.1++[(r.2.1,x.2.2)]/\r.1.1=x.1.1/\r.2.1=x.1.1+x.1.2.1.length/\r.1.2.2=x.1.2.2):=by
 unfold KD;repeat' with_reducible first|intro b|apply AO|apply AP|apply AL|apply AB|(apply AA (Bc);intro r hr)|(apply AA (Ee);intro r hr)|(apply AA (CV);intro r hr)|(refine AM ?_ (AZ ?_);rintro r ⟨hr,c,d⟩)
 all_goals try (have a:Do x.1:=q!)
 all_goals try (have c:=a.last;have:=a.1;have:=a.2.1;have:=a.2.2.1)
 all_goals ((try dsimp[len]at*);(try first|omega|assumption|grind[AY,Do.append]))
def CM{x:AE}:Aq (BJ x) λr=>r=true↔x.2.1=1\/x.2.1=2:=by
 unfold BJ;exact x!
end Go.Pm
namespace Go.Pm
open Go Go.Ab
set_option maxHeartbeats 400000
def ql(n:Int):0<=IntKind.wrap .u64 n:=by rw[Wu];omega
theorem MG(l:List Int):(Ew l).length=l.length:=by simp[Ew]
def aD{x:BT×Int×Int}{s:BT×Int}(h:0<=s.2/\s.2<=x.2.2/\x.2.2<=8/\(s.1.length:Int)=x.1.length+s.2/\x.1.length<=1099511627776):Aq (Ah (GX x) s) λr=>(r.length:Int)=x.1.length+x.2.2:=by
 refine AW (λ(s:BT×Int)=>0<=s.2/\s.2<=x.2.2/\x.2.2<=8/\(s.1.length:Int)=x.1.length+s.2/\x.1.length<=1099511627776) (λ(s:BT×Int)=>(x.2.2-s.2).toNat) h (λs b=>?_);unfold GX;repeat' with_reducible first|intro a|apply AC|apply AL|apply AB|apply aB|(refine AM ?_ (CE ?_);rintro r ⟨hr,c⟩)
 all_goals try (have d:=ql (wi (8*s.2));omega)
 all_goals ((try dsimp[len]at*);(try first|omega|assumption|grind[AY,MG]))
def Db{x:BT×Int×Int}(h:x.1.length<=1099511627776):Aq (Al x) λr=>(1<=x.2.2->x.2.2<=8->(r.length:Int)=x.1.length+x.2.2)/\r.length<=x.1.length+8:=by
 unfold Al;exact x!
def AAd{n:Int}(h:n<=4):(2:Int)^(8*n.toNat)<=4294967296:=by
 have:n.toNat=0\/n.toNat=1\/n.toNat=2\/n.toNat=3\/n.toNat=4:=o!
 rcases this with h|h|h|h|h<;>rw[h]<;>decide
def AFF{n:Int}(h:n<=2):(2:Int)^(8*n.toNat)<=65536:=by
 have:n.toNat=0\/n.toNat=1\/n.toNat=2:=o!
 rcases this with h|h|h<;>rw[h]<;>decide
def ADO{a b:Int}{k:Nat}(e:0<=a)(c:a<2^k)(f:0<=b)(d:b<2^k)(g:k<=64):(0:Int)<=((BitVec.toNat (BitVec.ofInt 64 a|||BitVec.ofInt 64 b):Nat):Int)/\((BitVec.toNat (BitVec.ofInt 64 a|||BitVec.ofInt 64 b):Nat):Int)<2^k:=by
 refine⟨o!,?_⟩;obtain⟨n,rfl⟩:=EY e;obtain⟨m,rfl⟩:=EY f;have hn:n<2^k:=by exact_mod_cast c
 have h:m<2^k:=by exact_mod_cast d
 have i:2^k<=2^64:=dd g! g;rw[BitVec.toNat_or];simp[az,bA];rw[Sv o!,Sv o!];exact_mod_cast Nat.or_lt_two_pow hn h
def xI{a v i:Int}(d:0≤i)(e:i<8)(c:0≤a)(b:a<2^(8*i.toNat))(g:0≤v)(h:v<256):
  0<=IntKind.wrap .u64 (((BitVec.toNat ((BitVec.ofInt 64 a)|||(BitVec.ofInt 64 (IntKind.wrap .u64 ((IntKind.wrap .u64 v)*(2^(min (Int.toNat (IntKind.wrap .u64 (wi (8*i)))) 64))))))):Nat):Int)/\
  IntKind.wrap .u64 (((BitVec.toNat ((BitVec.ofInt 64 a)|||(BitVec.ofInt 64 (IntKind.wrap .u64 ((IntKind.wrap .u64 v)*(2^(min (Int.toNat (IntKind.wrap .u64 (wi (8*i)))) 64))))))):Nat):Int)<2^(8*(wi (i+1)).toNat):=by
 rw[(AY),(AY),(by rw[Wu];omega:IntKind.wrap .u64 (8*i)=8*i),(by rw[Wu];omega:IntKind.wrap .u64 v=v)];obtain⟨n,rfl⟩:=EY d;obtain⟨m,rfl⟩:=EY g;rw[(by omega:min (8*(n:Int)).toNat 64=8*n)];rw[(by omega:((n:Int)+1).toNat=n+1)];rw[(by omega:((n:Int)).toNat=n)]at b;have f:(m:Int)*2^(8*n)<2^(8*(n+1)):=by
  have:(m*2^(8*n):Nat)<2^(8*(n+1)):=by rw[(by grind[Nat.mul_add,Nat.pow_add]:2^(8*(n+1))=256*2^(8*n))];exact Nat.mul_lt_mul_of_pos_right o! (Nat.pow_pos g!)
  exact_mod_cast this
 have l:(2:Int)^(8*(n+1))<=2^64:=by have:(2^(8*(n+1)):Nat)<=2^64:=dd g! o!;exact_mod_cast this
 have j:(0:Int)<=(m:Int)*2^(8*n):=by
  have:(0:Int)<=((m*2^(8*n):Nat):Int):=o!
  exact_mod_cast this
 rw[(by rw[Wu];omega:IntKind.wrap .u64 ((m:Int)*2^(8*n))=(m:Int)*2^(8*n))];have⟨q1,q2⟩:=ADO (k:=8*(n+1)) c (by grind[Nat.pow_le_pow_right]) j f o!;grind[BitVec.toNat,Wu]
def aC{x:BT×Int×Int}{s:Int×Int}(h:0<=s.2/\s.2<=x.2.2/\x.2.2<=8/\0<=x.2.1/\x.2.1+x.2.2<=x.1.length/\x.1.length<=1099511627776/\0<=s.1/\s.1<2^(8*s.2.toNat)):Aq (Ah (GW x) s) λr=>0<=r/\r<2^(8*x.2.2.toNat):=by
 refine AW (λ(s:Int×Int)=>0<=s.2/\s.2<=x.2.2/\x.2.2<=8/\0<=x.2.1/\x.2.1+x.2.2<=x.1.length/\x.1.length<=1099511627776/\0<=s.1/\s.1<2^(8*s.2.toNat)) (λ(s:Int×Int)=>(x.2.2-s.2).toNat) h (λs n=>?_);unfold GW;have⟨d,q,f,g,j,k,l,m⟩:=n;repeat' with_reducible first|intro o|apply AC|apply AL|apply AB|apply aB|(refine AM ?_ (Q2 ?_ ?_);rintro r ⟨hr,p⟩)
 all_goals try (have t:=ql (wi (8*s.2));omega)
 all_goals (first|(have⟨b,c⟩:=xI (a:=s.1) (v:=r) (i:=s.2) d o! l m hr p;have e:=AY (x:=s.2+1);exact⟨⟨o!,o!,f,g,j,k,b,c⟩,d!⟩)|skip)
 all_goals exact l!
def Cc{x:BT×Int×Int}(h:x.1.length<=1099511627776):Aq (Az x) λr=>r.2=0->0<=x.2.1/\x.2.1+x.2.2<=x.1.length/\(x.2.2<=4->0<=r.1/\r.1<4294967296)/\(x.2.2<=2->r.1<65536):=by
 unfold Az;repeat' with_reducible first|apply AC<;>intro c|apply AL<;>intro c|apply AB|(refine AM ?_ (aC ?_);intro r hr)
 all_goals dsimp[len]at*
 all_goals first
  |omega
  |(intro d;exact absurd d g!)
  |(have e:=AY (x:=(x.1.length:Int)-x.2.1);exact⟨o!,o!,o!,o!,o!,h,o!,k!⟩)
  |(intro _;have e:=AY (x:=(x.1.length:Int)-x.2.1);refine⟨o!,o!,λb=>?_,λa=>?_⟩;(have:=AAd b;rw[AY];omega);(have:=AFF a;rw[AY];omega))
def aF  {s:Int×Int}(h:0<=s.2/\s.2<=8):Aq (Ah (Hu) s) λr=>True:=by
 refine AW (λ(s:Int×Int)=>0<=s.2/\s.2<=8) (λ(s:Int×Int)=>(8-s.2).toNat) h (λs b=>?_);unfold Hu;exact x!
def aE{x:BT}{s:Int×Int}(h:0<=s.2/\s.2<=x.length/\x.length<=1099511627776):Aq (Ah (Ht x) s) λr=>True:=by
 refine AW (λ(s:Int×Int)=>0<=s.2/\s.2<=x.length/\x.length<=1099511627776) (λ(s:Int×Int)=>((x.length:Int)-s.2).toNat) h (λs b=>?_);unfold Ht;exact x!
def Pf{x:BT}(h:x.length<=1099511627776):Aq (E6 x) λr=>True:=by
 unfold E6;exact x!
theorem Ta{x:BT}:Aq (Da x) λr=>r.length<=8408:=by
 unfold Da;repeat' with_reducible first|intro a|apply AC|apply AL|apply AB|(refine AM ?_ (Db ?_);intro r hr)|(refine AM ?_ (Pf ?_);intro r hr)|(refine AM ?_ (CE ?_);rintro r ⟨hr,b⟩)
 all_goals dsimp[len]at*
 all_goals exact l!
theorem RN{x:BT×Int}(h:x.1.length<=1099511627776):Aq (BZ x) λr=>r.2.2=0->r.1.length<=8392/\x.2+8+r.1.length=r.2.1/\0<=x.2/\r.2.1<=x.1.length:=by
 unfold BZ;repeat' with_reducible first|intro a|apply AC|apply AJ|apply AL|apply AB|(refine AM ?_ (Cc ?_);intro r hr)|(refine AM ?_ (Pf ?_);intro r hr)|(refine AM ?_ (Bt ?_ ?_ ?_);rintro r ⟨hr,b⟩)
 all_goals dsimp[len]at*
 all_goals exact l!
def fN{x:BT×Ch}(h:x.1.length<=1099511627776)(b:x.2.2.length<=16777216):Aq (GK x) λr=>r.length<=x.1.length+8+x.2.2.length:=by
 unfold GK;exact x!
def Uy.lens{x:AE}(h:Uy x):x.2.2.2.2.2.2.1.2.2.1.2.length<=12/\x.2.2.2.2.2.2.1.2.2.2.2.length<=12/\x.2.2.2.2.2.2.2.length<=8192:=by grind[Uy,OV,Fo,Pq]
theorem aJ{x:AE}:Aq (Fe x) λr=>r.1.length<=8400:=by
 unfold Fe;repeat' with_reducible first|intro a|apply AO|apply AL|apply AB|(apply AA (CV);intro r hr)|(refine AM ?_ (Db ?_);intro r hr)|(refine AM ?_ (fN ?_ ?_);intro r hr)|(refine AM ?_ (CE ?_);rintro r ⟨hr,b⟩)
 all_goals try (have c:=(Uy.lens (x:=x) (by unfold Ln at*;grind)))
 all_goals exact l!
def AE8(k:Nat):(0:Int)<256^k:=by have:0<256^k:=Nat.pow_pos g!;grind
def AH8(b k:Nat):(b:Int)*256^k=((b*256^k:Nat):Int):=q!
def Cy(n:Int):Nat->BT
 |0=>[]
 |k+1=>UInt8.ofNat (n%256).toNat::Cy (n/256) k
def nU:BT->Nat
 |[]=>0
 |b::r=>b.toNat+256*nU r
theorem Ax: ∀(k:Nat) (n:Int),(Cy n k).length=k
 |0,n=>rfl
 |k+1,n=>by rw[Cy,Bn,Ax k]
theorem sP: ∀l:BT,nU l<256^l.length
 |[]=>by simp[nU]
 |b::r=>by have a:=sP r;have c:=b.toNat_lt;grind[nU,List.length_cons,Nat.pow_succ]
def AAa: ∀l:BT,Cy (nU l:Int) l.length=l
 |[]=>rfl
 |b::r=>by have a:=b.toNat_lt;rw[Bn,Cy,(by rw[nU];omega:((nU (b::r):Nat):Int)/256=(nU r:Int)),(by rw[nU];omega:(((nU (b::r):Nat):Int)%256).toNat=b.toNat),AAa r];simp
def ua: ∀(k:Nat) (n m:Int),n%256^k=m%256^k->Cy n k=Cy m k
 |0,_,_,_=>rfl
 |k+1,n,m,h=>by
  have e:(256:Int)^(k+1)=256^k*256:=Int.pow_succ ..;have b:n%256=m%256:=by have a:n%256^(k+1)%256=n%256:=Int.emod_emod_of_dvd n ⟨256^k,by rw[e,Int.mul_comm]⟩;simp_all
  have c:n/256%256^k=m/256%256^k:=by
   have g: ∀x:Int,x/256%256^k=x%256^(k+1)/256:=λx=>by have d:=nv (x/256) (256^k);have f:=nv x (256*256^k);grind[Int.ediv_ediv_of_nonneg]
   grind
  rw[Cy,Cy,b,ua k _ _ c]
def sO: ∀(k:Nat) (n:Int),Cy n (k+1)=Cy n k++[UInt8.ofNat (n/256^k%256).toNat]
 |0,n=>by simp[Cy]
 |k+1,n=>by rw[Cy,sO k (n/256),Cy];grind[Int.pow_succ,Int.mul_comm,Int.ediv_ediv_of_nonneg]
theorem qd: ∀(k:Nat) (n:Int),((nU (Cy n k):Nat):Int)=n%256^k
 |0,n=>by simp[Cy,nU]
 |k+1,n=>by
  rw[Cy,nU];have b:(UInt8.ofNat (n%256).toNat).toNat=(n%256).toNat:=by grind[UInt8.toNat_ofNat']
  have c:=qd k (n/256);have a:=nv (n/256) (256^k);grind[Int.mul_ediv_add_emod,Int.ediv_ediv_of_nonneg]
theorem sQ: ∀(l:BT) (b:UInt8),nU (l++[b])=nU l+b.toNat*256^l.length
 |[],b=>by simp[nU]
 |a::r,b=>by rw[Di,nU,sQ r b,nU,Bn,Nat.pow_succ,Nat.mul_add];grind
def au(k:Nat)(n:Int):Prop:=(k<=7->0<=n/\n<256^k)/\ -9223372036854775808<=n/\n<=9223372036854775807
theorem XN{k:Nat}(f:k<=8){n m:Int}(hn:au k n)(d:au k m)(h:Cy n k=Cy m k):n=m:=by
 have e:=qd k n;rw[h,qd k m]at e;by_cases c:k<=7;have a:=hn.1 c;have b:=d.1 c;grind[Int.emod_eq_of_lt];have:k=8:=o!
 have a:=hn.2;have b:=d.2;grind
def rd(l:BT):Int:=wi (nU l:Int)
def AH9{k:Nat}(h:k<=7):(256:Int)^k<=72057594037927936:=by
 have:k=0\/k=1\/k=2\/k=3\/k=4\/k=5\/k=6\/k=7:=o!
 grind
theorem zT{l:BT}(h:l.length<=8):au l.length (rd l):=by have b:=sP l;have d:rd l=((nU l:Int)+9223372036854775808)%18446744073709551616-9223372036854775808:=AD5 _;refine⟨λa=>?_,o!⟩;have c:=AH9 a;grind
theorem vi{l:BT}(h:l.length<=8):Cy (rd l) l.length=l:=by
 rw[show Cy (rd l) l.length=Cy (nU l:Int) l.length from ?_,AAa];apply ua;by_cases a:l.length<=7;have c:=AH9 a;have b:(nU l:Int)<256^l.length:=by grind[sP]
 have:rd l=(nU l:Int):=by unfold rd;exact AY
 rw[this];have:l.length=8:=o!
 rw[this,show(256:Int)^8=18446744073709551616 by decide];unfold rd;rw[AD5];omega
theorem pE{k:Nat}{n:Int}(a:k<=8)(h:au k n):rd (Cy n k)=n:=by grind[Ax,XN,zT,Cy,vi]
def zQ(k:Nat):(2:Int)^(8*k)=256^k:=by grind[Int.pow_mul]
def ADa{n:Int}{i:Int}(c:0<=i)(d:i<8):Ew ([IntKind.wrap .u8 (Int.fdiv (IntKind.wrap .u64 n) (2^(min (Int.toNat (IntKind.wrap .u64 (wi (8*i)))) 64)))]:List Int)=[UInt8.ofNat (n/256^i.toNat%256).toNat]:=by
 have a:wi (8*i)=8*i:=AY;have b:IntKind.wrap .u64 (8*i)=8*i:=by rw[Wu];omega
 rw[a,b,show min (8*i).toNat 64=8*i.toNat by omega,zQ];have e:=AE8 i.toNat
 rw[je _ o!,Wu,AFk];have:n%18446744073709551616/256^i.toNat%256=n/256^i.toNat%256:=by
  have:i.toNat=0\/i.toNat=1\/i.toNat=2\/i.toNat=3\/i.toNat=4\/i.toNat=5\/i.toNat=6\/i.toNat=7:=o!
  rcases this with h|h|h|h|h|h|h|h<;>rw[h];rw[show(256:Int)^0=1 by decide];omega;rw[show(256:Int)^1=256 by decide];omega;rw[show(256:Int)^2=65536 by decide];omega;rw[show(256:Int)^3=16777216 by decide];omega;rw[show(256:Int)^4=4294967296 by decide];omega;rw[show(256:Int)^5=1099511627776 by decide];omega;rw[show(256:Int)^6=281474976710656 by decide];omega;rw[show(256:Int)^7=72057594037927936 by decide];omega
 rw[this];rfl
theorem Hf{s:BT}{n:Int}{k:Int}(h:s.length<=1099511627776)(i:1<=k)(j:k<=8):Al (s,(n,k))=some (s++Cy n k.toNat):=by
 have key:Aq (Ah (GX (s,(n,k))) (s,0)) λr=>r=s++Cy n k.toNat:=by refine AW (λ(t:BT×Int)=>0<=t.2/\t.2<=k/\t.1=s++Cy n t.2.toNat) (λt=>(k-t.2).toNat) ⟨Ae _,d!,by simp[Cy]⟩ ?_;rintro⟨l,a⟩ ⟨b,g,c⟩;dsimp only at b g c;subst c;unfold GX;dsimp only;refine AC (λd=>?_) (λd=>AB (by rw[show a=k by omega]));refine AC (λe=>absurd e (by have:=ql (wi (8*a));omega)) (λ_=>?_);rw[ADa b o!];refine AA (CE (by rw[Ac,Ax];simp;omega)) λv f=>AB ?_;rw[(AY)];refine⟨⟨o!,o!,?_⟩,o!⟩;rw[f.1,show(a+1).toNat=a.toNat+1 by omega,sO,A0]
 obtain⟨r,hr,rfl⟩:=key;unfold Al;grind
def yF{a t:BT}{i:Int}(c:0<=i)(d:i<t.length)(e:(a.length:Int)<=2199023255552)(f:(t.length:Int)<=2199023255552): ∃b:UInt8,six (a++t) (wi ((a.length:Int)+i))=some (b.toNat:Int)/\t.take (i+1).toNat=t.take i.toNat++[b]:=by obtain⟨k,rfl⟩:=EY c;refine⟨t[k],?_,?_⟩;grind[AY,six];simp_all
theorem AG1{a b k:Nat}(h:a<256^k)(f:b<256)(g:k<8):BitVec.toNat (BitVec.ofInt 64 (a:Int)|||BitVec.ofInt 64 ((b:Int)*256^k))=a+b*256^k:=by
 have e:(256:Nat)^k=2^(8*k):=by rw[Nat.pow_mul]
 have d:a+b*256^k<256^(k+1):=by
  have:b*256^k+256^k<=256*256^k:=by rw[<-Nat.succ_mul];exact Mn _ o!
  omega
 have c:(256:Nat)^(k+1)<=2^64:=by rw[show(2:Nat)^64=256^8 by decide];exact dd g! o!
 rw[AH8];rw[BitVec.toNat_or,az,az,bA,bA,Sv o!,Sv o!];grind[Nat.mul_comm,Nat.two_pow_add_eq_or_of_lt]
theorem AAR{a:Nat}{b:UInt8}{i:Int}(g:0<=i)(h:i<8)(k:a<256^i.toNat)(j:Int)(d:j=8*i):IntKind.wrap .u64 (((BitVec.toNat ((BitVec.ofInt 64 (a:Int))|||(BitVec.ofInt 64 (IntKind.wrap .u64 ((IntKind.wrap .u64 (b.toNat:Int))*(2^(min (Int.toNat j) 64))))))):Nat):Int)=((a+b.toNat*256^i.toNat:Nat):Int):=by
 have l:=b.toNat_lt;have c:(256:Nat)^(i.toNat+1)<=2^64:=by rw[show(2:Nat)^64=256^8 by decide];exact dd g! o!
 have e:a+b.toNat*256^i.toNat<256^(i.toNat+1):=by
  have:b.toNat*256^i.toNat+256^i.toNat<=256*256^i.toNat:=by rw[<-Nat.succ_mul];exact Mn _ o!
  omega
 rw[d,(by rw[Wu];omega:IntKind.wrap .u64 (b.toNat:Int)=b.toNat),show min (8*i).toNat 64=8*i.toNat by omega,zQ];have f:IntKind.wrap .u64 ((b.toNat:Int)*256^i.toNat)=(b.toNat:Int)*256^i.toNat:=by rw[Wu,AH8];omega
 grind[AG1,Wu]
theorem iK{a t:BT}{k:Int}(h:(a.length:Int)+t.length<=2199023255552)(v:1<=k)(w:k<=8):Az (a++t,((a.length:Int),k))=if k<=t.length then some (rd (t.take k.toNat),0)else some (0,5):=by
 unfold Az;dsimp only;have d:len (a++t)=(a.length:Int)+t.length:=by unfold len;rw[List.length_append];omega
 rw[decide_eq_false o!,cond_false,decide_eq_false o!,cond_false,decide_eq_false o!,cond_false,decide_eq_false o!,cond_false];have q:wi (len (a++t)-(a.length:Int))=t.length:=by rw[d,AY];omega
 by_cases g:k<=t.length;rw[decide_eq_false o!,cond_false,if_pos g];have key:Aq (Ah (GW (a++t,((a.length:Int),k))) (0,0)) λr=>r=(nU (t.take k.toNat):Int):=by
  refine AW (λ(s:Int×Int)=>0<=s.2/\s.2<=k/\s.1=(nU (t.take s.2.toNat):Int)) (λs=>(k-s.2).toNat) ⟨Ae _,d!,by simp[nU]⟩ ?_;rintro⟨x,c⟩ ⟨f,u,l⟩;dsimp only at f u l;subst l;unfold GW;dsimp only;refine AC (λo=>?_) (λo=>AB (by rw[show c=k by omega]));obtain⟨b,q1,q2⟩:=yF (a:=a) (t:=t) (i:=c) f o! o! o!;rw[q1,AD];refine AC (λp=>absurd p (by have:=ql (wi (8*c));omega)) (λ_=>AB ?_);have e:wi (c+1)=c+1:=AY;have m:wi (8*c)=8*c:=AY;have n:IntKind.wrap .u64 (8*c)=8*c:=by rw[Wu];omega
  have j:(t.take c.toNat).length=c.toNat:=by rw[BQ];omega
  dsimp only;rw[e,AAR f o! (by have:=sP (t.take c.toNat);rwa [j]at this) _ (by rw[m,n])];refine⟨⟨o!,o!,?_⟩,o!⟩;rw[q2,sQ,j]
 obtain⟨r,hr,rfl⟩:=key;rw[hr];rfl;rw[decide_eq_true o!,cond_true,if_neg g]
theorem XO{a t:BT}{k:Int}(h:(a.length:Int)+t.length<=2199023255552)(p:1<=k)(q:k<=8):By (a++t,((a.length:Int),k))=if k<=t.length then some (rd (t.take k.toNat),0)else some (0,5):=by
 unfold By;dsimp only;have f:len (a++t)=(a.length:Int)+t.length:=q!
 rw[decide_eq_false o!,cond_false,decide_eq_false o!,cond_false,decide_eq_false o!,cond_false,decide_eq_false o!,cond_false];have m:wi (len (a++t)-(a.length:Int))=t.length:=by grind[AY]
 by_cases l:k<=t.length;rw[decide_eq_false o!,cond_false,if_pos l];have key:Aq (Ah (UR (a++t,((a.length:Int),k))) (0,0)) λr=>r=(nU (t.take k.toNat):Int):=by refine AW (λ(s:Int×Int)=>0<=s.2/\s.2<=k/\s.1=(nU (t.take s.2.toNat):Int)) (λs=>(k-s.2).toNat) ⟨Ae _,d!,by simp[nU]⟩ ?_;rintro⟨u,c⟩ ⟨d,n,e⟩;dsimp only at d n e;subst e;unfold UR;dsimp only;refine AC (λg=>?_) (λg=>AB (by rw[show c=k by omega]));have⟨b,q1,q2⟩:=yF (a:=a) (t:=t) (i:=c) d o! o! o!;have o:wi (8*c)=8*c:=AY;rw[q1,AD];refine AC (λj=>absurd j o!) (λ_=>AB ?_);grind[AY,AAR,sP,sQ]
 obtain⟨r,hr,rfl⟩:=key;rw[hr];rfl;grind
def OI(x:BT×Int×Int):Option BT:=
 bif decide (x.1.length<=1099511627776)&&(decide (1<=x.2.2)&&decide (x.2.2<=8))then some (x.1++Cy x.2.1 x.2.2.toNat)else none
def Kb(x:BT×Int):Option BT:=
 bif (x.1==[0])&&(decide (0<=x.2)&&decide (x.2<=8000))then some (List.replicate x.2.toNat 0)else none
def AG9(a b:AU):Bool:=(a.1==b.1)&&((a.2.1==b.2.1)&&(List.finRange 16).foldr (λi r=>((a.2.2 i).1==(b.2.2 i).1)&&(((a.2.2 i).2==(b.2.2 i).2)&&r)) true)
end Go.Pm
