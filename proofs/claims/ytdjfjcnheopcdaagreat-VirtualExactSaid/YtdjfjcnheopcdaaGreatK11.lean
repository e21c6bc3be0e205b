/- Texts of wip, joined and shortened by wip/tools/pack.py; nothing is assumed. -/
import Derived.Test.YtdjfjcnheopcdaaGreatK10
noncomputable section
set_option linter.all false
namespace Go.Pm
open Go Go.Ab
def BD.lt{n:Int}{l:List Int}(h:BD n l): ∀(d i:Nat) (x y:Int),l[i]? =some x->l[i+1+d]? =some y->x<y
 |0,i,x,y,hx,hy=>by have:=C0 hy;exact h.2.2.2.2.2.1 i x y o! hx hy
 |d+1,i,x,y,hx,hy=>by have e:=C0 hy;have a:l[i+1+d]? =some (l[i+1+d]' o!):=Au o!;have b:=BD.lt h d i x _ hx a;have c:=h.2.2.2.2.2.1 (i+1+d) _ y o! a q!;omega
def BD.le{n:Int}{l:List Int}(h:BD n l){i j:Nat}{x y:Int}(a:i<=j)(b:l[i]? =some x)(c:l[j]? =some y):x<=y:=by
 by_cases e:i=j;grind;obtain⟨d,rfl⟩: ∃d,j=i+1+d:=⟨j-(i+1),o!⟩
 have:=h.lt d i x y b c;omega
def BD.mem{n:Int}{l:List Int}(h:BD n l){i:Nat}{x:Int}(a:l[i]? =some x):0<=x/\x<n:=by have f:=C0 a;have b:l[l.length-1]? =some (l[l.length-1]' o!):=Au o!;have c:=h.le (Bi i) h.2.2.2.2.1 a;have d:=h.le (by omega:i<=l.length-1) a b;have e:=h.2.2.2.2.2.2 _ b;omega
def BD.inj{n:Int}{l:List Int}(h:BD n l){i j:Nat}{x:Int}(b:l[i]? =some x)(c:l[j]? =some x):i=j:=by
 rcases P1 i j with a|a|a;obtain⟨d,rfl⟩: ∃d,j=i+1+d:=⟨j-(i+1),o!⟩
 have:=h.lt d i x x b c;omega;exact a;obtain⟨d,rfl⟩: ∃d,i=j+1+d:=⟨i-(j+1),o!⟩
 have:=h.lt d j x x c b;omega
def mb(a:AJ)(i:Nat):Int:=match a.1[i+1]? with
 |some h=>h-1
 |none=>a.2.1-1
def Ki(a:AJ)(lo hi:Int):Prop:= ∃i:Nat,a.1[i]? =some lo/\hi=mb a i
def AA5{a:AJ}(h:BD a.2.1 a.1){i:Nat}(c:i<a.1.length):(∀w,a.1[i+1]? =some w->wi (w-1)=mb a i)/\(a.1.length<=i+1->wi (a.2.1-1)=mb a i):=by refine⟨λw b=>?_,λd=>?_⟩;have:=h.mem b;have:=h.2.1;grind[mb,Aa];have:=h.1;have:=h.2.1;grind[mb,List.getElem?_eq_none,Aa]
def kD{a:AJ}(h:BD a.2.1 a.1){i:Nat}{b:Int}(c:a.1[i]? =some b):El (a,(i:Int))=some (b,mb a i):=by
 have f:=C0 c;have d:=h.2.2.2.1;have⟨j,k⟩:=AA5 h f;unfold El;rw[Aa (x:=(i:Int)+1),(by unfold ix;rw[if_pos o!,Int.toNat_natCast,c]:ix a.1 (i:Int)=some b)];by_cases e:i+1<a.1.length;have g:ix a.1 ((i:Int)+1)=some a.1[i+1]:=by unfold ix;rw[if_pos o!,show((i:Int)+1).toNat=i+1 by omega,(List.getElem?_eq_getElem e)]
 grind;grind
def ua{a:AJ}(h:BD a.2.1 a.1){i:Nat}{b:Int}(c:a.1[i]? =some b):Ju (a,(i:Int))=some (b,mb a i):=by
 have f:=C0 c;have d:=h.2.2.2.1;have⟨j,k⟩:=AA5 h f;unfold Ju;rw[Aa (x:=(i:Int)+1),(by unfold ix;rw[if_pos o!,Int.toNat_natCast,c]:ix a.1 (i:Int)=some b)];by_cases e:i+1<a.1.length;have g:ix a.1 ((i:Int)+1)=some a.1[i+1]:=by unfold ix;rw[if_pos o!,show((i:Int)+1).toNat=i+1 by omega,(List.getElem?_eq_getElem e)]
 grind;grind
def nm{a:AJ}{r:AS}(h:BD a.2.1 a.1):As (FL (a,r)) λk=>0<=k↔Ki a r.2.2.1 r.2.2.2.1:=by
 have g:=h.2.2.2.1;refine AA (P:=λq=>(∃k:Int,q= .inl k/\0<=k/\Ki a r.2.2.1 r.2.2.2.1)\/(q= .inr ()/\ ¬Ki a r.2.2.1 r.2.2.2.1)) ?_ λq p=>?_
 ·refine Cv (λ(s:Int)=>0<=s/\s<=a.1.length/\ ∀i:Nat,(i:Int)<s-> ¬(a.1[i]? =some r.2.2.1/\r.2.2.2.1=mb a i)) (λs=>((a.1.length:Int)-s).toNat) ⟨Ae _,o!,λi m=>o!⟩ (λs j=>?_);have⟨e,t,u⟩:=j;unfold HB;dsimp[len];refine AC (λl=>?_) (λl=>As.done (.inr ⟨rfl,?_⟩))
  ·obtain⟨k,rfl⟩:=EM e;rw[kD h (Au o!),AD,Aa];have f: ¬(a.1[k]? =some r.2.2.1/\r.2.2.2.1=mb a k)->As (some (Step.next ((k:Int)+1)):Option (Step Int (Int ⊕ Unit))) (Nb (λ(s:Int)=>0<=s/\s<=a.1.length/\ ∀i:Nat,(i:Int)<s-> ¬(a.1[i]? =some r.2.2.1/\r.2.2.2.1=mb a i)) (λs=>((a.1.length:Int)-s).toNat) ((a.1.length:Int)-(k:Int)).toNat λq=>(∃k:Int,q= .inl k/\0<=k/\Ki a r.2.2.1 r.2.2.2.1)\/(q= .inr ()/\ ¬Ki a r.2.2.1 r.2.2.2.1)):=λhn=>by
    refine As.next ⟨o!,o!,λi m=>?_⟩ o!
    grind
   refine AQ (λb=>?_) (λb=>f λd=>b ?_)
   ·refine AQ (λc=>As.done (.inl ⟨_,rfl,e,k,?_,?_⟩)) (λc=>f λd=>c d.2.symm);grind;grind
   grind
  rintro⟨i,n,o⟩;grind
 grind[BK,AB,A4]
def ABR{a:AJ}{r:AS}(h:BD a.2.1 a.1):As (MC (a,r)) λk=>0<=k↔Ki a r.2.2.1 r.2.2.2.1:=by
 have g:=h.2.2.2.1;refine AA (P:=λq=>(∃k:Int,q= .inl k/\0<=k/\Ki a r.2.2.1 r.2.2.2.1)\/(q= .inr ()/\ ¬Ki a r.2.2.1 r.2.2.2.1)) ?_ λq p=>?_
 ·refine Cv (λ(s:Int)=>0<=s/\s<=a.1.length/\ ∀i:Nat,(i:Int)<s-> ¬(a.1[i]? =some r.2.2.1/\r.2.2.2.1=mb a i)) (λs=>((a.1.length:Int)-s).toNat) ⟨Ae _,o!,λi m=>o!⟩ (λs j=>?_);have⟨e,t,u⟩:=j;unfold P9;dsimp[len];refine AC (λl=>?_) (λl=>As.done (.inr ⟨rfl,?_⟩))
  ·obtain⟨k,rfl⟩:=EM e;rw[ua h (Au o!),AD,Aa];have f: ¬(a.1[k]? =some r.2.2.1/\r.2.2.2.1=mb a k)->As (some (Step.next ((k:Int)+1)):Option (Step Int (Int ⊕ Unit))) (Nb (λ(s:Int)=>0<=s/\s<=a.1.length/\ ∀i:Nat,(i:Int)<s-> ¬(a.1[i]? =some r.2.2.1/\r.2.2.2.1=mb a i)) (λs=>((a.1.length:Int)-s).toNat) ((a.1.length:Int)-(k:Int)).toNat λq=>(∃k:Int,q= .inl k/\0<=k/\Ki a r.2.2.1 r.2.2.2.1)\/(q= .inr ()/\ ¬Ki a r.2.2.1 r.2.2.2.1)):=λhn=>by
    refine As.next ⟨o!,o!,λi m=>?_⟩ o!
    grind
   refine AQ (λb=>?_) (λb=>f λd=>b ?_)
   ·refine AQ (λc=>As.done (.inl ⟨_,rfl,e,k,?_,?_⟩)) (λc=>f λd=>c d.2.symm);grind;grind
   grind
  rintro⟨i,n,o⟩;grind
 grind[BK,AB,A4]
def Good(a:AJ)(f:BG)(r:AS):Prop:=f.1=1/\f.2.2=Mk r/\VR r/\Ki a r.2.2.1 r.2.2.2.1
def Bad(f:BG):Prop:=f.2.2.length<=1099511627776/\ ∀r,WR r->f.2.2≠Mk r
def Good.intact{a:AJ}{f:BG}{r:AS}(h:Good a f r)(e:BD a.2.1 a.1):Gj (a,f)=some (r,true):=by have⟨b,c,d,g⟩:=h;have⟨k,k1,i⟩:=ABR (r:=r) e;unfold Gj;rw[b,c,bne_self_eq_false,cond_false,AFA d,AD,show(((r,(0:Int)):AS×Int).2==0)=true from rfl,cond_true];grind
def Good.intR{a:AJ}{f:BG}{r:AS}(h:Good a f r)(b:BD a.2.1 a.1):intR a f=some (r,f.2.1):=by unfold Go.Pm.intR;rw[h.intact b]
def Good.ref{a:AJ}{f:BG}{r:AS}(h:Good a f r)(g:BD a.2.1 a.1): ∃k,DD (a,f)=some (r,k)/\0<=k:=by have⟨b,c,d,e⟩:=h;have⟨k,k1,i⟩:=nm (r:=r) g;refine⟨k,?_,i.2 e⟩;unfold DD;rw[b,c,bne_self_eq_false,cond_false,uF d,AD,show(((r,(0:Int)):AS×Int).2 !=0)=false from rfl,cond_false];grind
def Bad.intR{a:AJ}{f:BG}(h:Bad f)(d:BD a.2.1 a.1):intR a f=none:=by
 have key:As (Gj (a,f)) λr=>r.2=false:=by exact AM (λ_=>AB rfl) (λ_=>AA (AFB h.1) λv b=>AQ (λc=>absurd (b c).1 (h.2 _ (b c).2)) (λ_=>AB rfl))
 have⟨⟨r,o⟩,k1,e⟩:=key;grind[Go.Pm.intR]
def Bad.ref{a:AJ}{f:BG}(h:Bad f): ∃r,DD (a,f)=some (r,-1):=by
 have key:As (DD (a,f)) λr=>r.2= -1:=by exact AM (λ_=>AB rfl) (λ_=>AA (AFJ h.1) λv b=>AM (λ_=>AB rfl) (λc=>absurd (b c).1 (h.2 _ (b c).2.wr)))
 have⟨⟨r,o⟩,k1,d⟩:=key;grind
def pC{x y:AS}(b:VR x)(c:VR y)(h:Mk x=Mk y):x=y:=by have a:=uF b;rw[h,uF c]at a;injection a with a;exact(Prod.ext_iff.1 a).1.symm
structure AR(L:List EN)(a:AJ):Prop where
 vb:VB a
 files: ∀f∈a.2.2.1,Bad f\/ ∃r,Good a f r/\Zl L r/\r.2.1<a.2.2.2.1
 dis:ACI (Dw a)
def AG(a:AJ):Prop:= ∀f∈a.2.2.1,∃r,Good a f r
def RC(a:AJ)(c:Nat):Prop:= ∀lo,((Dw a).filter λe=>e.1.2.2.1==lo).length<=c
def dy{b:Type}: ∀(l m:List b),l.Nodup->(∀x∈l,x∈m)->l.length<=m.length
 |[],m,_,_=>Bi _
 |a::l,m,hn,hs=>by
  obtain⟨s,t,rfl⟩:=List.append_of_mem (hs a (Av.2 (.inl rfl)));rw[GB]at hn;have:=dy l (s++t) hn.2 λx c=>q!
  grind
def AR.mem{L:List EN}{a:AJ}(h:AR L a){e:NE}(g:e∈Dw a): ∃f∈a.2.2.1,Good a f e.1/\e.2=f.2.1/\Zl L e.1/\e.1.2.1<a.2.2.2.1:=by have⟨f,i,b⟩:=OS.1 g;rcases h.files f i with d|⟨r,c,j,k⟩;rw[d.intR h.vb.1]at b;cases b;rw[c.intR h.vb.1]at b;grind
def PP{a:AJ}(b:BD a.2.1 a.1){f:BG}{r:AS}(c:f∈a.2.2.1)(h:Good a f r):(r,f.2.1)∈Dw a:=by exact OS.2 ⟨f,c,h.intR b⟩
def Good.size{a:AJ}{f:BG}{r:AS}(h:Good a f r):f.2.2.length<=34406441:=by rw[h.2.1];exact h.2.2.1.len
def AR.sa{L:List EN}{a:AJ}(h:AR L a):SA a:=by have⟨⟨g,i,j,b,k,l,m⟩,a1,a2,a3,a4,a5,a6⟩:=h.vb;refine⟨b,o!,λf e=>?_⟩;rcases h.files f e with d|⟨r,c,_⟩;exact d.1;have:=c.size;omega
def AR.ds{L:List EN}{a:AJ}(h:AR L a):DS a:=λf b=>by have:=h.sa.2.2 f b;omega
def Ki.uniq{a:AJ}(e:BD a.2.1 a.1){d b c:Int}(p:Ki a d b)(q:Ki a d c):b=c:=by obtain⟨i,f,g⟩:=p;obtain⟨j,h,k⟩:=q;have:=e.inj f h;subst this;rw[g,k]
def wG{l:List EN}{e:EN}(h:l.length<=16777000):As (CZ (l,e)) λr=>r.1.length<=l.length+1/\((∀y,y∈r.1↔y∈l\/y=e)\/(r.1=l/\ ∃z∈l,z.1=e.1)):=by
 unfold CZ;refine AA (Pl (x:=(l,e)) ⟨Ae _,o!,d!⟩) λp g=>?_;dsimp only at g⊢;have i:As (Option.bind (X8 l 0 p) λj=>
  Option.bind (X8 l p (len l)) λk=>
  Option.bind (app [] j) λm=>
  Option.bind (app m ([e]:List (Int×(Int×(Int×(Int×(Int×(Int×((Int×(Int×((Bool×BY)×(Bool×BY))))×BY))))))))) λw=>
  Option.bind (app w k) λA=>
  some (A,true)) λr=>r.1.length<=l.length+1/\((∀y,y∈r.1↔y∈l\/y=e)\/(r.1=l/\ ∃z∈l,z.1=e.1)):=by
  refine AA (Bb (Ae _) g.1 g.2) λu a=>AA (Bb g.1 (by simp[len];omega) i!) λv o=>?_;have C:=a.2;have q:=o.2;simp[len]at q;refine AA (Ac w!) λj b=>?_;have s:=b.2.1;simp[Ba]at s;refine AA (Ac w!) λk d=>?_;have t:=d.2.1;simp[Ba,Bo]at t;refine AA (Ac o!) λm f=>AB ?_;have D:=f.2.1;refine⟨d!,.inl λy=>?_⟩;have n:u=l.take p.toNat:=by rw[a.1];simp
  dsimp only;rw[f.1,d.1,b.1,n,(by grind[List.take_of_length_le,List.length_drop]:v=l.drop p.toNat),By];conv=>rhs;rw[<-Di p.toNat l]
  grind[List.mem_singleton]
 refine AC (λB=>?_) (λ_=>i);simp[len]at B;refine AA (AI g.1 B) λE I=>?_;have⟨c,F,G,H⟩:=ADv E e;grind[AQ,AA,AI,AB]
def Uq(L:List EN):Prop:= ∀x∈L,∀y∈L,x.1=y.1->x=y
theorem kB{L l:List EN}{e:EN}(c:Uq L)(f: ∀x∈l,x∈L)(d:e∈L)(h:l.length<=16777000):As (CZ (l,e)) λr=>r.1.length<=l.length+1/\ ∀y,y∈r.1↔y∈l\/y=e:=by
 refine(wG h).mono λr hr=>⟨hr.1,?_⟩
 rcases hr.2 with hr|⟨b,z,a,i⟩;exact hr;have:=c z (f z a) e d i;subst this;intro y;rw[b];exact⟨.inl,λg=>g.elim id λh=>h▸a⟩
def VR.sorted{r:AS}(h:VR r):r.2.2.2.2.2.Pairwise wu:=by
 rw[HF];have step: ∀d i:Nat,∀(a:i<r.2.2.2.2.2.length) (b:i+1+d<r.2.2.2.2.2.length),wu r.2.2.2.2.2[i] r.2.2.2.2.2[i+1+d]:=by
  intro d;induction d with
  |zero=>intro i a b;exact((h.2 (i+1) _ (Au b)).2.2 _ o! (Au a)).1
  |succ d e=>intro i a b;exact zV (e i a o!) (((h.2 (i+1+(d+1)) _ (Au b)).2.2 _ o! (Au (by omega:i+1+d<_))).1)
 intro i j a b c;have:=step (j-(i+1)) i a o!;simp[(by omega:i+1+(j-(i+1))=j)]at this;exact this
def VR.nd{L:List EN}{r:AS}(b:Uq L)(h:VR r)(a: ∀e∈r.2.2.2.2.2,e∈L):(r.2.2.2.2.2.map (·.1)).Nodup:=by rw[Jq,Pz];refine h.sorted.imp_of_mem λ{x y} f g d c=>?_;have:=b x (a x f) y (a y g) c;grind[ww]
def VR.runOf{L:List EN}{r:AS}(b:Uq L)(h:VR r)(a: ∀e,e∈r.2.2.2.2.2↔e∈L/\be e=true/\r.2.2.1<=e.2.2.2.2.2.2.1.1/\e.2.2.2.2.2.2.1.1<=r.2.2.2.1/\r.1<=e.1/\e.1<=r.2.1):Zl L r:=⟨a,h.nd b λe c=>((a e).1 c).1⟩
def xo{v:EN}:be v=true↔v.2.1=1\/v.2.1=2:=by grind[be]
def ACK{L d:List EN}{F T g f i:Int}(C:Uq L)(B: ∀e∈d,e∈L)(H:d.length≤16777000):
  As (Aj (Jj (d,(F,(T,(g,(f,i)))))) (false,(0,(F,(T,(g,(f,(i,[])))))))) λr=> ∃a:List EN,r.2=(F,(T,(g,(f,(i,a)))))/\a.length<=d.length/\ ∀y,y∈a↔y∈d/\be y=true/\g<=y.2.2.2.2.2.2.1.1/\y.2.2.2.2.2.2.1.1<=f/\F<=y.1/\y.1<=T:=by
 refine Cv (λ(s:Bool×(Int×AS))=> ∃(k:Nat) (a:List EN),s.2=((k:Int),(F,(T,(g,(f,(i,a))))))/\k<=d.length/\a.length<=k/\ ∀y,y∈a↔y∈d.take k/\be y=true/\g<=y.2.2.2.2.2.2.1.1/\y.2.2.2.2.2.2.1.1<=f/\F<=y.1/\y.1<=T) (λs=>d.length-s.2.1.toNat)
  ⟨0,[],rfl,Bi _,Aq _,λy=>k!⟩ ?_
 rintro⟨M,K⟩ ⟨k,a,rfl,I,J,n⟩;unfold Jj;dsimp only;simp only[len];refine AC (λw=>?_) (λw=>As.done ⟨a,rfl,o!,by rw[BQ o!]at n;exact n⟩);refine AA (AI o! w) λv l=>?_;have A:=l.1;rw[Dl]at A;have q:d.take (k+1)=d.take k++[v]:=by rw[Ct,A];rfl
 rw[Aa]
 have c: ∀m:Bool,¬(be v=true∧g≤v.2.2.2.2.2.2.1.1∧v.2.2.2.2.2.2.1.1≤f∧F≤v.1∧v.1≤T)→
   As (some (Step.next (m,((k:Int)+1,(F,(T,(g,(f,(i,a)))))))):Option (Step (Bool×(Int×AS)) (Bool×AS))) (Nb (λ(s:Bool×(Int×AS))=> ∃(k:Nat) (a:List EN),s.2=((k:Int),(F,(T,(g,(f,(i,a))))))/\k<=d.length/\a.length<=k/\ ∀y,y∈a↔y∈d.take k/\be y=true/\g<=y.2.2.2.2.2.2.1.1/\y.2.2.2.2.2.2.1.1<=f/\F<=y.1/\y.1<=T) (λs=>d.length-s.2.1.toNat) (d.length-((k:Nat):Int).toNat)
    λr=> ∃a:List EN,r.2=(F,(T,(g,(f,(i,a)))))/\a.length<=d.length/\ ∀y,y∈a↔y∈d/\be y=true/\g<=y.2.2.2.2.2.2.1.1/\y.2.2.2.2.2.2.1.1<=f/\F<=y.1/\y.1<=T):=λm hn=>by
  refine As.next ⟨k+1,a,rfl,o!,o!,λy=>?_⟩ d!
  grind[List.mem_singleton]
 refine AA Bz λb u=>AP (λz=>c _ λj=>?_) (λD=>?_);rw[u.2 (xo.1 j.1)]at z;cases z;refine AC (λ_=>c _ λj=>o!) (λq2=>AC (λ_=>c _ λj=>o!) (λq3=>AC (λ_=>c _ λj=>o!) (λq4=>AC (λ_=>c _ λj=>o!) (λq5=>AA (Q2 ⟨Ae _,d!⟩) λG _=>AA (kB C (λx E=>B x (Fl ((n x).1 E).1)) (B v l.2) o!) λt o=>As.next ⟨k+1,t.1,rfl,o!,o!,λy=>?_⟩ d!))))
 rw[o.2,n,q,Ao,BC];constructor;rintro(⟨h,p⟩|h);exact⟨.inl h,p⟩;subst h;exact⟨.inr rfl,(xo.2 (u.1 D)),o!⟩;rintro⟨h|h,p⟩;exact .inl ⟨h,p⟩;exact .inr h
def AEM{L c:List EN}{F T h g j:Int}(n:Uq L)(q: ∀e∈c,e∈L)(p:c.length<=16777000):As (JH (c,(F,(T,(h,(g,j)))))) λr=>r.2=0->VR r.1/\ ∃b:List EN,r.1=(F,(T,(h,(g,(j,b)))))/\ ∀y,y∈b↔y∈c/\be y=true/\h<=y.2.2.2.2.2.2.1.1/\y.2.2.2.2.2.2.1.1<=g/\F<=y.1/\y.1<=T:=by unfold JH;refine AA IQ λw _=>AP (λ_=>AB λa=>absurd (show(1:Int)=0 from a) g!) (λ_=>?_);refine AA (Q1 ⟨Ae _,d!⟩) λx m=>A6 (λu i=>AB λa=>absurd a (m u i)) (λu i=>AA (ACK n q p) λs d=>?_);have⟨b,k,v,l⟩:=d;refine AL (λ_=>AB λa=>absurd (show(41:Int)=0 from a) g!) (λ_=>?_);refine AC (λ_=>AB λa=>absurd (show(21:Int)=0 from a) g!) (λ_=>?_);refine AA WP λt f=>AP (λ_=>AB λa=>absurd (show(13:Int)=0 from a) g!) (λo=>AB λ_=>⟨f.1 o,b,k,l⟩)
set_option maxHeartbeats 400000
def AEP{x:Int×List Int}(h:BD x.1 x.2):As (J7 x) λr=>r.2=0/\VB r.1/\r.1.2.1=x.1/\r.1.2.2.2.1=1:=by refine AA jc λl c=>AP (λb=>(by rw[c.2 h]at b;cases b)) (λ_=>?_);have k:=h.2.2.2.1;refine AA (Ac w!) λm e=>AB ⟨rfl,⟨?_,u!,u!,u!,u!,k!,⟨λi f d a=>by simp at a,λi f g d a j=>by simp at a⟩⟩,rfl,rfl⟩;grind
def FR.push{l m:List BG}{f:BG}{c:Int}(h:FR l c l.length)(v:1<=c)(r:f.2.1=c)(u:m=l++[f]):FR m (c+1) m.length:=by
 subst u;obtain⟨q,t⟩:=h;have p:(l++[f]).length=l.length+1:=k!
 have b: ∀(i:Nat) (g:BG),¬i<l.length->(l++[f])[i]? =some g->g=f:=λi g j a=>by
  have o:=C0 a;rw[p]at o;have s:i=l.length:=o!
  subst s;rw[Ch (Aq _)]at a;simp at a;exact a.symm
 refine⟨λi g j a=>?_,λi g k j a n=>?_⟩;by_cases e:i<l.length;rw[CO e]at a;have:=q i g o! a;exact⟨this.1,o!⟩;rw[b i g e a,r];exact o!;rw[p]at j;have e:i<l.length:=o!
 rw[CO e]at a;by_cases d:i+1<l.length;rw[CO d]at n;exact t i g k o! a n;rw[b (i+1) k d n,r];exact(q i g o! a).2
def ACQ{x:AJ×Af×Int}(h:SA x.1)(l:VB x.1):As (EW x) λr=>r.2=0->SA r.1/\VB r.1/\r.1.2.1=x.1.2.1/\(r.1.2.2.2.1=x.1.2.2.2.1\/r.1.2.2.2.1<=x.2.1.2.2+1):=by
 unfold EW;refine AA Jk λv0 O=>AP (λ_=>AB n!) (λd=>?_);obtain⟨a1,a2,a3,a4,a5,a6,a7,a8,a9⟩:=O d;refine AA BS λv1 q=>AP (λ_=>AB n!) (λm=>?_);obtain⟨l1,l2,l3,l4,l5,Z⟩:=q.1 m;refine AC (λ_=>AB n!) (λc1=>AC (λ_=>AB n!) (λc2=>?_));generalize S:(if(x.2.1.1>x.1.2.2.2.1)then x.2.1.1 else x.1.2.2.2.1)=F;have f1:x.2.1.1<=F/\x.1.2.2.2.1<=F/\F<=1099511627777:=by rw[<-S];split<;>omega
 have D:=Aa (x:=F+x.2.2);have E:=Aa (x:=F+x.2.2-1);rw[D,E];generalize T:(if(x.2.1.2.2<(F+x.2.2-1))then x.2.1.2.2 else(F+x.2.2-1))=G;have g1:G<=x.2.1.2.2/\G<=F+x.2.2-1:=by rw[<-T];split<;>omega
 refine AC (λ_=>AB λ_=>⟨h,l,rfl,.inl rfl⟩) (λc3=>?_);have H:=Aa (x:=F-x.2.1.1);have I:=Aa (x:=G-x.2.1.1);have J:=Aa (x:=G-x.2.1.1+1);rw[H,I,J];have K:=Aa (x:=len x.1.2.2.1+len x.1.1) i!;have L:=Aa (x:=x.1.2.2.2.2+len x.1.1) i!;have M:=Aa (x:=G+1);rw[K,L,M];have U:G<=1099511627776:=by
  have X:x.2.1.2.1.length≠0:=o!
  obtain⟨i,n⟩: ∃i,x.2.1.2.1[x.2.1.2.1.length-1]? =some i:=⟨_,Au o!⟩
  have:=Z _ i n;have q:=this.1;have t:=this.2.2.1;omega
 refine AC (λ_=>AB n!) (λB=>AC (λ_=>AB n!) (λC=>?_));simp only[len]at B C;refine AA (Bb) λv2 t=>?_;have W:=t.2;refine AA (Q4 ⟨Ae _,d!,o!⟩) λv8 R=>A6 (λu b=>AB λa=>absurd a (R u b)) (λu b=>AA (Ac w!) λad j=>?_);have c:=j.1;rw[By]at c;refine AA (P:=λr=>(∀u,r= .inl u->u.1≠0)/\ ∀u,r= .inr u->u.2.1=x.1.1/\u.1.length<=256/\(∀f∈u.1,f.2.2.length<=1099511627776)/\u.2.2.1=x.1.2.1/\u.2.2.2.2.1=x.1.2.2.2.2+x.1.1.length/\FR u.1 u.2.2.2.2.1 u.1.length) ?_ λr hr=>A6 (λu b=>AB λa=>absurd a (hr.1 u b)) (λu b=>AB λ_=>?_);refine AV (λ(s:Int×(List BG)×(List Int)×Int×Int×Int×AJ)=>0<=s.1/\s.1<=x.1.1.length/\s.2.2.1=x.1.1/\(s.2.1.length:Int)=x.1.2.2.1.length+s.1/\(∀f∈s.2.1,f.2.2.length<=1099511627776)/\s.2.2.2.1=x.1.2.1/\s.2.2.2.2.2.1=x.1.2.2.2.2+s.1/\FR s.2.1 s.2.2.2.2.2.1 s.2.1.length) (λ(s:Int×(List BG)×(List Int)×Int×Int×Int×AJ)=>((x.1.1.length:Int)-s.1).toNat) ⟨Ae _,d!,rfl,by dsimp only;rw[c];omega,by dsimp only;rw[c];exact h.2.2,rfl,d!,by dsimp only;rw[c];exact l.2.2.2.2.2.2⟩ (λs V=>?_);obtain⟨Y,i2,v,i4,y,z,i7,A⟩:=V;unfold N8;have e:=Aa (x:=s.1+1);rw[e];refine AC (λd=>?_) (λd=>AB ⟨λu b=>(by cases b),λu b=>(by cases b;simp only[len]at d;exact⟨v,o!,y,z,o!,A⟩)⟩);simp only[len]at d;refine AA (S3 a4 ⟨Y,d⟩) λal _=>AA (de d!) λao Q=>AM (λd=>AB ⟨λu b=>(by cases b;exact d),λu b=>(by cases b)⟩) (λ_=>AA ZY λar k=>AA (Ac w!) λax g=>AB ?_);have p:=g.2.1;simp only[Bo,Ba]at p;have N:=Aa (x:=s.2.2.2.2.2.1+1);rw[N];refine⟨⟨d!,d!,v,d!,λf o=>?_,z,d!,A.push o! rfl g.1⟩,d!⟩;dsimp only at o;rw[g.1]at o;rcases Ao.1 o with w|w;exact y f w;simp at w;rw[w];exact k;obtain⟨q1,q2,q3,q4,q5,q6⟩:=hr.2 u b;refine⟨⟨by dsimp only;rw[q1];exact a4,d!,q3⟩,⟨?_,d!,d!,d!,d!,q2,q6⟩,q4,.inr d!⟩;dsimp only;rw[q1,q4];exact l.1
def FP(l:List BG)(m:Int):Prop:=(∀f∈l,0<f.2.1/\f.2.1<m)/\l.Pairwise λf g=>f.2.1<g.2.1
def wa{l:List BG}{m:Int}(h:FP l m):FR l m l.length:=by refine⟨λi f e a=>h.1 f (BP a),λi f g e a d=>?_⟩;have b:=C0 a;have c:=C0 d;have:=HF.1 h.2 i (i+1) b c o!;grind
def FR.fp{l:List BG}{m:Int}(h:FR l m l.length):FP l m:=by
 refine⟨λf e=>?_,HF.2 λi j b c g=>?_⟩;obtain⟨i,b⟩:=D7.1 e;have:=C0 b;exact h.1 i f o! b;obtain⟨d,rfl⟩: ∃d,j=i+1+d:=⟨j-(i+1),o!⟩
 induction d with
 |zero=>exact h.2 i _ _ o! (Au b) (Au c)
 |succ d k=>
  have a:i+1+d<l.length:=o!
  have n:=k a o!;have o:=h.2 (i+1+d) l[i+1+d] l[i+1+(d+1)] o! (Au a) (Au c);omega
def FR.sub{l k:List BG}{m:Int}(h:FR l m l.length)(a:k.Sublist l):FR k m k.length:=wa ⟨λf b=>h.fp.1 f (a.subset b),h.fp.2.sublist a⟩
def ym{b:AK}{x:List BG}{m:Int}(v:FR x m x.length)(h:CX b)(hx:x.length<=1000000)(j: ∀f∈x,f.2.2.length<=1099511627776):As (Fo b x) λr=>CX r.2/\r.1.length<=x.length/\FR r.1 m r.1.length/\ ∀f∈r.1,f.2.2.length<=1099511627777:=by
 unfold Fo;refine AQ (λ_=>AB ⟨h,k!,⟨λi f s j=>by simp at j,λi f g s j c=>by simp at j⟩,λf j=>by simp at j⟩) (λA=>?_);simp only[len]at A;refine AA (AY h i!) λd Q=>?_;obtain⟨M,t,N⟩:=Q;simp only[len]at N;have e:=Aa (x:=d.1+1);rw[e];refine AA (AY M g!) λv1 D=>AQ (λ_=>?_) (λ_=>?_);refine AA (Bb (Ae _) t) λv2 E=>AA (Bb o! i! i!) λv3 F=>?_;have l2:=E.2;have T:=F.2;simp only[len]at T;refine AA (Ac w!) λv4 G=>?_;have U:=G.2.1;simp only[Ba]at U;refine AA (Ac o!) λY H=>AB ⟨D.1,?_,?_⟩;have l5:=H.2.1;dsimp only;omega;have J:Y.Sublist x:=by
  rw[H.1,G.1,E.1,F.1,By];have O:x=x.take d.1.toNat++x.drop d.1.toNat:=(Di _ _).symm;suffices n:((x.drop (0:Int).toNat).take (d.1.toNat-(0:Int).toNat)++(x.drop (d.1+1).toNat).take ((len x).toNat-(d.1+1).toNat)).Sublist (x.take d.1.toNat++x.drop d.1.toNat) by rw[<-O]at n;exact n
  apply List.Sublist.append;simp;apply (List.take_sublist _ _).trans;have P:(d.1+1).toNat=d.1.toNat+1:=o!
  rw[P,<-Nf];exact ly _ _
 exact⟨v.sub J,λf l=>by have:=j f (J.subset l);omega⟩;refine AA (Ac w!) λy R=>?_;have C:=R.1;rw[By]at C;subst C;refine AA (AI t) λv7 _=>AA (AI t) λK z=>AA (VI D.1 (j _ z.2)) λL I=>AA (AI t) λX _=>AA (AI t) λa u=>AB ⟨I.1,by simp[F6],?_,λf l=>?_⟩;have q:=v.fp;have Z:K=a:=by have:=z.1;rw[u.1]at this;exact(BV this).symm
 have key: ∀(i:Nat) (g:BG),(F6 y d.1 (a.1,(a.2.1,L.1)))[i]? =some g-> ∃k,y[i]? =some k/\k.2.1=g.2.1:=λi g c=>by simp only[F6]at c;rw[WW]at c;split at c;rename_i s;subst s;split at c;exact⟨a,u.1,by rw[<-BV c]⟩;cases c;exact⟨g,c,rfl⟩
 have el:(F6 y d.1 (a.1,(a.2.1,L.1))).length=y.length:=by simp[F6]
 refine⟨λi g s c=>?_,λi g k s c S=>?_⟩;obtain⟨p,B,W⟩:=key i g c;have:=v.1 i p (by dsimp only at s;omega) B;omega;obtain⟨p,B,W⟩:=key i g c;obtain⟨o,V,o2⟩:=key (i+1) k S;have:=v.2 i p o (by dsimp only at s;omega) B V;omega;simp only[F6]at l;rcases Px l with w|w;have:=j f w;omega;rw[w];have:=I.2;have:=j K z.2;dsimp only;omega
def AAH(L:List EN)(a:AJ)(F G s:Int)(nf:List BG):Prop:= ∀(j:Nat) (f:BG),nf[j]? =some f->
 ∃r,f=(1,(s+j,Mk r))/\VR r/\Zl L r/\r.1=F/\r.2.1=G/\a.1[j]? =some r.2.2.1/\r.2.2.2.1=mb a j
def Dg.uq{l:Af}(h:Dg l):Uq l.2.1:=λx b y c a=>Tw h.nodup b c a
def zS{l:Af}(h:Dg l){F G:Int}{v:List EN}(g:l.1<=F)(i:F<=G)(j:G<=l.1+l.2.1.length-1)(b:v=(l.2.1.drop (F-l.1).toNat).take ((G-l.1+1).toNat-(F-l.1).toNat))(e:EN):e∈v↔e∈l.2.1/\F<=e.1/\e.1<=G:=by subst b;have⟨l1,l2,m,n,o,c⟩:=h;rw[D7,D7];constructor;grind;rintro⟨⟨k,a⟩,d,f⟩;have:=(c _ e a).1;refine⟨k-(F-l.1).toNat,?_⟩;rw[Zw,if_pos o!,JP,show(F-l.1).toNat+(k-(F-l.1).toNat)=k by omega,a]
def wI{x:AJ×Af×Int}(h:SA x.1)(hb:VB x.1)(q:Dg x.2.1):As (EW x) λr=>r.2=0→r.1=x.1∨
  ∃F G a,r.1=(x.1.1,(x.1.2.1,(x.1.2.2.1++a,(G+1,x.1.2.2.2.2+a.length))))/\(x.1.2.2.2.1<=F/\(x.2.1.1<=x.1.2.2.2.1->F=x.1.2.2.2.1)/\(x.2.1.1<=F/\G<=x.2.1.2.2))/\F<=G/\a.length=x.1.1.length/\AAH x.2.1.2.1 x.1 F G x.1.2.2.2.2 a:=by
 unfold EW;refine AA Jk λv0 X=>AP (λ_=>AB λb=>absurd (show(54:Int)=0 from b) g!) (λi=>?_);have⟨a1,a2,a3,a4,a5,a6,a7,a8,a9⟩:=X i;refine AA BS λv1 h1=>AP (λ_=>AB λb=>absurd (show(26:Int)=0 from b) g!) (λad=>?_);have⟨l1,l2,l3,l4,l5,l6⟩:=id q;refine AC (λ_=>AB λb=>absurd (show(1:Int)=0 from b) g!) (λc1=>AC (λ_=>AB λb=>absurd (show(1:Int)=0 from b) g!) (λc2=>?_));have o: ∃F,(if(x.2.1.1>x.1.2.2.2.1)then x.2.1.1 else x.1.2.2.2.1)=F:=⟨_,rfl⟩
 have⟨F,o⟩:=o;have V:x.2.1.1<=F/\x.1.2.2.2.1<=F/\F<=1099511627777:=q!
 have W:x.2.1.1<=x.1.2.2.2.1->F=x.1.2.2.2.1:=q!
 have C:=Aa (x:=F+x.2.2);have D:=Aa (x:=F+x.2.2-1);have p: ∃G,(if(x.2.1.2.2<(F+x.2.2-1))then x.2.1.2.2 else(F+x.2.2-1))=G:=⟨_,rfl⟩
 have⟨G,p⟩:=p;have g1:G<=x.2.1.2.2/\G<=F+x.2.2-1:=q!
 rw[o,C,D,p];refine AC (λ_=>AB λ_=>.inl rfl) (λc3=>?_);have Q:=Aa (x:=F-x.2.1.1);have R:=Aa (x:=G-x.2.1.1);have S:=Aa (x:=G-x.2.1.1+1);rw[Q,R,S];have T:=Aa (x:=len x.1.2.2.1+len x.1.1) (by simp[len];omega);have U:=Aa (x:=x.1.2.2.2.2+len x.1.1) (by simp[len];omega);rw[T,U,(Aa (x:=G+1))];refine AC (λ_=>AB λb=>absurd (show(21:Int)=0 from b) g!) (λN=>AC (λ_=>AB λb=>absurd (show(21:Int)=0 from b) g!) (λO=>?_));simp[len]at N O;refine AA (Bb) λv2 E=>?_;have al:=E.2;have l:=zS q (F:=F) (G:=G) V.1 o! o! E.1;refine AA (Q4 ⟨Ae _,d!,o!⟩) λv8 Z=>A6 (λu c=>AB λb=>absurd b (Z u c)) (λu c=>AA (Ac w!) λao t=>?_);have g:=t.1;rw[By]at g;subst g;refine AA (P:=λr=>(∀u,r= .inl u->u.1≠0)/\ ∀u,r= .inr u-> ∃(a:List BG),(u.1,(u.2.1,(u.2.2.1,(u.2.2.2.1,u.2.2.2.2.1))))=(x.1.2.2.1++a,(x.1.1,(x.1.2.1,(x.1.2.2.2.1,x.1.2.2.2.2+a.length))))/\a.length=x.1.1.length/\AAH x.2.1.2.1 x.1 F G x.1.2.2.2.2 a) ?_ λr hr=>A6 (λu c=>AB λb=>absurd b (hr.1 u c)) (λu c=>AB λ_=>.inr ?_)
 ·refine Cv (λ(s:Int×(List BG)×(List Int)×Int×Int×Int×AJ)=> ∃(k:Nat) (a:List BG) (z:AJ),s=((k:Int),(x.1.2.2.1++a,(x.1.1,(x.1.2.1,(x.1.2.2.2.1,(x.1.2.2.2.2+(k:Int),z))))))/\k<=x.1.1.length/\a.length=k/\AAH x.2.1.2.1 x.1 F G x.1.2.2.2.2 a) (λs=>x.1.1.length-s.1.toNat)
   ⟨0,[],u,k!,Bi _,rfl,λj f d=>by simp at d⟩ ?_
  rintro s ⟨k,a,z,rfl,i2,A,I⟩;unfold N8;dsimp only;simp only[len];rw[o,C,D,p];refine AC (λi=>?_) (λi=>As.done ⟨λu c=>(by cases c),λu c=>(by cases c;exact⟨a,by dsimp only;rw[A],o!,I⟩)⟩);have H:x.1.1[k]? =some (x.1.1[k]' o!):=Au o!;rw[kD hb.1 H,AD];refine AA (AEM q.uq (λe he=>((l e).1 he).1) o!) λn v=>AM (λi=>As.done ⟨λu c=>(by cases c;exact i),λu c=>(by cases c)⟩) (λb=>?_);have⟨B,es,m,m3⟩:=v b;rw[nD B,AD];refine AA (Ac w!) λar Y=>?_;rw[Aa (x:=x.1.2.2.2.2+(k:Int)+1),Aa (x:=(k:Int)+1)];refine As.next ⟨k+1,a++[(1,(x.1.2.2.2.2+(k:Int),Mk n.1))],z,?_,o!,by rw[Ag,A];rfl,λj f d=>?_⟩ d!
  grind;by_cases hj:j<a.length;rw[CO hj]at d;exact I j f d;have y:=C0 d;rw[Ag,Bo,Ba]at y;have w:j=k:=o!
  subst w;rw[Ch o!,A,Ge]at d;cases d;refine⟨n.1,rfl,B,B.runOf q.uq λe=>?_,by rw[m],by rw[m],by rw[m];exact H,by rw[m]⟩;rw[m];dsimp only;rw[m3,l];constructor;grind;rintro⟨q1,q2,q3,q4,q5,q6⟩;exact⟨⟨q1,q5,q6⟩,q2,q3,q4,q5,q6⟩
 have⟨a,q1,q2,q3⟩:=hr.2 u c;refine⟨F,G,a,?_,⟨o!,W,o!⟩,o!,q2,q3⟩;have J:=congrArg (·.1) q1;have K:=congrArg (·.2.1) q1;have L:=congrArg (·.2.2.1) q1;have M:=congrArg (·.2.2.2.2) q1;dsimp only at J K L M;dsimp only;rw[J,K,L,M]
def Ki.congr{a b:AJ}(e:b.1=a.1)(f:b.2.1=a.2.1){d c:Int}:Ki a d c↔Ki b d c:=by grind[Ki,mb]
def Good.congr{a b:AJ}(c:b.1=a.1)(d:b.2.1=a.2.1){f:BG}{r:AS}(h:Good a f r):Good b f r:=⟨h.1,h.2.1,h.2.2.1,(Ki.congr c d).1 h.2.2.2⟩
def Good.run{a:AJ}{f:BG}{r s:AS}(h:Good a f r)(g:Good a f s):r=s:=pC h.2.2.1 g.2.2.1 (h.2.1.symm.trans g.2.1)
def AR.step{L:List EN}{a b:AJ}{F G:Int}{s:List BG}(h:AR L a)(e:b=(a.1,(a.2.1,(a.2.2.1++s,(G+1,a.2.2.2.2+s.length)))))(hF:a.2.2.2.1<=F)(hG:F<=G)(hn:AAH L a F G a.2.2.2.2 s)(D:VB b):AR L b/\(AG a->AG b)/\ ∀c,RC a c->RC b (c+1):=by
 have P:b.1=a.1:=by rw[e]
 have Q:b.2.1=a.2.1:=by rw[e]
 have Y:b.2.2.1=a.2.2.1++s:=by rw[e]
 have h4:b.2.2.2.1=G+1:=by rw[e]
 have q: ∀f∈s,∃(j:Nat) (r:AS),Good b f r/\Zl L r/\r.1=F/\r.2.1=G/\a.1[j]? =some r.2.2.1/\s[j]? =some f:=λf k=>by have⟨j,hj⟩:=D7.1 k;have⟨r,l,M,w,r4,W,S,r7⟩:=hn j f hj;refine⟨j,r,⟨by rw[l],by rw[l],M,(Ki.congr P Q).1 ⟨j,S,r7⟩⟩,w,r4,W,S,hj⟩
 have K: ∀f∈a.2.2.1,Bad f\/ ∃r,Good b f r/\Zl L r/\r.2.1<a.2.2.2.1:=λf k=>(h.files f k).imp id λ⟨r,l,M,w⟩=>⟨r,l.congr P Q,M,w⟩
 have d: ∀x∈Dw b,(x∈Dw a/\x.1.2.1<a.2.2.2.1)\/ ∃(j:Nat) (f:BG),s[j]? =some f/\Good b f x.1/\x.2=f.2.1/\x.1.1=F/\a.1[j]? =some x.1.2.2.1:=λx m=>by unfold Dw at m;rw[Y]at m;have⟨f,k,z⟩:=OS.1 m;rcases Ao.1 k with k|k;rcases K f k with E|⟨r,l,M,w⟩;rw[E.intR D.1]at z;cases z;rw[l.intR D.1]at z;cases z;exact .inl ⟨PP h.vb.1 k (l.congr P.symm Q.symm),w⟩;have⟨j,r,l,M,w,r4,W,S⟩:=q f k;rw[l.intR D.1]at z;cases z;exact .inr ⟨j,f,S,l,rfl,w,W⟩
 refine⟨⟨D,λf k=>?_,λx m y R J p=>?_⟩,λU f k=>?_,λc Z v=>?_⟩;grind;rcases d x m with⟨n,A⟩|⟨i,f,n,A,N,x4,B⟩;rcases d y R with⟨o,C⟩|⟨j,g,o,C,T,y4,O⟩;exact h.dis x n y o J p;grind;rcases d y R with⟨o,C⟩|⟨j,g,o,C,T,y4,O⟩;exact .inr o!;rw[<-p]at O;have t:=h.vb.1.inj B O;subst t;rw[n]at o;cases o;exact absurd (DN (A.run C) (N.trans T.symm)) J;rw[Y]at k;rcases Ao.1 k with k|k;have⟨r,hr⟩:=U f k;exact⟨r,hr.congr P Q⟩;have⟨j,r,l,_⟩:=q f k;exact⟨r,l⟩;have I:=(TD D).filter λe=>e.1.2.2.1==v;by_cases H: ∃y∈(Dw b).filter (λe=>e.1.2.2.1==v),∃(j:Nat) (f:BG),s[j]? =some f/\Good b f y.1/\y.2=f.2.1/\a.1[j]? =some y.1.2.2.1;have⟨y,R,j,g,o,C,T,O⟩:=H;have V:y.1.2.2.1=v:=eq_of_beq (BM.1 R).2;have:=dy _ (y::(Dw a).filter λe=>e.1.2.2.1==v) I λx m=>by have⟨X,u⟩:=BM.1 m;rcases d x X with⟨n,_⟩|⟨i,f,n,A,N,x4,B⟩;grind;rw[eq_of_beq u,<-V]at B;have t:=h.vb.1.inj B O;subst t;rw[n]at o;cases o;exact Av.2 (.inl (DN (A.run C) (N.trans T.symm)))
 rw[Bo]at this;have:=Z v;omega;have:=dy _ ((Dw a).filter λe=>e.1.2.2.1==v) I λx m=>by have⟨X,u⟩:=BM.1 m;rcases d x X with⟨n,_⟩|⟨i,f,n,A,N,x4,B⟩;exact BM.2 ⟨n,u⟩;exact absurd ⟨x,m,i,f,n,A,N,B⟩ H
 have:=Z v;omega
def AEG(a:AJ)(lo n:Int):Prop:= ∃e∈Dw a,e.1.2.2.1=lo/\e.1.1<=n/\n<=e.1.2.1
def AF(a:AJ):Prop:= ∀lo∈a.1,∀n:Int,1<=n->n<a.2.2.2.1->AEG a lo n
def AF.step{L:List EN}{a b:AJ}{F G:Int}{c:List BG}(w:AF a)(h:AR L a)(e:b=(a.1,(a.2.1,(a.2.2.1++c,(G+1,a.2.2.2.2+c.length)))))(H:F=a.2.2.2.1)(z:c.length=a.1.length)(hn:AAH L a F G a.2.2.2.2 c)(s:VB b):AF b:=by
 have k:b.1=a.1:=by rw[e]
 have p:b.2.1=a.2.1:=by rw[e]
 have q:b.2.2.1=a.2.2.1++c:=by rw[e]
 have E:b.2.2.2.1=G+1:=by rw[e]
 intro A d n B I;rw[k]at d;rcases gp n a.2.2.2.1 with g|g;obtain⟨r,hr,i,m,u⟩:=w A d n B g;have⟨f,l,v,D,_⟩:=h.mem hr;exact⟨(r.1,f.2.1),PP s.1 (by rw[q];exact Gc _ l) (v.congr k p),i,m,u⟩;have⟨j,t⟩:=D7.1 d;have y:=C0 t;have l:c[j]? =some (c[j]' o!):=Au o!;have⟨r,i,m,u,J,K,o,C⟩:=hn j _ l;have x:Good b (c[j]' o!) r:=⟨by rw[i],by rw[i],m,(Ki.congr k p).1 ⟨j,o,C⟩⟩
 refine⟨(r,(c[j]' o!).2.1),PP s.1 (by rw[q];exact Mg _ (PH _)) x,?_,d!⟩;rw[t]at o;exact(BV o).symm
def SF(a:AJ)(m:Int):Prop:=a.2.2.2.2+a.2.2.1.length<=m
def ACP{x:AJ×Af×Int}{m:Int}(h:AR x.2.1.2.1 x.1)(f:Dg x.2.1)(t:SF x.1 m):As (EW x) λr=>r.2=0->AR x.2.1.2.1 r.1/\(AG x.1->AG r.1)/\(∀c,RC x.1 c->RC r.1 (c+1))/\SF r.1 (m+32)/\r.1.2.1=x.1.2.1/\(r.1.2.2.2.1=x.1.2.2.2.1\/r.1.2.2.2.1<=x.2.1.2.2+1)/\(Il x.2.1.2.1->AF x.1->AF r.1):=by
 refine((ACQ h.sa h.vb).and (wI h.sa h.vb f)).mono λr hr k=>?_;have⟨q1,q2,q3,q4⟩:=hr.1 k;rcases hr.2 k with e|⟨F,G,u,g,i,l,n,j⟩;rw[e];exact⟨h,id,λc q s=>Nat.le_succ_of_le (q s),by unfold SF at*;omega,rfl,.inl rfl,λ_=>id⟩
 ·have a:=h.step g i.1 l j q2;have b:0<x.2.1.2.1.length:=by have:=f.2.2.2.2.1;omega
  have d:Il x.2.1.2.1->AF x.1->AF r.1:=λo p=>p.step h g (i.2.1 (by have v:=(o 0 _ (Au b)).1;have w:=(f.2.2.2.2.2 0 _ (Au b)).1;have:=h.vb.2.1;omega)) n j q2;have:=h.sa.1;refine⟨a.1,a.2.1,a.2.2,?_,?_,?_,d⟩;all_goals unfold SF at*;grind
def ADo{c d:Type}(l:List c)(m:List d)(n:Nat):l.zip m=(l.take n).zip (m.take n)++(l.drop n).zip (m.drop n):=by
 induction n generalizing l m with
 |zero=>simp
 |succ n e=>
  cases l with
  |nil=>simp
  |cons a l=>
   cases m with
   |nil=>simp
   |cons b m=>grind[List.zip_cons_cons]
theorem AFV{c d:Type}{l:List c}{m:List d}{k:Nat}{a:c}{b:d}(e:l[k]? =some a)(f:m[k]? =some b):(a,b)∈l.zip m:=by refine D7.2 ⟨k,?_⟩;grind[List.getElem?_zip_eq_some]
def AAR{x:AJ}{L:List EN}{U:Int×List AS×List Int×List Bool}(h:AR L x)(b:0<=U.1):As (Aj (Ec x U) ([],([],0))) λr=>r.2.length=r.1.length/\ ∀p∈r.1.zip r.2,p∈Dw x:=by
 obtain⟨⟨b1,b2,b3,b4,b5,b6,b7⟩,a1,a2,a3,a4,a5,a6⟩:=h.vb;refine Cv (λ(s:List AS×List Int×Int)=>0<=s.2.2/\s.2.2<=x.2.2.1.length/\s.2.1.length=s.1.length/\s.1.length<=s.2.2/\ ∀p∈s.1.zip s.2.1,p∈Dw x) (λ(s:List AS×List Int×Int)=>((x.2.2.1.length:Int)-s.2.2).toNat) ⟨Ae _,d!,rfl,k!,λp b=>by simp at b⟩ (λs X=>?_);obtain⟨S,i2,T,i4,u⟩:=X;unfold Ec;have e:=Aa (x:=s.2.2+1);rw[e];refine AC (λE=>?_) (λ_=>As.done ⟨T,u⟩);simp only[len]at E;refine AA (AI S E) λv D=>?_;have q: ∃w,DD (x,v)=some w/\(w.2= -1\/Good x v w.1):=by rcases h.files v D.2 with Y|⟨r,R,_⟩;obtain⟨r,hr⟩:=Y.ref (a:=x);exact⟨_,hr,.inl rfl⟩;obtain⟨k,hk,ad⟩:=R.ref h.vb.1;exact⟨_,hk,.inr R⟩
 obtain⟨w,F,t⟩:=q;rw[F,AD];refine AM (λ_=>As.next ⟨d!,d!,T,d!,u⟩ d!) (λZ=>?_);have c:Good x v w.1:=t.elim (λhz=>absurd hz o!) id;refine AA (QQ ⟨i!,i!,o!⟩) λy o=>AA (Bb (Ae _) o.1 o.2) λv8 P=>AA (Bb o.1 i! i!) λv9 Q=>?_;have l8:=P.2;have l9:=Q.2;simp only[len]at l9;refine AA (Ac w!) λax d=>?_;have G:=d.2.1;simp only[Ba]at G;refine AA (Ac w!) λa0 f=>?_;have H:=f.2.1;simp only[Ba,Bo]at H;refine AA (Ac o!) λa7 g=>?_;have al:=g.2.1;refine AA (Bb (Ae _) o.1) λM i=>?_;have ao:=i.2;refine AA (AI S E) λN C=>AA (Bb o.1 i! i!) λO j=>?_;have I:=j.2;simp only[len]at I;refine AA (Ac w!) λa8 l=>?_;have J:=l.2.1;simp only[Ba]at J;refine AA (Ac w!) λa9 m=>?_;have K:=m.2.1;simp[Ba,Bo]at K;refine AA (Ac o!) λa' n=>?_;have ar:=n.2.1;have A:N=v:=by have:=C.1;rw[D.1]at this;exact(BV this).symm
 have V:v8=s.1.take y.toNat:=by rw[P.1];simp
 have W:v9=s.1.drop y.toNat:=by rw[Q.1];exact BQ (by rw[FJ];simp only[len];omega)
 have z:M=s.2.1.take y.toNat:=by rw[i.1];simp
 have B:O=s.2.1.drop y.toNat:=by rw[j.1];exact BQ (by rw[FJ];simp only[len];omega)
 refine As.next ⟨d!,d!,d!,d!,λp b=>?_⟩ d!
 dsimp only at b;rw[g.1,f.1,d.1,n.1,m.1,l.1,V,W,z,B,By,By]at b;rw[bk (by simp[Ag,BR,Bo,Ba];omega),bk (by simp[BR];omega)]at b;rw[ADo s.1 s.2.1 y.toNat]at u;rcases Ao.1 b with b|b;rcases Ao.1 b with b|b;exact u p (Ao.2 (.inl b));rw[List.zip_cons_cons,List.zip_nil_left,BC]at b;rw[b,A];exact PP h.vb.1 D.2 c;exact u p (Ao.2 (.inr b))
def Wh(x:AJ)(t:List AS×List Int×List Bool):Prop:= ∀p∈(t.1.zip t.2.1).zip t.2.2,p.2=true->p.1∈Dw x
def AAS{x:AJ}{a:List AS×List Int}{n:Int}{t:List AS×List Int×List Bool}(h:a.2.length=a.1.length/\a.1.length<=256/\RL a.1)(hn:n<=100000)(m:T3 n t)(R: ∀p∈a.1.zip a.2,p∈Dw x)(G:Wh x t):As (Aj (Ed a) (0,(0,t))) λr=>Wh x r:=by
 refine Cv (λ(s:Int×Int×List AS×List Int×List Bool)=>0<=s.2.1/\s.2.1<=a.1.length/\T3 (n+s.2.1) s.2.2/\Wh x s.2.2) (λ(s:Int×Int×List AS×List Int×List Bool)=>((a.1.length:Int)-s.2.1).toNat) ⟨Ae _,d!,by simpa using m,G⟩ (λs F=>?_);have⟨g,S,⟨z,H,T,A⟩,o⟩:=F;have⟨P,Q,E⟩:=h;unfold Ed;rw[(Aa (x:=s.2.1+1))];refine AC (λf=>?_) (λ_=>As.done o);simp[len]at f;refine AA (AI g f) λI _=>AC (λ_=>As.next ⟨d!,d!,⟨z,H,d!,A⟩,o⟩ d!) (λ_=>AA (AI g f) λy k=>AA (AI g) λJ C=>AA (AI g f) λi D=>?_);have j:i=y:=by grind[Option.some.inj]
 subst j;refine Dx (Q5 (E i k.2)) λK B l=>AA (Ac w!) λL b=>?_;have q:=b.2.1;simp[Ba,Bo]at q;refine AA (Ac w!) λM d=>?_;have u:=d.2.1;simp[Ba,Bo]at u;refine AA (Ac w!) λN e=>?_;have v:=e.2.1;simp[Ba,Bo]at v;refine AA (AI g f) λO _=>As.next ⟨d!,d!,⟨d!,d!,d!,λr hr=>?_⟩,λp c m=>?_⟩ d!
 dsimp only at hr;rw[b.1]at hr;rcases Ao.1 hr with w|w;exact A r w;simp at w;rw[w];exact l;dsimp only at c;rw[b.1,d.1,e.1,bk z.symm,bk (by rw[List.length_zip];omega)]at c;rcases Ao.1 c with c|c;exact o p c m;grind[List.zip_cons_cons,List.zip_nil_left,List.mem_singleton,E8,AFV]
def AAQ{x:AJ}{L:List EN}(h:AR L x):As (Fu x) λr=>T3 4096 r/\Wh x r:=by unfold Fu;refine AA Jk λo i=>AP (λ_=>AB ⟨⟨rfl,rfl,k!,λr hr=>by simp at hr⟩,λp d=>by simp at d⟩) (λc=>?_);have e:=i c;have a4:=e.2.2.2.1;refine AA (P:=λr=>T3 4096 r/\Wh x r) ?_ λr hr=>AB hr;refine Cv (λ(s:Int×List AS×List Int×List Bool)=>0<=s.1/\s.1<=x.1.length/\T3 (256*s.1) s.2/\Wh x s.2) (λ(s:Int×List AS×List Int×List Bool)=>((x.1.length:Int)-s.1).toNat) ⟨Ae _,d!,⟨rfl,rfl,k!,λr hr=>by simp at hr⟩,λp d=>by simp at d⟩ (λs k=>?_);have⟨f,n,b,g⟩:=k;unfold M9;rw[(Aa (x:=s.1+1))];refine AC (λc=>?_) (λ_=>As.done ⟨⟨b.1,b.2.1,by have:=b.2.2.1;omega,b.2.2.2⟩,g⟩);simp[len]at c;refine AA ((XN e h.sa f).and (AAR h f)) λl a=>AA ((XO a.1 o! b).and (AAS a.1 o! b a.2.2 g)) λm j=>?_;grind[As.next]
def tz{a:AJ}{r:AS}(h:BD a.2.1 a.1):As (FL (a,r)) λk=>0<=k->a.1[k.toNat]? =some r.2.2.1:=by
 have b:=h.2.2.2.1;refine AA (P:=λq=> ∀k:Int,q= .inl k->a.1[k.toNat]? =some r.2.2.1) ?_ λq f=>?_
 ·refine Cv (λ(s:Int)=>0<=s/\s<=a.1.length) (λs=>((a.1.length:Int)-s).toNat) ⟨Ae _,o!⟩ (λs c=>?_);have⟨g,i⟩:=c;unfold HB;dsimp[len];refine AC (λe=>?_) (λ_=>As.done λk d=>by cases d);have hr:=kD h (Au o!:a.1[s.toNat]? =some (a.1[s.toNat]' o!));grind[Int.toNat_of_nonneg,Aa,AQ,As.done,As.next]
 grind[A6,AB]
def Good.refE{a:AJ}{f:BG}{r:AS}(h:Good a f r)(c:BD a.2.1 a.1): ∃k:Nat,DD (a,f)=some (r,(k:Int))/\a.1[k]? =some r.2.2.1:=by have⟨e,g,i,b⟩:=h;have⟨k,k1,d,j⟩:=(nm (r:=r) c).and (tz (r:=r) c);refine⟨k.toNat,?_,j (d.2 b)⟩;unfold DD;rw[e,g,bne_self_eq_false,cond_false,uF i,AD,show(((r,(0:Int)):AS×Int).2 !=0)=false from rfl,cond_false,k1,AD,JO (d.2 b)]
def Beh(a b:NE):Prop:=a.1.2.1<b.1.1
def Lt(a b:NE):Prop:=a.1.2.2.1<b.1.2.2.1\/(a.1.2.2.1=b.1.2.2.1/\Beh a b)
def yU{L:List EN}{x:AJ}(h:AR L x)(e:NE):e∈Dw x↔ ∃f∈x.2.2.1,Good x f e.1/\e.2=f.2.1:=⟨λd=>by have⟨f,a,b,c,_⟩:=h.mem d;exact⟨f,a,b,c⟩,λ⟨f,a,b,c⟩=>by have:=PP h.vb.1 a b;rw[<-c]at this;exact this⟩
def mz{L:List EN}{x:AJ}(h:AR L x){e:NE}(a:e∈Dw x):1<=e.1.1/\e.1.1<=e.1.2.1:=by have⟨f,_,g,_⟩:=h.mem a;have:=g.2.2.1.1;exact⟨this.1,this.2.1⟩
def yq{s2:List AS×List Int×Int}{v4:AS×Int}(h:s2.1.length<=16777215):As (Aj (G2 s2 v4) (len s2.1)) λr=>0<=r/\r<=s2.1.length/\(∀e∈s2.1.drop r.toNat,v4.1.1<=e.1)/\(0<r-> ∀e,s2.1[r.toNat-1]? =some e->e.1<=v4.1.1):=by refine Cv (λ(s:Int)=>0<=s/\s<=s2.1.length/\ ∀e∈s2.1.drop s.toNat,v4.1.1<=e.1) (λ(s:Int)=>s.toNat) ⟨by unfold len;omega,by unfold len;omega,λe a=>by simp[len]at a⟩ (λs i=>?_);have⟨f,g,b⟩:=i;unfold G2;refine AC (λj=>?_) (λj=>As.done ⟨f,g,b,λl=>absurd l o!⟩);rw[Aa];refine AA (AI) λm c=>AC (λk=>As.next ⟨o!,o!,λe a=>?_⟩ o!) (λk=>As.done ⟨f,g,b,λ_ e a=>?_⟩);rw[show s.toNat=(s-1).toNat+1 by omega]at b;have d:=C0 c.1;rw[QV d]at a;rcases Av.1 a with q|q;have:=c.1;rw[Au d]at this;grind[Option.some.inj];exact b e q;have:=c.1;rw[show(s-1).toNat=s.toNat-1 by omega,a]at this;rw[BV this];omega
def W2(x:AJ)(k:Nat)(s:List AS×List Int×Int):Prop:=0<=s.2.2/\s.2.2<=x.2.2.1.length/\ ∃M:List NE,s.1=M.map (·.1)/\s.2.1=M.map (·.2)/\M.length<=s.2.2/\M.Pairwise Beh/\ ∀e,e∈M↔(∃f∈x.2.2.1.take s.2.2.toNat,Good x f e.1/\e.2=f.2.1)/\x.1[k]? =some e.1.2.2.1
def yp{x:AJ}{L:List EN}{s1:Int×List AS×List Int×List Bool}(h:AR L x){k:Nat}(hp:s1.1=k):As (Aj (Ec x s1) ([],([],0))) λr=> ∃M:List NE,r=(M.map (·.1),M.map (·.2))/\M.length<=256/\M.Pairwise Beh/\ ∀e,e∈M↔e∈Dw x/\x.1[k]? =some e.1.2.2.1:=by
 obtain⟨⟨b1,b2,b3,b4,b5,b6,b7⟩,a1,a2,a3,a4,a5,a6⟩:=h.vb;refine Cv (W2 x k) (λs=>((x.2.2.1.length:Int)-s.2.2).toNat) ⟨Ae _,d!,[],rfl,rfl,k!,List.Pairwise.nil,λe=>k!⟩ ?_;rintro⟨A,B,i⟩ ⟨i1,i2,M,eA,eB,i4,W,X⟩;dsimp only at i1 i2 eA eB i4 X;subst eA eB;unfold Ec;dsimp only[len];rw[Aa (x:=i+1)];refine AC (λhc=>?_) (λhc=>As.done ⟨M,rfl,o!,W,λe=>by rw[X e,yU h,BQ o!]⟩);refine AA (AI i1 hc) λZ P=>?_;have et:x.2.2.1.take (i+1).toNat=x.2.2.1.take i.toNat++[Z]:=by rw[show(i+1).toNat=i.toNat+1 by omega,Ct,P.1];rfl
 have C:(∀e:NE,Good x Z e.1->x.1[k]? ≠some e.1.2.2.1)->As (some (Step.next (M.map (·.1),(M.map (·.2),i+1))):Option (Step (List AS×List Int×Int) (List AS×List Int))) (Nb (W2 x k) (λs=>((x.2.2.1.length:Int)-s.2.2).toNat) ((x.2.2.1.length:Int)-i).toNat λr=> ∃M:List NE,r=(M.map (·.1),M.map (·.2))/\M.length<=256/\M.Pairwise Beh/\ ∀e,e∈M↔e∈Dw x/\x.1[k]? =some e.1.2.2.1):=λhn=>by
  refine As.next ⟨d!,d!,M,rfl,rfl,d!,W,λe=>?_⟩ d!
  dsimp only;rw[X e,et];constructor;rintro⟨⟨f,o,l⟩,m⟩;exact⟨⟨f,Ao.2 (.inl o),l⟩,m⟩;rintro⟨⟨f,o,l⟩,m⟩;rcases Ao.1 o with q|q;exact⟨⟨f,q,l⟩,m⟩;rw[BC.1 q]at l;exact absurd m (hn e l.1)
 rcases h.files Z P.2 with u|⟨r,D,_⟩;obtain⟨r,hr⟩:=u.ref (a:=x);rw[hr,AD];dsimp only;rw[show((-1:Int) !=s1.1)=true by rw[hp];exact bne_iff_ne.2 o!,cond_true];exact C λe v=>absurd v.2.1 (u.2 _ v.2.2.1.wr);obtain⟨kk,hr,F⟩:=D.refE h.vb.1;rw[hr,AD];dsimp only;rw[hp];refine AM (λa'=>C λe v hk=>a' ?_) (λT=>?_);have e1:=pC v.2.2.1 D.2.2.1 (v.2.1.symm.trans D.2.1);rw[e1]at hk;rw[h.vb.1.inj F hk];have T:kk=k:=o!
 subst T;refine AA (yq (s2:=(M.map (·.1),(M.map (·.2),i))) (v4:=(r,(kk:Int))) (by dsimp only;rw[Bs];omega)) λc h7=>?_;obtain⟨Y,g2,g3,g4⟩:=h7;dsimp only at g2 g3 g4;rw[Bs]at g2;have m1:(M.map (·.1)).length=M.length:=Bs _;have m2:(M.map (·.2)).length=M.length:=Bs _;refine AA (Bb (Ae _) Y) λv8 h8=>AA (Bb Y) λv9 h9=>?_;have l8:=h8.2;have l9:=h9.2;refine AA (Ac w!) λcc H=>?_;have bl:=H.2.1;simp only[Ba]at bl;refine AA (Ac w!) λcd I=>?_;have bt:=I.2.1;simp only[Ba,Bo]at bt;refine AA (Ac o!) λbN a0=>AA (Bb (Ae _) Y) λb0 J=>?_;have ca:=J.2;refine AA (AI i1 hc) λd a7=>?_;have ao:d=Z:=by have:=a7.1;rw[P.1]at this;exact(BV this).symm
 subst ao;refine AA (Bb Y) λb8 K=>?_;have cb:=K.2;refine AA (Ac w!) λce N=>?_;have bz:=N.2.1;simp only[Ba]at bz;refine AA (Ac w!) λcf O=>?_;have bG:=O.2.1;simp only[Ba,Bo]at bG;refine AA (Ac o!) λb9 a8=>?_;have z: ∀{β:Type} (g:NE->β) (a b:List β),a=List.take (c.toNat-Int.toNat 0) (List.drop (Int.toNat 0) (M.map g))->b=List.take (((M.map g).length:Int).toNat-c.toNat) (List.drop c.toNat (M.map g))->a=(M.take c.toNat).map g/\b=(M.drop c.toNat).map g:=λg a b t u=>by refine⟨?_,?_⟩;rw[t,List.map_take];rfl;rw[u,jQ];exact BQ (by rw[FJ];omega)
 obtain⟨e8,e9⟩:=z (·.1) v8 v9 h8.1 h9.1;obtain⟨al,ar⟩:=z (·.2) b0 b8 J.1 K.1;have ad:bN=(M.take c.toNat++(r,d.2.1)::M.drop c.toNat).map (·.1):=by rw[a0.1,I.1,H.1,e8,e9];simp
 have ax:b9=(M.take c.toNat++(r,d.2.1)::M.drop c.toNat).map (·.2):=by rw[a8.1,O.1,N.1,al,ar];simp
 have y:=PP h.vb.1 P.2 D;have U: ∀a∈M,a∈Dw x/\a.1.2.2.1=r.2.2.1/\a≠(r,d.2.1):=λa t=>by
  obtain⟨⟨f,o,l,m⟩,G⟩:=(X a).1 t;refine⟨(yU h a).2 ⟨f,Fl o,l,m⟩,?_,λv=>?_⟩;rw[F]at G;exact(BV G).symm;obtain⟨j,p⟩:=Dm o;have E:=C0 p;rw[BR]at E;rw[JQ o!,Au o!]at p;have Q:=P.1;rw[Au o!]at Q;have:=HF.1 (rU h.vb) j i.toNat o! o! o!
  rw[BV p,BV Q]at this;rw[v]at m;dsimp only at m;omega
 have S: ∀a∈M.take c.toNat,Beh a (r,d.2.1):=λa t=>by
  have a9:=Fl t;obtain⟨q1,q2,q3⟩:=U a a9;have ra:=mz h q1;have rr:=mz h y;obtain⟨j,p⟩:=Dm t;have E:=C0 p;rw[BR]at E;rw[JQ o!]at p;have n:M[c.toNat-1]? =some (M[c.toNat-1]' o!):=Au o!;have V:(M[c.toNat-1]' o!).1.1<=r.1:=g4 o! _ (by rw[CD,n];rfl);have b':a.1.1<=r.1:=by by_cases v:j=c.toNat-1;rw[v,n]at p;rw[<-BV p];exact V;have:=HF.1 W j (c.toNat-1) o! o! o!;rw[Au o!]at p;rw[BV p]at this;unfold Beh at this;omega
  rcases h.dis a q1 _ y q3 q2 with w|w;exact w;dsimp only at w rr;omega
 have R: ∀b∈M.drop c.toNat,Beh (r,d.2.1) b:=λb u=>by obtain⟨q1,q2,q3⟩:=U b (OT u);have rb:=mz h q1;have rr:=mz h y;have V:=g3 b.1 (by rw[<-jQ];exact R7 u);rcases h.dis _ y b q1 (Ue q3) q2.symm with w|w;exact w;dsimp only at w rr;omega
 rw[ad,ax];refine As.next ⟨d!,d!,_,rfl,rfl,by simp[Ag,Bo,BR,FJ];omega,?_,λe=>?_⟩ d!
 rw[<-Di c.toNat M]at W;obtain⟨p1,p2,p3⟩:=List.pairwise_append.1 W;refine List.pairwise_append.2 ⟨p1,List.pairwise_cons.2 ⟨R,p2⟩,λa t b u=>?_⟩;rcases Av.1 u with q|q;rw[q];exact S a t;exact p3 a t b q;dsimp only;rw[et];have bb:e∈M.take c.toNat++(r,d.2.1)::M.drop c.toNat↔e∈M\/e=(r,d.2.1):=by
  conv=>rhs;rw[<-Di c.toNat M]
  simp only[Ao,Av];constructor;rintro(q|q|q);exact .inl (.inl q);exact .inr q;exact .inl (.inr q);rintro((q|q)|q);exact .inl q;exact .inr (.inr q);exact .inr (.inl q)
 rw[bb,X e];constructor;rintro(⟨⟨f,o,l⟩,m⟩|q);exact⟨⟨f,Ao.2 (.inl o),l⟩,m⟩;rw[q];exact⟨⟨d,Ao.2 (.inr (BC.2 rfl)),D,rfl⟩,F⟩;rintro⟨⟨f,o,l,G⟩,m⟩;rcases Ao.1 o with q|q;exact .inl ⟨⟨f,q,l,G⟩,m⟩;rw[BC.1 q]at l G;have e1:=pC l.2.2.1 D.2.2.1 (l.2.1.symm.trans D.2.1);exact .inr (DN e1 G)
def yr{M:List NE}{t:List AS×List Int×List Bool}(v:M.Pairwise Beh)(m: ∀e∈M,1<=e.1.1/\e.1.1<=e.1.2.1)(w:M.length<=256)(z:t.1.length<=100000)(A:t.2.1.length<=100000)(B:t.2.2.length<=100000):As (Aj (Ed (M.map (·.1),M.map (·.2))) (0,(0,t))) λr=>r=(t.1++M.map (·.1),(t.2.1++M.map (·.2),t.2.2++M.map λ_=>true)):=by
 have y:(M.map (·.1)).length=M.length:=Bs _;refine Cv (λ(s:Int×Int×List AS×List Int×List Bool)=> ∃k:Nat,s.2.1=k/\k<=M.length/\s.2.2=(t.1++(M.take k).map (·.1),(t.2.1++(M.take k).map (·.2),t.2.2++(M.take k).map λ_=>true))/\((k=0/\s.1=0)\/ ∃e,0<k/\M[k-1]? =some e/\s.1=e.1.2.1)) (λs=>((M.length:Int)-s.2.1).toNat) ⟨0,rfl,Bi _,k!,.inl ⟨rfl,rfl⟩⟩ ?_;rintro⟨j,_,T⟩ ⟨k,rfl,k1,rfl,o⟩;dsimp only at o;unfold Ed;dsimp[len];rw[Aa (x:=(k:Int)+1)];refine AC (λl=>?_) (λl=>As.done (by rw[BQ o!]));have a:k<M.length:=o!
 have h:ix (M.map (·.1)) (k:Int)=some M[k].1:=by unfold ix;rw[if_pos o!,Int.toNat_natCast,List.getElem?_map,List.getElem?_eq_getElem a];rfl
 have i:ix (M.map (·.2)) (k:Int)=some M[k].2:=by unfold ix;rw[if_pos o!,Int.toNat_natCast,List.getElem?_map,List.getElem?_eq_getElem a];rfl
 have n:=m _ (PH a);have b:j<M[k].1.1:=by grind[List.pairwise_iff_getElem,List.getElem?_eq_getElem,Option.some.inj,Beh]
 have g:M.take (k+1)=M.take k++[M[k]]:=by grind[List.take_add_one,List.getElem?_eq_getElem]
 have l1:=jP k M;rw[h,AD,decide_eq_false o!,cond_false,AD,i,AD,AD];rw[show E8 (M[k].1,j)=some M[k].1 by unfold E8;rw[decide_eq_true (by exact b)];rfl,Option.bind_some];refine AA (Ac w!) λp c=>AA (Ac w!) λq d=>AA (Ac w!) λu f=>?_;rw[AD];refine As.next ⟨k+1,rfl,a,?_,.inr ⟨M[k],o!,Au a,rfl⟩⟩ d!
 dsimp only;rw[c.1,d.1,f.1,g,decide_eq_true (by exact b)];simp only[Md,Bv,HE,A2]
def ACT{x:AJ}{L:List EN}(h:AR L x):As (Fu x) λr=> ∃W:List NE,r=(W.map (·.1),(W.map (·.2),W.map λ_=>true))/\W.Pairwise Lt/\ ∀e,e∈W↔e∈Dw x:=by
 obtain⟨⟨E,F,G,H,I,J,K⟩,a1,a2,a3,a4,a5,a6⟩:=h.vb;unfold Fu;refine AA OH λQ A=>AP (λt=>absurd (A.2 h.vb) (by simp[t])) (λ_=>AA (P:=λr=> ∃W:List NE,r=(W.map (·.1),(W.map (·.2),W.map λ_=>true))/\W.Pairwise Lt/\ ∀e,e∈W↔e∈Dw x) ?_ λr hr=>AB hr);refine Cv (λ(s:Int×List AS×List Int×List Bool)=> ∃(i:Nat) (W:List NE),s.1=i/\i<=x.1.length/\s.2=(W.map (·.1),(W.map (·.2),W.map λ_=>true))/\W.length<=256*i/\W.Pairwise Lt/\ ∀e,e∈W↔e∈Dw x/\ ∃k:Nat,k<i/\x.1[k]? =some e.1.2.2.1) (λs=>((x.1.length:Int)-s.1).toNat) ⟨0,[],rfl,Bi _,rfl,k!,List.Pairwise.nil,λe=>k!⟩ ?_;rintro⟨_,_⟩ ⟨i,W,rfl,N,rfl,O,y,v⟩;unfold M9;dsimp only[len];rw[Aa (x:=(i:Int)+1)];refine AC (λt=>?_) (λt=>As.done ⟨W,rfl,y,λe=>?_⟩)
 ·refine AA (yp h rfl) λC l=>?_;obtain⟨M,rfl,B,z,j⟩:=l;refine AA (yr z (λe u=>mz h ((j e).1 u).1) B (by rw[Bs];omega) (by rw[Bs];omega) (by rw[Bs];omega)) λD m=>As.next ⟨i+1,W++M,rfl,o!,by rw[m];simp,by rw[Ag];omega,List.pairwise_append.2 ⟨y,?_,λa n b p=>?_⟩,λe=>?_⟩ d!
  refine lk ?_ z;intro a b n p o;have w:=((j a).1 n).2;rw[((j b).1 p).2]at w;exact .inr ⟨(BV w).symm,o⟩;obtain⟨_,k,k1,c⟩:=(v a).1 n;obtain⟨d,rfl⟩: ∃d,i=k+1+d:=⟨i-(k+1),o!⟩
  exact .inl (h.vb.1.lt d k _ _ c ((j b).1 p).2);rw[Ao,v e,j e];constructor;rintro(⟨q,k,k1,c⟩|⟨q1,q2⟩);exact⟨q,k,o!,c⟩;exact⟨q1,i,o!,q2⟩;rintro⟨q,k,k1,c⟩;by_cases u:k=i;rw[u]at c;exact .inr ⟨q,c⟩;exact .inl ⟨q,k,o!,c⟩
 rw[v e];refine⟨λq=>q.1,λq=>⟨q,?_⟩⟩;obtain⟨f,_,g,_⟩:=h.mem q;obtain⟨k,k1,_⟩:=g.2.2.2;have:=C0 k1;exact⟨k,o!,k1⟩
def AEY{x:AJ}{L:List EN}(h:AR L x):As (QP x) λr=> ∃W:List NE,r=(W.map (·.1),W.map (·.2))/\W.Pairwise Lt/\W.length<=256/\ ∀e,e∈W↔e∈Dw x:=by refine AA (ACT h) λr hr=>?_;obtain⟨W,rfl,i,g⟩:=hr;refine AB ⟨W,rfl,i,?_,g⟩;have f:W.Nodup:=Jq.2 (i.imp_of_mem λ{a b} j k c d=>by subst d;have:=mz h ((g a).1 j);rcases c with q|⟨_,q⟩;omega;unfold Beh at q;omega);have q1:=dy W (Dw x) f λe d=>(g e).1 d;have q2:(Dw x).length<=x.2.2.1.length:=List.length_filterMap_le _ _;have:=h.vb.2.2.2.2.2.1;omega
def zN{L:List EN}{x:List AS×List Bool}{k:Nat}{z t:AS}{F T lo hi lv:Int}{b:List EN}(i:Uq L)(m:x.1[k]? =some t)(f: ∀e∈t.2.2.2.2.2,e∈L)(n:t.2.2.2.2.2.length≤4096)(l: ∀e∈b,e∈L)(q:b.length≤1000000){o:AS}:
  As (Aj (G3 x ((k:Int),(o,z))) (0,(F,(T,(lo,(hi,(lv,b))))))) λr=> ∃a:List EN,r=(F,(T,(lo,(hi,(lv,a)))))/\a.length<=b.length+4096/\ ∀y,y∈a↔y∈b\/y∈t.2.2.2.2.2:=by
 refine Cv (λ(s:Int×AS)=> ∃(j:Nat) (a:List EN),s=((j:Int),(F,(T,(lo,(hi,(lv,a))))))/\j<=t.2.2.2.2.2.length/\a.length<=b.length+j/\ ∀y,y∈a↔y∈b\/y∈t.2.2.2.2.2.take j) (λs=>t.2.2.2.2.2.length-s.1.toNat)
  ⟨0,b,rfl,Bi _,o!,λy=>k!⟩ ?_
 rintro s ⟨j,a,rfl,A,B,p⟩;unfold G3;rw[(by unfold ix;rw[if_pos o!,Int.toNat_natCast,m]:ix x.1 (k:Int)=some t),Option.bind_some];simp only[len];refine AC (λd=>?_) (λd=>As.done ⟨a,rfl,o!,q!⟩);rw[AD];refine AA (AI o! d) λv g=>?_;have c:=g.1;rw[Dl]at c;refine AA (kB i (λe h=>((p e).1 h).elim (l e) λh=>f e (Fl h)) (f v g.2) o!) λw u=>?_;rw[Aa];refine As.next ⟨j+1,w.1,q!,o!,o!,λy=>?_⟩ o!
 grind[List.take_add_one,Option.toList_some,List.mem_singleton]
def qz(x:List AS×List Bool)(lo hi:Int)(k:Nat):Prop:=x.2[k]? =some true/\ ∃r,x.1[k]? =some r/\r.2.2.1=lo/\r.2.2.2.1=hi/\(0<k-> ∀p,x.1[k-1]? =some p->r.1=p.2.1+1)
def AC4{L:List EN}{x:List AS×List Bool}{a l:AS}(hL:Uq L)(h: ∀(k:Nat) (r:AS),x.1[k]? =some r→x.2[k]? =some true→VR r∧ ∀e∈r.2.2.2.2.2,e∈L)(h1:1≤x.1.length∧x.1.length≤8)(h2:x.2.length=x.1.length)(V:x.1[0]? =some a)(W:x.1[x.1.length-1]? =some l):
  As (Lg x) λr=>r.2=true->VR r.1/\ ∃(d:Int) (b:List EN),r.1=(a.1,(l.2.1,(a.2.2.1,(a.2.2.2.1,(d,b)))))/\(∀k,k<x.1.length->qz x a.2.2.1 a.2.2.2.1 k)/\ ∀y,y∈b↔ ∃(k:Nat) (r:AS),x.1[k]? =some r/\y∈r.2.2.2.2.2:=by
 have G:ix x.1 0=some a:=by unfold ix;rw[if_pos o!];exact V
 have R:ix x.1 (wi (len x.1-1))=some l:=by rw[Aa (x:=len x.1-1) (by simp[len];omega)];unfold ix;simp only[len];rw[if_pos o!,show((x.1.length:Int)-1).toNat=x.1.length-1 by omega,W]
 unfold Lg;rw[G,R,AD,AD,AD,AD,AD];generalize wi (a.2.2.2.2.1+1)=d;refine AA (P:=λr=>(∃u,r= .inl u/\u.1=false)\/ ∃z b,r= .inr ((a.1,(l.2.1,(a.2.2.1,(a.2.2.2.1,(d,b))))),z)/\(∀k,k<x.1.length->qz x a.2.2.1 a.2.2.2.1 k)/\ ∀y,y∈b↔ ∃(k:Nat) (r:AS),x.1[k]? =some r/\y∈r.2.2.2.2.2) ?_ λr hr=>?_
 ·refine Cv (λ(s:Int×AS×AS)=> ∃(k:Nat) (z:AS) (b:List EN),s=((k:Int),((a.1,(l.2.1,(a.2.2.1,(a.2.2.2.1,(d,b))))),z))/\k<=x.1.length/\b.length<=4096*k/\(∀j,j<k->qz x a.2.2.1 a.2.2.2.1 j)/\ ∀y,y∈b↔ ∃(j:Nat) (r:AS),j<k/\x.1[j]? =some r/\y∈r.2.2.2.2.2) (λs=>x.1.length-s.1.toNat)
   ⟨0,_,[],rfl,Bi _,Bi _,λj H=>absurd H o!,λy=>⟨λhy=>by simp at hy,λ⟨j,r,H,_⟩=>absurd H o!⟩⟩ ?_
  rintro s ⟨k,z,b,rfl,i2,i3,X,Y⟩;unfold Rr;dsimp only;simp only[len];refine AC (λhc=>?_) (λhc=>As.done (.inr ⟨z,b,rfl,λj H=>X j o!,λy=>?_⟩))
  ·have hk:k<x.1.length:=o!
   have c:x.1[k]? =some x.1[k]:=Au hk;generalize x.1[k]=t at c;have i:x.2[k]? =some (x.2[k]' o!):=Au o!;generalize x.2[k]' o!=bb at i;have U:ix x.1 (k:Int)=some t:=by unfold ix;rw[if_pos o!,Int.toNat_natCast,c]
   have Q:ix x.2 (k:Int)=some bb:=by unfold ix;rw[if_pos o!,Int.toNat_natCast,i]
   rw[Q,AD];refine AP (λ_=>As.done (.inl ⟨_,rfl,rfl⟩)) (λO=>?_);rw[O]at i;have⟨tv,tm⟩:=h k t c i;rw[U,AD,G,AD];refine AM (λ_=>As.done (.inl ⟨_,rfl,rfl⟩)) (λq1=>?_);rw[AD,AD];refine AM (λ_=>As.done (.inl ⟨_,rfl,rfl⟩)) (λq2=>?_);rw[AD,AD];refine AM (λ_=>As.done (.inl ⟨_,rfl,rfl⟩)) (λq3=>?_);have E: ∀e∈b,e∈L:=λe he=>by have⟨j,r,B,m,v⟩:=(Y e).1 he;exact(h j r m (X j B).1).2 e v
   have J:=zN (x:=x) (k:=k) (z:=z) (o:=(a.1,(l.2.1,(a.2.2.1,(a.2.2.2.1,(d,b)))))) (F:=a.1) (T:=l.2.1) (lo:=a.2.2.1) (hi:=a.2.2.2.1) (lv:=d) hL c tm tv.1.2.2.2.2.2.2.2.2 E o!
   have D:qz x a.2.2.1 a.2.2.2.1 k→ ∀f:List EN,f.length≤b.length+4096→(∀y,y∈f↔y∈b∨y∈t.2.2.2.2.2)→
     As (some (Step.next (wi ((k:Int)+1),((a.1,(l.2.1,(a.2.2.1,(a.2.2.2.1,(d,f))))),z))):Option (Step (Int×AS×AS) ((Bool×AS)⊕ (AS×AS)))) (Nb (λ(s:Int×AS×AS)=> ∃(k:Nat) (z:AS) (b:List EN),s=((k:Int),((a.1,(l.2.1,(a.2.2.1,(a.2.2.2.1,(d,b))))),z))/\k<=x.1.length/\b.length<=4096*k/\(∀j,j<k->qz x a.2.2.1 a.2.2.2.1 j)/\ ∀y,y∈b↔ ∃(j:Nat) (r:AS),j<k/\x.1[j]? =some r/\y∈r.2.2.2.2.2) (λs=>x.1.length-s.1.toNat) (x.1.length-((k:Nat):Int).toNat)
      λr=>(∃u,r= .inl u/\u.1=false)\/ ∃z b,r= .inr ((a.1,(l.2.1,(a.2.2.1,(a.2.2.2.1,(d,b))))),z)/\(∀k,k<x.1.length->qz x a.2.2.1 a.2.2.2.1 k)/\ ∀y,y∈b↔ ∃(k:Nat) (r:AS),x.1[k]? =some r/\y∈r.2.2.2.2.2):=λhm f M C=>by
    rw[Aa];refine As.next ⟨k+1,z,f,by rw[show(k:Int)+1=((k+1:Nat):Int) by omega],o!,o!,λj H=>?_,λy=>?_⟩ d!
    grind;rw[C,Y];constructor;rintro(⟨j,r,B,m,v⟩|g);exact⟨j,r,o!,m,v⟩;exact⟨k,t,o!,c,g⟩;rintro⟨j,r,B,m,v⟩;by_cases ao:j=k<;>grind
   apply AC<;>intro al
   ·have hp:k-1<x.1.length:=o!
    have q:x.1[k-1]? =some x.1[k-1]:=Au hp;generalize x.1[k-1]=p at q;have S:ix x.1 (wi ((k:Int)-1))=some p:=by rw[Aa];unfold ix;rw[if_pos o!,show((k:Int)-1).toNat=k-1 by omega,q]
    rw[AD,S,AD];have A:=(h (k-1) p q (X (k-1) o!).1).1.1;have ad:=A.2.2.1;have ar:=A.1;have ax:=A.2.1;rw[Aa (x:=p.2.1+1)];refine AM (λ_=>As.done (.inl ⟨_,rfl,rfl⟩)) (λq4=>AA J λZ w=>?_);obtain⟨f,rfl,M,C⟩:=w;refine D ⟨i,t,c,q1,q2,λ_ p' n=>?_⟩ f M C;rw[q]at n;injection n with n;rw[<-n];exact q4
   have K:As (Aj (G3 x ((k:Int),((a.1,(l.2.1,(a.2.2.1,(a.2.2.2.1,(d,b))))),z))) (0,(a.1,(l.2.1,(a.2.2.1,(a.2.2.2.1,(d,b))))))) λr=> ∃f:List EN,r=(a.1,(l.2.1,(a.2.2.1,(a.2.2.2.1,(d,f)))))/\f.length<=b.length+4096/\ ∀y,y∈f↔y∈b\/y∈t.2.2.2.2.2:=J;refine AA K λZ w=>?_;obtain⟨f,rfl,M,C⟩:=w;exact D ⟨i,t,c,q1,q2,λh0=>absurd h0 o!⟩ f M C
  rw[Y];constructor;rintro⟨j,r,B,m,v⟩;exact⟨j,r,m,v⟩;rintro⟨j,r,m,v⟩;exact⟨j,r,by have:=C0 m;omega,m,v⟩
 rcases hr with⟨u,rfl,hu⟩|⟨z,b,rfl,B,m⟩;exact BK (AB λI=>by dsimp only at I;rw[hu]at I;cases I);refine A4 (AA WP λa0 N=>AB λI=>⟨N.1 I,d,b,rfl,B,m⟩)
def eD(a b:AJ):Prop:= ∀lo n,AEG a lo n↔AEG b lo n
def sT{a:AJ}(h:VB a){x y:NE}(c:x∈Dw a)(d:y∈Dw a)(b:x.2=y.2):x=y:=by grind[sS,List.pairwise_iff_getElem,List.mem_iff_getElem]
structure Grp(M:List NE)(lo hi:Int):Prop where
 same: ∀(k:Nat) (e:NE),M[k]? =some e->e.1.2.2.1=lo/\e.1.2.2.2.1=hi/\e.1.1<=e.1.2.1
 next: ∀(k:Nat) (e f:NE),M[k]? =some e->M[k+1]? =some f->f.1.1=e.1.2.1+1
def Grp.cover{M:List NE}{m l:Int}(h:Grp M m l){c:NE}(d:M[0]? =some c): ∀(k:Nat) (b:NE),M[k]? =some b->c.1.1<=b.1.1/\ ∀n:Int,c.1.1<=n->n<=b.1.2.1-> ∃j e,j<=k/\M[j]? =some e/\e.1.1<=n/\n<=e.1.2.1
 |0,b,a=>by rw[d]at a;injection a with a;subst a;exact⟨Ae _,λn g i=>⟨0,c,Aq _,d,g,i⟩⟩
 |k+1,b,a=>by
  have o:=C0 a;have f:M[k]? =some (M[k]' o!):=Au o!;have q:=Grp.cover h d k _ f;have hn:=h.next k _ _ f a
  have p:=(h.same k _ f).2.2;grind
def Grp.le{M:List NE}{g c:Int}(h:Grp M g c){k:Nat}{a:NE}(f:M[k]? =some a): ∀(d:Nat) (e:NE),M[k+d]? =some e->a.1.2.1<=e.1.2.1
 |0,e,he=>q!
 |d+1,e,he=>by
  have i:=C0 he;have b:M[k+d]? =some (M[k+d]' o!):=Au o!;have l:=Grp.le h f d _ b;have hn:=h.next (k+d) _ _ b he
  have j:=(h.same _ _ he).2.2;omega
def yY{c:Type}{l:List c}{a b:c}(d:a∈l)(e:b∈l)(h:a≠b):2<=l.length:=by cases l<;>grind
def jr{b:Type}(p:b->Bool): ∀l:List b,(l.filter p).length+(l.filter λa=>!p a).length=l.length
 |[]=>rfl
 |a::r=>by have:=jr p r;grind
def YM(M:List NE)(l:List BG):List BG:=l.filter λf=>!(M.any λe=>e.2==f.2.1)
def iJ{M:List NE}{l:List BG}{f:BG}:f∈YM M l↔f∈l/\ ∀e∈M,e.2≠f.2.1:=by grind[YM]
def vL{L:List EN}{a:AJ}{M:List NE}{r q:Int}(h:AR L a)(c: ∀e∈M,e∈Dw a)(l:Grp M r q)(w:2<=M.length):(YM M a.2.2.1).length+2<=a.2.2.1.length:=by
 have d:M[0]? =some (M[0]' o!):=Au o!;have k:M[1]? =some (M[1]' o!):=Au o!;have n:=BP d;have o:=BP k;have i:(M[0]' o!).2≠(M[1]' o!).2:=λm=>by
  have j:=l.next 0 _ _ d k
  have:=(l.same 0 _ d).2.2;rw[<-(sT h.vb (c _ n) (c _ o) m)]at j;omega
 have⟨f,s,_,t,_⟩:=h.mem (c _ n);have⟨g,u,_,v,_⟩:=h.mem (c _ o);have p:=jr (λf:BG=>!(M.any λe=>e.2==f.2.1)) a.2.2.1;have:2<=(a.2.2.1.filter λf=>!!(M.any λe=>e.2==f.2.1)).length:=by refine yY (a:=f) (b:=g) ?_ ?_ λm=>i q!;grind;grind
 unfold YM;omega
def ABL{L:List EN}{a:AJ}{M:List NE}{m l:Int}{s:BY}(h:AR L a)(j: ∀e∈M,e∈Dw a)(k:Grp M m l)(i:2<=M.length)(q:a.2.2.2.2<=1073741824):VB (a.1,(a.2.1,(YM M a.2.2.1++[(1,(a.2.2.2.2,s))],(a.2.2.2.1,a.2.2.2.2+1)))):=by have p:=vL h j k i;have⟨b,c,d,f,n,o,g⟩:=h.vb;refine⟨b,c,d,q!,q!,q!,?_⟩;exact(g.sub (List.filter_sublist)).push f rfl rfl
def notM(M:List NE)(x:NE):Bool:= !(M.any λe=>e.2==x.2)
def qp{L:List EN}{a b:AJ}{M:List NE}{r:AS}{lo t:Int}{I T:NE}(hL:Uq L)(h:AR L a)(J: ∀e∈M,e∈Dw a)(V:Grp M lo t)(h2:2≤M.length)(h0:M[0]? =some I)(hn:M[M.length-1]? =some T)
  (hr:VR r) (r1:r.1=I.1.1) (r2:r.2.1=T.1.2.1) (O:r.2.2.1=lo) (r4:r.2.2.2.1=t) (r5: ∀y,y∈r.2.2.2.2.2↔ ∃e∈M,y∈e.1.2.2.2.2.2)
  (hb:b=(a.1,(a.2.1,(YM M a.2.2.1++[(1,(a.2.2.2.2,Mk r))],(a.2.2.2.1,a.2.2.2.2+1))))) (q:VB b):
  AR L b/\eD a b/\(AG a->AG b)/\ ∀c,RC a c->RC b c:=by
 have b1:b.1=a.1:=by rw[hb]
 have b2:b.2.1=a.2.1:=by rw[hb]
 have S:b.2.2.1=YM M a.2.2.1++[(1,(a.2.2.2.2,Mk r))]:=by rw[hb]
 have b4:b.2.2.2.1=a.2.2.2.1:=by rw[hb]
 have m0:=BP h0;have mn:=BP hn;have z: ∀n:Int,(r.1<=n/\n<=r.2.1)↔ ∃e∈M,e.1.1<=n/\n<=e.1.2.1:=λn=>by constructor;rintro⟨B,C⟩;obtain⟨j,e,_,q2,q3⟩:=(V.cover h0 _ T hn).2 n o! o!;exact⟨e,BP q2,q3⟩;rintro⟨e,i,B,C⟩;obtain⟨k,W⟩:=D7.1 i;have q1:=(V.cover h0 k e W).1;have a3:=C0 W;have q2:=V.le W (M.length-1-k) T (by rw[show k+(M.length-1-k)=M.length-1 by omega];exact hn);omega
 have Z: ∀e∈M,Zl L e.1:=λe i=>by obtain⟨f,_,_,_,g,_⟩:=h.mem (J e i);exact g
 have p: ∀e∈M,e.1.2.2.1=lo/\e.1.2.2.2.1=t/\e.1.1<=e.1.2.1:=λe i=>by obtain⟨k,W⟩:=D7.1 i;exact V.same k e W
 have ad:Zl L r:=by refine hr.runOf hL λy=>?_;rw[r5,O,r4];constructor;rintro⟨e,i,N⟩;have g:=((Z e i).mem y).1 N;obtain⟨p1,p2,p3⟩:=p e i;have:=(z y.1).2 ⟨e,i,g.2.2.2.2⟩;exact⟨g.1,g.2.1,o!,o!,this.1,this.2⟩;rintro⟨B,C,P,g4,g5,g6⟩;obtain⟨e,i,q1,q2⟩:=(z y.1).1 ⟨g5,g6⟩;obtain⟨p1,p2,p3⟩:=p e i;exact⟨e,i,((Z e i).mem y).2 ⟨B,C,o!,o!,q1,q2⟩⟩
 have K:Ki a r.2.2.1 r.2.2.2.1:=by obtain⟨f,_,g,_⟩:=h.mem (J I m0);obtain⟨p1,p2,p3⟩:=p I m0;rw[O,r4,<-p1,<-p2];exact g.2.2.2
 have u:Good b (1,(a.2.2.2.2,Mk r)) r:=⟨rfl,rfl,hr,(Ki.congr b1 b2).1 K⟩
 have v: ∀{f:BG} {s:AS},Good a f s->Good b f s:=λg=>g.congr b1 b2;have l: ∀x∈Dw b,(x∈Dw a/\ ∀e∈M,e.2≠x.2)\/x=(r,a.2.2.2.2):=λx w=>by unfold Dw at w;rw[S]at w;obtain⟨f,d,t⟩:=OS.1 w;rcases Ao.1 d with d|d;obtain⟨f1,f2⟩:=iJ.1 d;rcases h.files f f1 with U|⟨s,s1,s2,s3⟩;rw[U.intR q.1]at t;cases t;rw[(v s1).intR q.1]at t;injection t with t;subst t;exact .inl ⟨PP h.vb.1 f1 s1,f2⟩;rw[BC]at d;subst d;rw[u.intR q.1]at t;injection t with t;exact .inr t.symm
 have ax: ∀x∈Dw a,(∀e∈M,e.2≠x.2)->x∈Dw b:=λx w Q=>by
  obtain⟨f,f1,f2,f3,_⟩:=h.mem w;have:f∈b.2.2.1:=by rw[S];exact Ao.2 (.inl (iJ.2 ⟨f1,λe i=>f3▸Q e i⟩))
  have:=PP q.1 this (v f2);rw[<-f3]at this;exact this
 have Y:(r,a.2.2.2.2)∈Dw b:=PP q.1 (by rw[S];exact Ao.2 (.inr (BC.2 rfl))) u;have al: ∀x∈Dw a,x.1.1<=x.1.2.1:=λx w=>by obtain⟨f,_,g,_⟩:=h.mem w;exact g.2.2.1.1.2.1
 have a1:r.1<=r.2.1:=hr.1.2.1;have A: ∀y∈Dw a,(∀e∈M,e.2≠y.2)->y.1.2.2.1=lo->r.2.1<y.1.1\/y.1.2.1<r.1:=λy N Q o=>by refine QU λF=>?_;have a5:=al y N;obtain⟨e,i,q1,q2⟩:=(z (if y.1.1<=r.1 then r.1 else y.1.1)).1 (by split<;>omega);have D:e≠y:=λF=>Q e i (by rw[F]);have:=h.dis e (J e i) y N D ((p e i).1.trans o.symm);split at q1<;>split at q2<;>omega
 refine⟨⟨q,λf d=>?_,λx w y N D o=>?_⟩,λm n=>?_,λao f d=>?_,λc hc m=>?_⟩;rw[S]at d;rw[b4];rcases Ao.1 d with d|d;exact(h.files f (iJ.1 d).1).imp id λ⟨s,s1,s2,s3⟩=>⟨s,v s1,s2,s3⟩
 rw[BC]at d;subst d;obtain⟨f,_,_,_,_,g⟩:=h.mem (J T mn);exact .inr ⟨r,u,ad,o!⟩;rcases l x w with⟨R,x2⟩|rfl;rcases l y N with⟨y1,y2⟩|rfl;exact h.dis x R y y1 D o;have:=A x R x2 (o.trans O);exact this.symm;rcases l y N with⟨y1,y2⟩|rfl;exact A y y1 y2 (o.symm.trans O);exact absurd rfl D;constructor;rintro⟨e,i,B,C,P⟩;by_cases Q: ∃f∈M,f.2=e.2;obtain⟨f,d,ar⟩:=Q;have:=sT h.vb (J f d) i ar;subst this;have hc:=(z n).2 ⟨f,d,C,P⟩;exact⟨_,Y,by rw[<-B,(p f d).1];exact O,hc.1,hc.2⟩;exact⟨e,ax e i λf d F=>Q ⟨f,d,F⟩,B,C,P⟩;rintro⟨e,i,B,C,P⟩;rcases l e i with⟨q1,q2⟩|rfl;exact⟨e,q1,B,C,P⟩;obtain⟨f,d,q1,q2⟩:=(z n).1 ⟨C,P⟩;exact⟨f,J f d,by rw[(p f d).1,<-B];exact O.symm,q1,q2⟩;rw[S]at d;rcases Ao.1 d with d|d;obtain⟨s,hs⟩:=ao f (iJ.1 d).1;exact⟨s,v hs⟩;rw[BC]at d;subst d;exact⟨r,u⟩
 ·have X:=(TD q).filter λe=>e.1.2.2.1==m;have a2:=hc m;by_cases hl:m=lo
  ·subst hl;have H:=dy _ ((r,a.2.2.2.2)::((Dw a).filter λe=>e.1.2.2.1==m).filter (notM M)) X λx w=>by obtain⟨x0,E⟩:=BM.1 w;rcases l x x0 with⟨R,x2⟩|rfl;refine Av.2 (.inr (BM.2 ⟨BM.2 ⟨R,E⟩,?_⟩));unfold notM;simp only[WS,List.any_eq_false,beq_iff_eq];exact x2;exact Av.2 (.inl rfl)
   have a4:=jr (notM M) ((Dw a).filter λe=>e.1.2.2.1==m);have h1:M[1]? =some (M[1]' o!):=Au o!;have m1:=BP h1;have a6:2<=(((Dw a).filter λe=>e.1.2.2.1==m).filter λx=>!notM M x).length:=by
    have G: ∀e∈M,e∈((Dw a).filter λe=>e.1.2.2.1==m).filter λx=>!notM M x:=λe i=>by refine BM.2 ⟨BM.2 ⟨J e i,by rw[(p e i).1];exact beq_self_eq_true _⟩,?_⟩;unfold notM;rw[Bool.not_not];exact ln.2 ⟨e,i,beq_self_eq_true _⟩
    refine yY (G I m0) (G _ m1) λF=>?_;have a0:=V.next 0 I _ h0 h1
    have:=(p I m0).2.2;rw[<-F]at a0;omega
   rw[Bo]at H;omega
  have H:=dy _ ((Dw a).filter λe=>e.1.2.2.1==m) X λx w=>by obtain⟨x0,E⟩:=BM.1 w;rcases l x x0 with⟨R,x2⟩|rfl;exact BM.2 ⟨R,E⟩;exact absurd (eq_of_beq E) λF=>hl (F.symm.trans O)
  omega
def T8(v1:List AS×List Int×List Bool)(i n:Nat):List NE:=((v1.1.zip v1.2.1).drop i).take n
def tP{a:List AS×List Int×List Bool}{i n k:Nat}{e:NE}(b:k<n):(T8 a i n)[k]? =some e↔a.1[i+k]? =some e.1/\a.2.1[i+k]? =some e.2:=by grind[T8]
def ACN{x:AJ×Int}{a:List AS×List Int×List Bool}{i n j:Nat}{f:BG}{z:AJ}{w:List BG×List Int×Int×Int×Int}(hn:x.2=n)(o:n<=8)(t:a.2.1.length=a.1.length)(p:i+n<=a.1.length)(m:a.1.length<=4096)(h:x.1.2.2.1[j]? =some f):As (Aj (OA x a ((i:Int),z) ((j:Int),w)) (false,(i:Int))) λr=>r=(T8 a i n).any λe=>e.2==f.2.1:=by
 have l:(T8 a i n).length=n:=by grind[T8,List.length_take,List.length_drop,List.length_zip]
 refine Cv (λ(s:Bool×Int)=> ∃k:Nat,s=(((T8 a i n).take k).any (λe=>e.2==f.2.1),((i+k:Nat):Int))/\k<=n) (λs=>i+n-s.2.toNat) ⟨0,k!,Bi _⟩ ?_;rintro s ⟨k,rfl,q⟩;unfold OA;dsimp only;rw[hn,Aa (x:=(i:Int)+(n:Int)),Aa (x:=((i+k:Nat):Int)+1)];refine AC (λg=>?_) (λg=>As.done q!);have b:k<n:=o!
 have d:a.2.1[i+k]? =some (a.2.1[i+k]' o!):=Au o!;refine AL (λc=>As.next ⟨k+1,?_,b⟩ q!) (λc=>?_);grind
 ·rw[(by unfold ix;rw[if_pos o!,Int.toNat_natCast,d]:ix a.2.1 ((i+k:Nat):Int)=some (a.2.1[i+k]' o!)),Option.bind_some,(by unfold ix;rw[if_pos o!,Int.toNat_natCast,h]:ix x.1.2.2.1 (j:Int)=some f),Option.bind_some];refine As.next ⟨k+1,?_,b⟩ o!
  rw[(by rw[Ct,((tP (e:=(a.1[i+k]' o!,a.2.1[i+k]' o!)) b).2 ⟨(Au o!),d⟩)];rfl:(T8 a i n).take (k+1)=(T8 a i n).take k++[(a.1[i+k]' o!,a.2.1[i+k]' o!)]),List.any_append,c,Bool.false_or];refine DN ?_ q!;dsimp only;rw[List.any_cons,List.any_nil,Bool.or_false]
def ACM{x:AJ×Int}{a:List AS×List Int×List Bool}{i n:Nat}{z:AJ}(hn:x.2=n)(g:n<=8)(o:a.2.1.length=a.1.length)(l:i+n<=a.1.length)(f:a.1.length<=4096)(u:x.1.2.2.1.length<=256):As (Aj (N9 x a ((i:Int),z)) (0,([],(x.1.1,(x.1.2.1,x.1.2.2.2))))) λr=>r=(YM (T8 a i n) x.1.2.2.1,(x.1.1,(x.1.2.1,x.1.2.2.2))):=by
 refine Cv (λ(q:Int×List BG×List Int×Int×Int×Int)=> ∃j:Nat,q=((j:Int),(YM (T8 a i n) (x.1.2.2.1.take j),(x.1.1,(x.1.2.1,x.1.2.2.2))))/\j<=x.1.2.2.1.length) (λq=>x.1.2.2.1.length-q.1.toNat) ⟨0,rfl,Bi _⟩ ?_;rintro q ⟨j,rfl,v⟩;unfold N9;simp only[len];rw[Aa];refine AC (λk=>?_) (λk=>As.done q!);have d:x.1.2.2.1[j]? =some (x.1.2.2.1[j]' o!):=Au o!;have m:ix x.1.2.2.1 (j:Int)=some (x.1.2.2.1[j]' o!):=by unfold ix;rw[if_pos o!,Int.toNat_natCast,d]
 refine AA (ACN hn g o l f d) λc e=>?_;have p:YM (T8 a i n) (x.1.2.2.1.take (j+1))=YM (T8 a i n) (x.1.2.2.1.take j)++(if c=true then []else [x.1.2.2.1[j]' o!]):=by grind[List.take_add_one,Option.toList_some,YM]
 refine AA (P:=λt=>t=(YM (T8 a i n) (x.1.2.2.1.take (j+1)),(x.1.1,(x.1.2.1,x.1.2.2.2)))) ?_ λs b=>?_;refine AP (λh=>?_) (λh=>AB ?_);grind[YM,T8,Nat.le_trans,List.length_filter_le,List.length_take,AA,Ac,AB];grind
 ·rw[b];exact As.next ⟨j+1,q!,o!⟩ q!
def ADr(L:List EN)(x:AJ×Int)(r:AJ×Bool×Int):Prop:=
 (x.1.2.2.2.2<=1073741824->r.2.2=0)/\(r.2.2=0->(r.2.1=false/\r.1=x.1)\/(r.2.1=true/\AR L r.1/\eD x.1 r.1/\(AG x.1->AG r.1)/\(∀c,RC x.1 c->RC r.1 c)/\r.1.1=x.1.1/\r.1.2.1=x.1.2.1/\r.1.2.2.2.1=x.1.2.2.2.1/\r.1.2.2.2.2=x.1.2.2.2.2+1/\r.1.2.2.1.length+1<=x.1.2.2.1.length/\x.1.2.2.2.2<=1073741824))
def AES{L:List EN}{x:AJ×Int}(hL:Uq L)(h:AR L x.1)(hf:2<=x.2/\x.2<=8):As (MV x) (ADr L x):=by
 have hs:=h.sa;have⟨n,hn⟩:=EM (show 0<=x.2 by omega);have p:x.1.2.2.1.length<=256:=by have:=h.vb.2.2.2.2.2.1;omega
 have al:=h.vb.2.2.2.1;unfold MV;have⟨v0,U,V⟩:=OH (x:=x.1);have X:=V.2 h.vb;subst X;rw[U,AD,Cm,cond_false,decide_eq_false o!,cond_false,decide_eq_false o!,cond_false];refine AA (AAQ h) λa o=>?_;have⟨⟨t1,t2,t3,t4⟩,hw⟩:=o;have q: ∀e∈Dw x.1,VR e.1/\ ∀y∈e.1.2.2.2.2.2,y∈L:=λe t=>by have⟨f,_,g,_,g2,_⟩:=h.mem t;exact⟨g.2.2.1,λy hy=>((g2.mem y).1 hy).1⟩
 refine AA (P:=λr=>(∃z,r= .inr z)\/ ∃u,r= .inl u/\ADr L x (u.2.2,(u.1,u.2.1))) ?_ λr hr=>?_
 ·refine Cv (λ(s:Int×AJ)=>0<=s.1/\s.1<=a.1.length) (λ(s:Int×AJ)=>((a.1.length:Int)-s.1).toNat) ⟨Ae _,d!⟩ (λs hI=>?_);have⟨i',z⟩:=s;have⟨D,i2⟩:=hI;dsimp only at D i2;obtain⟨i,rfl⟩:=EM D;unfold S4;dsimp only;rw[Aa (x:=(i:Int)+1),Aa (x:=(i:Int)+x.2)];refine AC (λhc=>?_) (λ_=>As.done (.inl ⟨_,rfl⟩));simp[len]at hc;refine AA (Bb D) λd h3=>AA (Bb D) λZ h4=>?_;have l3:=h3.2;have l4:=h4.2;have l: ∀k,k<n->d[k]? =a.1[i+k]? :=λk c=>by grind[Int.toNat_natCast]
  have F: ∀k,k<n->Z[k]? =a.2.2[i+k]? :=λk c=>by grind[Int.toNat_natCast]
  have w: ∀{k:Nat} {r:AS},d[k]? =some r->k<n:=λ{k r} c=>by have:=C0 c;omega
  have whole: ∀(k:Nat) (r:AS),d[k]? =some r->Z[k]? =some true-> ∃id,a.2.1[i+k]? =some id/\(r,id)∈Dw x.1:=λk r o h2=>by have c:=w o;rw[l k c]at o;rw[F k c]at h2;have ar:=C0 o;have j:a.2.1[i+k]? =some (a.2.1[i+k]' o!):=Au o!;refine⟨_,j,?_⟩;refine hw ((r,a.2.1[i+k]' o!),true) ?_ rfl;refine D7.2 ⟨i+k,?_⟩;rw[rJ,rJ];exact⟨⟨o,j⟩,h2⟩
  have S:d.length=n:=o!
  have I:d[0]? =some (d[0]' o!):=Au o!;have J:d[d.length-1]? =some (d[d.length-1]' o!):=Au o!;generalize d[0]' o!=r0 at I;generalize d[d.length-1]' o!=rn at J;refine AA (AC4 (x:=(d,Z)) hL (λk r q1 q2=>?_) d! d! I J) λv5 h5=>?_;have⟨id,_,q3⟩:=whole k r q1 q2;exact q _ q3;refine AP (λ_=>As.next d! d!) (λT=>?_);have⟨w1,lv,es,B,E,w4⟩:=h5 T;dsimp only at E w4;refine AC (λad=>As.done (.inr ⟨_,rfl,λhh=>absurd hh o!,λhz=>absurd (show(21:Int)=0 from hz) g!⟩)) (λax=>?_);have hi:i+n<=a.1.length:=o!
  have Q:(T8 a i n).length=n:=by unfold T8;rw[List.length_take,List.length_drop,List.length_zip];omega
  have b: ∀(k:Nat) (e:NE),(T8 a i n)[k]? =some e->k<n/\d[k]? =some e.1/\a.2.1[i+k]? =some e.2:=λk e c=>by
   have m:k<n:=q!
   have:=(tP m).1 c;exact⟨m,by rw[l k m];exact this.1,this.2⟩
  have C: ∀e∈T8 a i n,e∈Dw x.1:=λe t=>by have⟨k,c⟩:=D7.1 t;have⟨k1,v,Y⟩:=b k e c;have⟨q1,_⟩:=E k o!;have⟨id,q2,q3⟩:=whole k e.1 v q1;rw[Y]at q2;injection q2 with q2;rw[<-q2]at q3;exact q3
  have N:Grp (T8 a i n) r0.2.2.1 r0.2.2.2.1:=by refine⟨λk e c=>?_,λk e f c hf=>?_⟩;have⟨k1,v,Y⟩:=b k e c;have⟨_,r,q1,q2,q3,_⟩:=E k o!;dsimp only at q1;rw[v]at q1;cases q1;exact⟨q2,q3,(q e (C e (BP c))).1.1.2.1⟩;have⟨k1,v,Y⟩:=b k e c;have⟨f1,f2,f3⟩:=b (k+1) f hf;have⟨_,r,q1,_,_,q2⟩:=E (k+1) o!;dsimp only at q1 q2;rw[f2]at q1;cases q1;exact q2 o! e.1 (by rw[jV];exact v)
  have G:(T8 a i n)[0]? =some ((T8 a i n)[0]' o!):=Au o!;have H:(T8 a i n)[(T8 a i n).length-1]? =some ((T8 a i n)[(T8 a i n).length-1]' o!):=Au o!;generalize (T8 a i n)[0]' o!=m0 at G;generalize (T8 a i n)[(T8 a i n).length-1]' o!=mn at H;have O:m0.1=r0:=by have:=(b 0 m0 G).2.1;rw[I]at this;exact(BV this).symm
  have R:mn.1=rn:=by have:=(b _ mn H).2.1;rw[Q,<-S,J]at this;exact(BV this).symm
  refine AA (ACM hn o! t1 hi o! p) λa0 K=>?_;subst K;rw[nD w1,AD];dsimp only;have ao:=vL h C N o!;refine AA (Ac w!) λa1 M=>?_;rw[Aa (x:=x.1.2.2.2.2+1),M.1];have W:=ABL (s:=Mk v5.1) h C N o! o!;have key:=qp (r:=v5.1) hL h C N o! G H w1 (by rw[B,O]) (by rw[B,R]) (by rw[B]) (by rw[B]) (λy=>by rw[B];dsimp only;rw[w4];constructor;rintro⟨k,r,q1,q2⟩;have c:=w q1;have A:=q1;rw[l k c]at A;have j:a.2.1[i+k]? =some (a.2.1[i+k]' o!):=Au o!;exact⟨(r,_),BP ((tP (e:=(r,a.2.1[i+k]' o!)) c).2 ⟨A,j⟩),q2⟩;rintro⟨e,t,q2⟩;have⟨k,c⟩:=D7.1 t;exact⟨k,e.1,(b k e c).2.1,q2⟩) rfl W;refine As.done (.inr ⟨_,rfl,λ_=>rfl,λ_=>.inr ⟨rfl,key.1,key.2.1,key.2.2.1,key.2.2.2,rfl,rfl,rfl,rfl,?_,o!⟩⟩);dsimp only;rw[Ag,Bo,Ba];omega
 rcases hr with⟨z,rfl⟩|⟨u,rfl,hu⟩;exact A4 (AB ⟨λ_=>rfl,λ_=>.inl ⟨rfl,rfl⟩⟩);exact BK (AB hu)
def eD.refl(a:AJ):eD a a:=λ_ _=>Iff.rfl
def eD.trans{a b c:AJ}(h:eD a b)(g:eD b c):eD a c:=λd n=>(h d n).trans (g d n)
def AEb{L:List EN}{x:AJ×Int}{m:Int}(q:Uq L)(h:AR L x.1)(u:2<=x.2/\x.2<=8)(v:SF x.1 m)(w:m<=1073741824):As (JI x) λr=>r.2=0/\AR L r.1/\eD x.1 r.1/\(AG x.1->AG r.1)/\(∀c,RC x.1 c->RC r.1 c)/\SF r.1 m/\r.1.1=x.1.1/\r.1.2.1=x.1.2.1/\r.1.2.2.2.1=x.1.2.2.2.1:=by
 unfold JI;refine AA (P:=λr=>r.1=0/\AR L r.2/\eD x.1 r.2/\(AG x.1->AG r.2)/\(∀c,RC x.1 c->RC r.2 c)/\SF r.2 m/\r.2.1=x.1.1/\r.2.2.1=x.1.2.1/\r.2.2.2.2.1=x.1.2.2.2.1) ?_ λr hr=>AB hr;refine Cv (λ(s:AJ×AJ)=>AR L s.1/\eD x.1 s.1/\(AG x.1->AG s.1)/\(∀c,RC x.1 c->RC s.1 c)/\SF s.1 m/\s.1.1=x.1.1/\s.1.2.1=x.1.2.1/\s.1.2.2.2.1=x.1.2.2.2.1) (λs=>s.1.2.2.1.length) ⟨h,eD.refl _,id,λ_=>id,v,rfl,rfl,rfl⟩ (λs p=>?_);obtain⟨e,f,l,n,g,i,j,k⟩:=p;unfold S5;refine AA (AES (x:=(s.1,x.2)) q e u) λC o=>?_;obtain⟨y,z⟩:=o;have b:s.1.2.2.2.2<=1073741824:=by unfold SF at g;omega
 have d:=y b;refine AM (λt=>absurd d t) (λ_=>?_);rcases z d with⟨q1,q2⟩|⟨q1,q2,q3,A,B,q4,q5,q6,q7,q8,q9⟩
 ·rw[q1,Bool.not_false,cond_true];exact As.done ⟨rfl,e,f,l,n,g,i,j,k⟩
 ·rw[q1,Cm,cond_false];dsimp only at q3 q4 q5 q6 q7 q8;exact As.next ⟨q2,f.trans q3,λa=>A (l a),λc a=>B c (n c a),by unfold SF at*;dsimp only;omega,q4.trans i,q5.trans j,q6.trans k⟩ d!
def xV{b:UInt8}{n:Int}(a:0<=n)(e:n<255):Ei ([IntKind.wrap .u8 (((BitVec.toNat ((BitVec.ofInt 8 (b.toNat:Int))^^^(BitVec.ofInt 8 (IntKind.wrap .u8 (wi (1+n)))))):Nat):Int)]:List Int)=[UInt8.ofNat (BitVec.ofNat 8 b.toNat^^^BitVec.ofNat 8 (1+n).toNat).toNat]/\b≠UInt8.ofNat (BitVec.ofNat 8 b.toNat^^^BitVec.ofNat 8 (1+n).toNat).toNat:=by obtain⟨m,rfl⟩:=EM a;rw[(by grind[Aa]:wi (1+(m:Int))=((1+m:Nat):Int)),(by rw[AFU];omega:IntKind.wrap .u8 ((1+m:Nat):Int)=((1+m:Nat):Int)),(by omega:(1+(m:Int)).toNat=1+m),Zp,Zp];refine⟨?_,λd=>?_⟩;rw[(by rw[AFU];omega:IntKind.wrap .u8 (((BitVec.ofNat 8 b.toNat^^^BitVec.ofNat 8 (1+m)).toNat:Nat):Int)=(((BitVec.ofNat 8 b.toNat^^^BitVec.ofNat 8 (1+m)).toNat:Nat):Int))];rfl;have c:=congrArg UInt8.toNat d;rw[bp,R9 o!]at c;have f:=congrArg (BitVec.ofNat 8 b.toNat^^^ ·) (by grind:BitVec.ofNat 8 b.toNat=BitVec.ofNat 8 b.toNat^^^BitVec.ofNat 8 (1+m));grind[BitVec.xor_assoc,BitVec.xor_self,BitVec.zero_xor]
def AAP{b:AK}{s:BY}(h:CX b)(A:s.length≠0)(B:s.length<=1099511627775):As (Fx b s) λr=>CX r.2/\ADs s r.1/\r.1.length<=s.length+1:=by
 unfold Fx;simp only[len];refine AQ (λv=>absurd v o!) (λ_=>AA (AY h o!) λE m=>?_);have⟨l,k0,k1⟩:=m;have⟨k,t⟩:=EM k0;refine AA (AY l g!) λF e=>?_;rw[t,Aa];have u:k<s.length:=o!
 have a:s=s.take k++s[k]::s.drop (k+1):=t!
 have i:RF s 0 (k:Int)=some (s.take k):=by grind[RF]
 have j:RF s ((k:Int)+1) (s.length:Int)=some (s.drop (k+1)):=by unfold RF;grind[List.take_of_length_le]
 have C:(s.take k).length=k:=q!
 have D:(s.drop (k+1)).length=s.length-(k+1):=FJ;refine AQ (λ_=>?_) (λ_=>?_);rw[i,AD,j,AD];refine AA (CA o!) λG o=>AB ⟨e.1,.less _ _ _ a o.1,q!⟩;refine AQ (λ_=>?_) (λ_=>?_);refine AA (AY e.1 g!) λz p=>AA (CA (by rw[L9];simp;omega)) λH q=>AB ⟨p.1,?_,?_⟩;exact .more s [] (UInt8.ofNat (IntKind.wrap .u8 z.1).toNat) (Db s).symm (by rw[q.1];rfl);grind[L9,List.length_cons,List.length_nil];rw[i,AD];have f:six s (k:Int)=some ((s[k].toNat:Nat):Int):=by grind[six,Int.toNat_natCast,List.getElem?_eq_getElem]
 rw[f,AD,j,AD];refine AA (AY e.1 g!) λw c=>?_;have⟨q1,q2⟩:=xV (b:=s[k]) c.2.1 o!;rw[q1];refine AA (CA w!) λx d=>?_;have g:=d.2;simp[Bo,Ba]at g;refine AA (CA o!) λy n=>AB ⟨c.1,.other _ _ _ _ q2 a ?_,q!⟩;grind[List.append_assoc]
theorem wD{a:AJ}{b:AK}(y:AG a)(h:CX b)(I:a.2.2.1.length<=1000000):As (Fo b a.2.2.1) λr=>CX r.2/\ ∀f∈r.1,f∈a.2.2.1\/Bad f:=by
 unfold Fo;generalize B:a.2.2.1=x at*;refine AQ (λ_=>AB ⟨h,λf v=>by simp at v⟩) (λg=>?_);simp only[len]at g;refine AA (AY h (by grind)) λC p=>?_;have⟨n,c,o⟩:=p;simp[len]at o;rw[Aa (x:=C.1+1) (by omega)];refine AA (AY n (by decide)) λJ q=>AQ (λ_=>?_) (λ_=>?_);refine AA (Bb (Ae _) c (by omega)) λK F=>AA (Bb (by omega) (by grind) (by grind)) λL G=>?_;grind[AA,Ac,List.length_nil,AB];refine AA (Ac (by simp;omega)) λM u=>?_;have j:=u.1;rw[By]at j;subst j;refine AA (AI c (by omega)) λN _=>AA (AI c (by omega)) λm H=>?_;have⟨r,hr⟩:=y m (by grind);have A:=hr.size;have i:m.2.2.length≠0:=by rw[hr.2.1];grind[Mk,List.length_append,Ef]
 refine AA (AAP q.1 i (by omega)) λO k=>AA (AI c (by omega)) λD _=>AA (AI c (by omega)) λE t=>AB ⟨k.1,λf e=>?_⟩;rcases Px e with w|w;grind;refine .inr ?_;rw[w];refine⟨by grind,λs z l=>?_⟩;dsimp only at l;have d:=k.2.1;rw[l,hr.2.1]at d;exact ABQ hr.2.2.1.wr z d
def yl{L:List EN}{a:AJ}{b:AK}{m:Int}(h:AR L a)(p:AG a)(k:CX b)(J:SF a m):As (Fo b a.2.2.1) λr=>CX r.2/\AR L (a.1,(a.2.1,(r.1,a.2.2.2)))/\(∀c,RC a c->RC (a.1,(a.2.1,(r.1,a.2.2.2))) c)/\SF (a.1,(a.2.1,(r.1,a.2.2.2))) m:=by
 obtain⟨B,C,D,E,F,K,G⟩:=id h.vb;refine((ym G k o! h.sa.2.2).and (wD p k o!)).mono λr hr=>?_;obtain⟨⟨H,M,I,N⟩,_,u⟩:=hr;have i:VB (a.1,(a.2.1,(r.1,a.2.2.2))):=⟨B,C,D,E,F,d!,I⟩
 have g: ∀e∈Dw (a.1,(a.2.1,(r.1,a.2.2.2))),e∈Dw a:=λe o=>by unfold Dw at o;obtain⟨f,d,j⟩:=OS.1 o;rcases u f d with d|d;obtain⟨s,q⟩:=p f d;have n:Good (a.1,(a.2.1,(r.1,a.2.2.2))) f s:=q.congr rfl rfl;rw[n.intR i.1]at j;injection j with j;subst j;exact PP h.vb.1 d q;rw[d.intR i.1]at j;cases j
 refine⟨H,⟨i,λf d=>?_,λx l y v=>h.dis x (g x l) y (g y v)⟩,λc k t=>?_,by unfold SF at*;dsimp only;omega⟩;rotate_left;exact DH (dy _ ((Dw a).filter λe=>e.1.2.2.1==t) ((TD i).filter _) λx l=>BM.2 ⟨g x (BM.1 l).1,(BM.1 l).2⟩) (k t);rcases u f d with d|d;exact(h.files f d).imp id λ⟨s,w,z,A⟩=>⟨s,w.congr rfl rfl,z,A⟩
 exact .inl d
def AEO{L:List EN}{x:Int×List Int}(h:BD x.1 x.2):As (J7 x) λr=>AR L r.1/\AG r.1/\RC r.1 0/\SF r.1 1/\r.1.2.1=x.1/\r.1.2.2.2.1=1:=by
 have a:As (J7 x) λr=>r.2=0->r.1.2.2.1=[]/\r.1.2.2.2.2=1:=by refine AA jc λo b=>AP (λj=>AB λm=>?_) (λ_=>?_);grind;have l:=h.2.2.2.1;grind[AA,Ac,AB]
 refine((AEP h).and a).mono λr hr=>?_;have⟨⟨b,c,d,g⟩,i⟩:=hr;refine⟨⟨c,λf a=>?_,λe k=>?_⟩,λf a=>?_,λn=>?_,?_,d,g⟩;grind;grind[Dw];grind;grind[Dw];unfold SF;grind
def AX(L:List EN)(n d m:Int)(a:AJ):Prop:=AR L a/\AG a/\(∃c:Nat,RC a c/\100*(c:Int)<=m+99)/\SF a m/\a.2.1=n/\a.2.2.2.1<=d+1/\(Il L->AF a)
def AX.step{n m:Int}{a:AJ}{l:Af}{c:Int}(p:Dg l)(h:AX l.2.1 n l.2.2 m a):As (EW (a,(l,c))) λr=>r.2=0->AX l.2.1 n l.2.2 (m+100) r.1:=by have⟨d,e,⟨k,j,o⟩,f,g,t,i⟩:=h;refine(ACP (x:=(a,(l,c))) d p f).mono λr hr q=>?_;have⟨q1,q2,s,q3,q4,q5,q6⟩:=hr q;exact⟨q1,q2 e,⟨k+1,s k j,o!⟩,by unfold SF at*;omega,q4.trans g,q!,λb=>q6 b (i b)⟩
def AX.mono{L:List EN}{n d m k:Int}{a:AJ}(h:AX L n d m a)(o:m<=k):AX L n d k a:=by have⟨b,e,⟨c,i,j⟩,l,f,g⟩:=h;exact⟨b,e,⟨c,i,o!⟩,by unfold SF at*;omega,f,g⟩
def AX.tidy{L:List EN}{n d m:Int}{a:AJ}{c:Int}(p:Uq L)(h:AX L n d m a)(u:m<=1073741824)(s:2<=c/\c<=8):As (JI (a,c)) λr=>AX L n d m r.1:=by have⟨g,i,⟨k,t,b⟩,j,l,z,o⟩:=h;refine(AEb (x:=(a,c)) p g s j u).mono λr hr=>?_;have⟨q0,q1,q2,q3,y,q4,q5,q6,q7⟩:=hr;exact⟨q1,q3 i,⟨k,y k t,b⟩,q4,q6.trans l,q!,λq f e n v w=>(q2 f n).1 (o q f (q5▸e) n v (q7▸w))⟩
def oQ{b:AK}{x:Int×Af}(h:CX b)(C:1<=x.1/\x.1<=64)(e:Dg x.2):As (KE b x) λr=>CX r.2/\AX x.2.2.1 x.1 x.2.2.2 901 r.1:=by
 have T:=e.1;have U:=e.2.2.2.1;refine AA (yi h C) λv0 m=>AA (AEO (L:=x.2.2.1) m.2) λI v=>?_;have⟨D,E,H,F,G,s5⟩:=v;have A:AX x.2.2.1 x.1 x.2.2.2 1 I.1:=⟨D,E,⟨0,H,g!⟩,F,G,o!,λ_ lo _ n n1 n2=>o!⟩
 refine AA (AY m.1 g!) λv2 w=>?_;have⟨t,u,S⟩:=w;refine AA (P:=λr=>CX r.1/\AX x.2.2.1 x.1 x.2.2.2 801 r.2) ?_ λK c=>AA (AY c.1 g!) λM f=>AA (P:=λa=>AX x.2.2.1 x.1 x.2.2.2 901 a) (AL (λ_=>AA (c.2.step e) λN g=>AA (P:=λa=>AX x.2.2.1 x.1 x.2.2.2 901 a) (AQ (λk=>AB ((g k).mono g!)) (λ_=>AB (c.2.mono g!))) λO i=>AB i) (λ_=>AB (c.2.mono g!))) λQ j=>AB ⟨f.1,j⟩;refine Cv (λ(s:Int×AK×AJ)=>0<=s.1/\s.1<=8/\CX s.2.1/\AX x.2.2.1 x.1 x.2.2.2 (801-100*s.1) s.2.2) (λ(s:Int×AK×AJ)=>s.1.toNat) ⟨u,q!,t,A.mono q!⟩ (λs B=>?_);have⟨Y,Z,q,l⟩:=B;unfold Qq;rw[(Aa (x:=s.1-1))];refine AC (λX=>AA (AY q g!) λv4 y=>AA (l.step e) λv5 z=>AA (P:=λa=>AX x.2.2.1 x.1 x.2.2.2 (801-100*(s.1-1)) a) (AQ (λk=>AB ((z k).mono o!)) (λ_=>AB (l.mono o!))) λv6 o=>AA (AY y.1 g!) λv7 p=>?_) (λ_=>As.done ⟨q,l.mono o!⟩);refine AA (P:=λr=>CX r.1/\AX x.2.2.1 x.1 x.2.2.2 (801-100*(s.1-1)) r.2) ?_ λJ d=>As.next ⟨q!,q!,d.1,d.2⟩ q!
 refine AL (λ_=>AA (AY p.1 g!) λR V=>?_) (λ_=>AB ⟨p.1,o⟩);rw[Aa (x:=2+R.1)];refine AA (o.tidy e.uq o! o!) λv9 W=>?_;grind[AA,AQ,AB]
set_option maxHeartbeats 1000000
def AAO{n p:Int}{l:List Int}(h:BD n l):As (JL (l,p)) λr=>0<=r.1/\r.1<=l.length/\(∀(i:Nat) (v:Int),(i:Int)<r.1->l[i]? =some v->v<p)/\(∀(i:Nat) (v:Int),r.1<=(i:Int)->l[i]? =some v->p<=v)/\(r.2=true->l[r.1.toNat]? =some p)/\(r.2=false-> ∀v,l[r.1.toNat]? =some v->p<v):=by
 have t:=h.2.2.2.1;refine AA (P:=λ(r:Int)=>0<=r/\r<=l.length/\(∀(i:Nat) (v:Int),(i:Int)<r->l[i]? =some v->v<p)/\ ∀(i:Nat) (v:Int),r<=(i:Int)->l[i]? =some v->p<=v) ?_ λJ u=>?_
 ·refine Cv (λ(s:Int×Int)=>0<=s.1/\s.1<=s.2/\s.2<=l.length/\(∀(i:Nat) (v:Int),(i:Int)<s.1->l[i]? =some v->v<p)/\ ∀(i:Nat) (v:Int),s.2<=(i:Int)->l[i]? =some v->p<=v) (λ(s:Int×Int)=>(s.2-s.1).toNat) ⟨Ae _,q!,q!,λi v e=>q!,λi v e b=>q!⟩ (λs y=>?_);have⟨o,G,C,D,E⟩:=y;unfold MX;rw[ABM o];refine AC (λa=>?_) (λa=>As.done ?_)
  ·refine AA (AI o! q!) λF g=>AA mW λH k=>?_;rw[(Aa (x:=(s.1+s.2)/2+1))];refine AA (P:=λ(q:Int×Int)=>(0<=q.1/\q.1<=q.2/\q.2<=(l.length:Int)/\(∀(i:Nat) (v:Int),(i:Int)<q.1->l[i]? =some v->v<p)/\ ∀(i:Nat) (v:Int),q.2<=(i:Int)->l[i]? =some v->p<=v)/\(q.2-q.1).toNat<(s.2-s.1).toNat) ?_ λI m=>As.next m.1 m.2
   refine AL (λB=>AB ⟨⟨q!,q!,C,λi v e b=>?_,E⟩,q!⟩) (λz=>AB ⟨⟨o,o!,o!,D,λi v e b=>?_⟩,o!⟩);have f:=k.1 B;have:=h.le (i:=i) (j:=((s.1+s.2)/2).toNat) o! b g.1;omega;have f: ¬F<p:=λq=>by have:=k.2 q;rw[z]at this;cases this
   have:=h.le (i:=((s.1+s.2)/2).toNat) (j:=i) o! g.1 b;omega
  grind
 have⟨a1,a2,a3,a4⟩:=u;refine AC (λa=>?_) (λa=>AB ⟨a1,a2,a3,a4,λc=>(by cases c),λ_ v b=>?_⟩);simp[len]at a;refine AA (AI a1 a) λK w=>AQ (λd=>AB ⟨a1,a2,a3,a4,λ_=>by dsimp only;rw[w.1,d],λc=>(by cases c)⟩) (λA=>AA (AI a1 a) λL _=>AL (λc=>?_) (λ_=>AB ⟨a1,a2,a3,a4,λc=>(by cases c),λ_ v b=>?_⟩));grind;grind;grind
def VX(a:AJ)(p lo hi:Int):Prop:= ∃i:Nat,a.1[i]? =some lo/\hi=mb a i/\lo<=p/\p<=hi
def AAK{a:AJ}{p:Int}(h:VB a)(z:0<=p/\p<a.2.1): ∃b d,G6 (a,p)=some (b,(d,true))/\VX a p b d:=by
 have key:As (G6 (a,p)) λr=>r.2.2=true/\VX a p r.1 r.2.1:=by
  unfold G6;dsimp only;refine AA (Kp h) λG m=>?_;rw[m,Cm,cond_false,decide_eq_false o!,cond_false,decide_eq_false o!,cond_false];refine AA (AAO h.1) λc n=>?_;have⟨D,E,v,F,k,x⟩:=n;have q:=h.1.2.2.2.1;refine AA (P:=λl:Int=> ∃(i:Nat) (b:Int),l=i/\a.1[i]? =some b/\b<=p/\ ∀w,a.1[i+1]? =some w->p<w) ?_ λl s=>?_;refine AP (λt=>AB ?_) (λf=>AB ?_);have e:0<c.1:=by refine QU λy=>?_;have:=x t 0 (by rw[show c.1.toNat=0 by omega];exact h.1.2.2.2.2.1);omega
  rw[Aa];refine⟨c.1.toNat-1,a.1[c.1.toNat-1],o!,Au o!,?_,λw g=>?_⟩;have:=v (c.1.toNat-1) _ o! (Au o!);omega;grind;refine⟨c.1.toNat,p,o!,(k f),Ae _,λw g=>?_⟩;exact h.1.lt 0 c.1.toNat p w (k f) g;obtain⟨i,b,rfl,j,u,A⟩:=s;rw[ua h.1 j,AD];refine AB ⟨rfl,i,j,rfl,u,?_⟩;grind[mb]
 have⟨⟨b,d,o⟩,k1,B,C⟩:=key;grind
def VX.uniq{a b:AJ}{p l1 l2 f g:Int}(h:BD a.2.1 a.1)(d:b.1=a.1)(e:b.2.1=a.2.1)(m:VX a p l1 f)(n:VX b p l2 g):l1=l2:=by
 obtain⟨i,s,t,u,v⟩:=m;obtain⟨j,w,z,A,B⟩:=n;have o:mb b j=mb a j:=by unfold mb;rw[d,e]
 have key: ∀{i j:Nat} {x y:Int},a.1[i]? =some x->a.1[j]? =some y->i<j->mb a i<y:=λ{i j x y} q c k=>by have r:=C0 c;have l:a.1[i+1]? =some (a.1[i+1]' o!):=Au o!;have:=h.le (by omega:i+1<=j) l c;unfold mb;grind
 grind
def AEK(P:Int->Prop)(j fl:Int):Prop:=0<=fl/\fl<=j/\(∀n,fl<n->n<=j->P n)/\(fl=0\/ ¬P fl)
structure Qk(L:List EN)(l:Af):Prop where
 vl:Dg l
 sorted:L.Pairwise λx y=>x.1<y.1
 tail: ∀e,e∈l.2.1↔e∈L/\l.1<=e.1/\e.1<=l.1+l.2.1.length-1
 len:L.length<=4096
def AEJ{B:Nat}{L:List EN}{a:AJ}{l:Af}{p i j:Int}(q:CP B)(D:B≤16777216)(v:j-i≤B)(t:0≤i)(F:i≤j)(E:j≤1099511627776)(h:AR L a)(w:Qk L l)(y:0≤p∧p<a.2.1):
  ∃o t d,VX a p o t/\AEK (fm a l o) j d/\Pg (a,(l,(p,(i,j))))=some (decide (d<=i))/\As (Ep (a,(l,(p,(i,j))))) λr=>(d>i/\r=([],42))\/(d<=i/\((Wb i (L.filter (JM p i j))/\r=(L.filter (JM p i j),0))\/(¬Wb i (L.filter (JM p i j))/\r=([],13)))):=by
 obtain⟨o,u,x,n⟩:=AAK h.vb y;obtain⟨k,k1,G,H,I⟩:=id n;obtain⟨d,z,C,A⟩:=AEI q D v t F E h.vb h.ds w.vl y x rfl w.sorted w.tail (λe s=>by
  obtain⟨f,_,_,_,g,_⟩:=h.mem s;exact g) h.dis (λe s m=>by
  obtain⟨f,_,g,_⟩:=h.mem s;have c:e.1.2.2.1=o:=m;have b:=g.2.2.2;rw[c]at b;have:=b.uniq h.vb.1 ⟨k,k1,G⟩;exact⟨H,o!⟩)
 exact⟨o,u,d,n,z,C,A⟩
def Dg.sorted{l:Af}(h:Dg l):l.2.1.Pairwise λx y=>x.1<y.1:=by have⟨l1,l2,a,b,c,d⟩:=h;rw[HF];grind
theorem VZ{l:Af}(h:Dg l):Qk l.2.1 l:=⟨h,h.sorted,λe=>⟨λa=>⟨a,by have⟨k,b⟩:=D7.1 a;have:=(h.2.2.2.2.2 k e b).1;have:=C0 b;omega⟩,λa=>a.1⟩,h.2.2.1⟩
theorem AFb{l:Af}{f:Int}(h:Dg l)(n:l.2.2=l.1+l.2.1.length-1)(i:l.1<=f)(j:f<=l.2.2+1)(m:f<=1099511627776):As (J4 (l,f)) λr=>Qk l.2.1 r.1/\r.1.1=f/\r.1.2.2=l.2.2:=by
 have o:As (J4 (l,f)) λr=>r.2=0->r.1=(f,(l.2.1.drop (f-l.1).toNat,l.2.2)):=by have⟨a1,a2,a3,a4,a5,a6⟩:=id h;refine AA BS λv t=>AP (λ_=>AB λa=>absurd (show(26:Int)=0 from a) g!) (λ_=>?_);refine AC (λ_=>AB λa=>absurd (show(1:Int)=0 from a) g!) (λ_=>?_);refine AC (λ_=>AB λa=>absurd (show(1:Int)=0 from a) g!) (λ_=>?_);refine AC (λ_=>AB λa=>absurd (show(1:Int)=0 from a) g!) (λ_=>?_);refine AC (λ_=>AB λa=>absurd (show(15:Int)=0 from a) g!) (λ_=>?_);grind[Aa,AA,Bb,Ac,AB,List.take_of_length_le]
 refine((fC (x:=(l,f)) h n i j m).and o).mono λr hr=>?_;have⟨⟨c,q,s⟩,d⟩:=hr;refine⟨⟨q,h.sorted,λe=>?_,h.2.2.1⟩,s,by rw[(d c)]⟩;rw[(d c)];have⟨l1,l2,u,w,y,p⟩:=h;rw[D7,D7];constructor;grind;rintro⟨⟨k,b⟩,g,_⟩;have:=(p _ e b).1;exact⟨k-(f-l.1).toNat,by rw[JP,show(f-l.1).toNat+(k-(f-l.1).toNat)=k by omega];exact b⟩
def ss{p i j:Int}{e:EN}:JM p i j e=(af p e&&(decide (e.1>i)&&decide (e.1<=j))):=by unfold JM af be;grind
def Wb.snoc{i:Int}{s:List EN}{e:EN}(h:Wb i s)(m:s=[]->e.2.2.2.2.1<=i)(n: ∀f,s[s.length-1]? =some f->e.2.2.2.2.1=f.1):Wb i (s++[e]):=by
 intro k g b;rcases Aw k s.length with d|d;rw[CO d]at b;refine⟨(h k g b).1,λf a c=>(h k g b).2 f a ?_⟩;grind;have o:=C0 b;rw[Ag,od]at o;have l:k=s.length:=o!
 subst l;have j:e=g:=q!
 subst j;refine⟨λp=>m (EP p),λf a c=>n f ?_⟩;rwa [CO o!]at c
def rN{n p i j:Int}{L:List EN}(F:LI n L)(G:L.Pairwise λx y=>x.1<y.1)(H:0≤i): ∀m:Nat,m≤L.length→
  Wb i ((L.take m).filter (JM p i j))/\((∀f∈L.take m,f.1<=j)->((L.take m).filter (JM p i j)=[]->B0 (L.take m) p<=i)/\ ∀f,((L.take m).filter (JM p i j))[((L.take m).filter (JM p i j)).length-1]? =some f->B0 (L.take m) p=f.1)
 |0,_=>by rw[List.take_zero];exact⟨λk e E=>by simp at E,λ_=>⟨λ_=>H,λf a=>by simp at a⟩⟩
 |m+1,hm=>by
  obtain⟨C,D⟩:=rN (j:=j) F G H m o!;have d:m<L.length:=o!
  have B:L.take (m+1)=L.take m++[L[m]]:=by rw[Ct,Au d];rfl
  have l: ∀f∈L.take m,f.1<L[m].1:=λf a=>by obtain⟨k,w⟩:=Dm a;have z:=C0 w;rw[BR]at z;rw[JQ o!,Au o!]at w;rw[<-BV w];exact HF.1 G k m o! d o!
  have A:=F m _ (Au d);rw[B,Ip];generalize I:L.take m=M at*;generalize L[m]=e at*;by_cases t:JM p i j e=true;have g:=t;rw[ss]at g;simp only[BU,decide_eq_true_eq]at g;obtain⟨s,K,N⟩:=g;have q:e.2.2.2.2.2.2.1.1=p/\(e.2.1=1\/e.2.1=2):=by unfold af at s;simp only[BU,WT,beq_iff_eq]at s;exact⟨s.2,s.1⟩
  obtain⟨q1,q2⟩:=D λf a=>by have:=l f a;omega
  have b:=A.1 q.2;rw[q.1]at b;rw[rI t,gu];refine⟨C.snoc (λh=>by rw[b.1];exact q1 h) (λf a=>by rw[b.1];exact q2 f a),λ_=>⟨λh=>by simp at h,λf a=>?_⟩⟩;rw[O2,if_pos s];have:e=f:=by simpa using a
  rw[this];rw[rH t,gu,Db];refine⟨C,λc=>?_⟩;have E:=c e k!;obtain⟨q1,q2⟩:=D λf a=>c f (Gc _ a);rw[O2];by_cases u:af p e=true;have v:e.1<=i:=by refine QU λJ=>t ?_;rw[ss,u];simp;omega
  have o:M.filter (JM p i j)=[]:=List.filter_eq_nil_iff.2 λf a r=>by rw[ss]at r;simp only[BU,decide_eq_true_eq]at r;have:=l f a;omega
  rw[if_pos u,o];exact⟨λ_=>v,λf a=>by simp at a⟩;rw[if_neg u];exact⟨q1,q2⟩
def rM{n p i j:Int}{L:List EN}(a:LI n L)(b:L.Pairwise λx y=>x.1<y.1)(c:0<=i):Wb i (L.filter (JM p i j)):=by have:=(rN (p:=p) (j:=j) a b c L.length (Aq _)).1;grind
def AAC{B:Nat}{n:Int}{L:List EN}{a:AJ}{l:Af}{p i j:Int}(e:CP B)(s:B≤16777216)(u:LI n L)(f:j-i≤B)(c:0≤i)(v:i≤j)(t:j≤1099511627776)(h:AR L a)(g:Qk L l)(w:0≤p∧p<a.2.1):
  ∃d c b,VX a p d c/\AEK (fm a l d) j b/\Pg (a,(l,(p,(i,j))))=some (decide (b<=i))/\((b>i/\Ep (a,(l,(p,(i,j))))=some ([],42))\/(b<=i/\Ep (a,(l,(p,(i,j))))=some (L.filter (JM p i j),0))):=by
 obtain⟨d,q,b,x,m,o,r,k,y⟩:=AEJ e s f c v t h g w;refine⟨d,q,b,x,m,o,?_⟩;rcases y with⟨q1,q2⟩|⟨q1,⟨q2,q3⟩|⟨q2,q3⟩⟩;exact .inl ⟨q1,by rw[k,q2]⟩;exact .inr ⟨q1,by rw[k,q3]⟩;exact absurd (rM u g.sorted c) q2
def hl4{L:List EN}{l:Af}{p i j:Int}(h:Qk L l):(L.filter (JM p i j)).length<=4096:=DH (Fe _ _) h.len
def Src(L:List EN)(p:Int)(rs:List AS):Prop:=rs.length<=256/\ ∀r∈rs,VR r/\Zl L r/\r.2.2.1<=p/\p<=r.2.2.2.1
def ADX{a:AJ}{l:Af}{p i j:Int}:As (Gv (a,(l,(p,(i,j))))) λr=>r=0->0<=p/\p<a.2.1/\0<=i/\i<=j:=by refine AA Jk λk g=>AP (λ_=>AB n!) (λ_=>AA BS λm h=>AP (λ_=>AB n!) (λ_=>AC (λ_=>AB n!) (λc=>AC (λ_=>AB n!) (λd=>AC (λ_=>AB n!) (λe=>AC (λ_=>AB n!) (λf=>AB λ_=>?_))))));dsimp only at c d e f;omega
def AEU{a:AJ}{p:Int}(h:VB a)(o:0<=p/\p<a.2.1):As (QO (a,p)) λr=> ∃k:Nat,a.1[k]? =some r.1/\r.1<=p/\p<=mb a k:=by
 have i:=h.1.2.2.2.1;have w:=h.1.2.2.1;refine AA OH λB g=>AP (λc=>absurd (g.2 h) (by simp[c])) (λ_=>?_);dsimp only;rw[decide_eq_false o!,cond_false,decide_eq_false o!,cond_false];refine AA (P:=λk:Int=> ∃m:Nat,k=m/\ ∃b,a.1[m]? =some b/\b<=p/\p<=mb a m) ?_ λk n=>?_
 ·refine Cv (λ(s:Int)=>0<=s/\s<a.1.length/\ ∃b,a.1[s.toNat]? =some b/\b<=p) (λs=>((a.1.length:Int)-s).toNat) ⟨Ae _,o!,0,h.1.2.2.2.2.1,o.1⟩ (λs j=>?_);have⟨x,y,b,e,f⟩:=j;unfold S2;dsimp[len];rw[Aa];refine AC (λc=>AA (AI o! c) λv q=>?_) (λc=>As.done ⟨s.toNat,o!,b,e,f,?_⟩)
  ·have u:(s+1).toNat=s.toNat+1:=o!
   refine AC (λd=>As.next ⟨o!,o!,v,q.1,d⟩ o!) (λl=>As.done ⟨s.toNat,o!,b,e,f,?_⟩);grind[mb]
  grind[mb,List.getElem?_eq_none]
 obtain⟨m,rfl,b,t,z,A⟩:=n;rw[kD h.1 t,AD];grind[AB]
def ADW{a:AJ}{l:Af}{p i j:Int}(c:VB a)(e:Dg l)(f:0<=p/\p<a.2.1)(d:0<=i)(b:i<=j):Gv (a,(l,(p,(i,j))))=some 0:=by grind[As,Gv,AA,OH,AP,BS,AB]
def vr{L:List EN}{a:AJ}{l:Af}{p:Int}(h:AR L a)(F:0<=p/\p<a.2.1):As (NC (a,(l,p))) λr=> ∃(M:List NE) (v D:Int),VX a p v D/\r=(M.map (·.1),(M.map (·.2),l))/\M.Pairwise Beh/\(∀e,e∈M↔e∈Dw a/\e.1.2.2.1=v)/\Src L p (M.map (·.1)):=by
 refine AA (AEU h.vb F) λc A=>AA (AEY h) λY B=>?_;have⟨k,k1,t,u⟩:=A;dsimp only at k1 t u;obtain⟨W,rfl,K,N,w⟩:=B;have U:(W.map (·.1)).length=W.length:=Bs _;refine AA (P:=λr=>r=((W.filter λe=>e.1.2.2.1==c.1).map (·.1),((W.filter λe=>e.1.2.2.1==c.1).map (·.2),l))) ?_ λr hr=>AB ⟨W.filter λe=>e.1.2.2.1==c.1,c.1,mb a k,⟨k,k1,rfl,t,u⟩,hr,?_,?_,?_⟩
 ·refine Cv (λ(s:Int×List AS×List Int×Af)=> ∃k:Nat,s.1=k/\k<=W.length/\s.2=(((W.take k).filter λe=>e.1.2.2.1==c.1).map (·.1),(((W.take k).filter λe=>e.1.2.2.1==c.1).map (·.2),l))) (λs=>((W.length:Int)-s.1).toNat) ⟨0,rfl,Bi _,rfl⟩ ?_;rintro⟨_,_⟩ ⟨k,rfl,T,rfl⟩;unfold Pn;dsimp[len];rw[Aa (x:=(k:Int)+1)];refine AC (λC=>?_) (λC=>As.done (by rw[BQ o!]));have d:k<W.length:=o!
  have j:ix (W.map (·.1)) (k:Int)=some W[k].1:=by unfold ix;rw[if_pos o!,Int.toNat_natCast,List.getElem?_map,List.getElem?_eq_getElem d];rfl
  have m:ix (W.map (·.2)) (k:Int)=some W[k].2:=by unfold ix;rw[if_pos o!,Int.toNat_natCast,List.getElem?_map,List.getElem?_eq_getElem d];rfl
  have H:W.take (k+1)=W.take k++[W[k]]:=by grind[List.take_add_one,List.getElem?_eq_getElem]
  have V:=Fe (λe:NE=>e.1.2.2.1==c.1) (W.take k);have X:=jP k W;rw[j,AD];refine AA (P:=λr=>r=(((W.take (k+1)).filter λe=>e.1.2.2.1==c.1).map (·.1),(((W.take (k+1)).filter λe=>e.1.2.2.1==c.1).map (·.2),l))) (AQ (λo=>?_) (λE=>AB ?_)) λr hr=>As.next ⟨k+1,rfl,d,hr⟩ d!
  rw[AD,m,AD];refine AA (Ac w!) λZ R=>AA (Ac w!) λv7 S=>AB ?_;grind;grind
 apply (K.filter _).imp_of_mem;intro x y I J n;have O:=eq_of_beq (BM.1 I).2;have Q:=eq_of_beq (BM.1 J).2;rcases n with q|⟨_,q⟩;omega;exact q;intro e;rw[BM,w e,beq_iff_eq];refine⟨by rw[Bs];exact DH (Fe _ _) N,λq G=>?_⟩;obtain⟨e,o,rfl⟩:=Bh.1 G;have⟨q1,q2⟩:=BM.1 o;have⟨f,_,g,_,z,_⟩:=h.mem ((w e).1 q1);have i:=eq_of_beq q2;have b:=g.2.2.2;rw[i]at b;have:=b.uniq h.vb.1 ⟨k,k1,rfl⟩;exact⟨g.2.2.1,z,o!⟩
def UJ(rs:List AS)(l:Af)(m:Int):Prop:=(∃r∈rs,r.1<=m/\m<=r.2.1)\/(l.1<=m/\m<=l.1+l.2.1.length-1)
def tT{l:Af}{m:Int}(h:Dg l):Ic (l,m)=some (decide (l.1<=m/\m<=l.1+l.2.1.length-1)):=by have a:=h.1;have b:=h.2.1;have d:=h.2.2.1;unfold Ic;dsimp[len];rw[Aa];by_cases c:l.1<=m<;>grind
theorem ABP{L:List EN}{p m:Int}{a:List AS}{E:List Int}{l:Af}(h:Src L p a)(w:Dg l)(hm:0<=m/\m<=2199023255552):As (QR ((a,(E,l)),m)) λv=>m-1<=v/\v<=2199023255552/\(∀q,m<=q->q<=v->UJ a l q)/\(v=m-1-> ¬UJ a l m):=by
 have X:=w.1;have Y:=w.2.1;have Z:=w.2.2.1;refine AA (P:=λv=>m-1<=v/\v<=2199023255552/\(∀q,m<=q->q<=v->UJ a l q)/\ ∀r∈a,r.1<=m->m<=r.2.1->m<=v) ?_ λv5 K=>?_
 ·refine Cv (λ(s:Int×Int)=>0<=s.2/\s.2<=a.length/\m-1<=s.1/\s.1<=2199023255552/\(∀q,m<=q->q<=s.1->UJ a l q)/\ ∀r∈a.take s.2.toNat,r.1<=m->m<=r.2.1->m<=s.1) (λs=>((a.length:Int)-s.2).toNat) ⟨Ae _,d!,by dsimp only;rw[Aa];omega,by dsimp only;rw[Aa];omega,λq q1 q2=>by dsimp only at q2;rw[Aa]at q2;omega,λr hr=>by simp at hr⟩ ?_;rintro⟨b,k⟩ ⟨y,R,i,j,n,D⟩;dsimp only at y R i j n D;have Q:=h.1;unfold S6;dsimp[len];refine AC (λu=>?_) (λu=>As.done ⟨i,j,n,by rw[BQ o!]at D;exact D⟩);rw[Aa (x:=k+1)];refine AA (AI y u) λo e=>?_;have W:a.take (k+1).toNat=a.take k.toNat++[o]:=by rw[show(k+1).toNat=k.toNat+1 by omega,Ct,e.1];rfl
  have hr:=(h.2 o e.2).1.1;have keep: ∀t,b<=t->(o.1<=m->m<=o.2.1->m<=t)-> ∀r∈a.take (k+1).toNat,r.1<=m->m<=r.2.1->m<=t:=λt hb C r O q1 q2=>by grind[List.mem_singleton]
  refine AC (λN=>?_) (λB=>As.next ⟨d!,d!,i,j,n,keep b (Ae _) λq=>absurd q B⟩ d!);refine AA (AI y u) λF z=>?_;have I:F=o:=by grind[Option.some.inj]
  subst I;refine AA (P:=λv=>m-1<=v/\v<=2199023255552/\(∀q,m<=q->q<=v->UJ a l q)/\b<=v/\(m<=F.2.1->m<=v)) ?_ λV c=>As.next ⟨d!,d!,c.1,c.2.1,c.2.2.1,keep V c.2.2.2.1 λ_=>c.2.2.2.2⟩ d!
  refine AC (λg=>AA (AI y u) λH A=>AB ?_) (λg=>AB ⟨i,j,n,Ae _,λq=>absurd q g⟩);have J:H=F:=by grind[Option.some.inj]
  subst J;have G:=hr.2.2.1;split;exact⟨o!,o!,λq q1 q2=>.inl ⟨H,e.2,o!,q2⟩,o!,id⟩;exact⟨i,j,n,Ae _,λq=>o!⟩
 rw[tT w,AD];dsimp[len];have⟨e,z,A,c⟩:=K;refine AA (P:=λv=>m-1<=v/\v<=2199023255552/\(∀q,m<=q->q<=v->UJ a l q)/\(v=m-1-> ¬UJ a l m)) ?_ λv7 M=>AB M;refine AC (λf=>AB ?_) (λf=>AB ⟨e,z,A,λC d=>?_⟩);rw[Aa (x:=l.1+l.2.1.length),Aa];split;exact⟨o!,o!,λq q1 q2=>.inr o!,λC=>o!⟩;exact⟨e,z,A,λC=>o!⟩;rcases d with⟨r,S,T,U⟩|d;have:=c r S T U;omega;exact f d
def zD{L:List EN}{p i j:Int}{a:List AS}{c:List Int}{l:Af}(h:Src L p a)(n:Dg l)(k:0<=i)(m:j<=1099511627776)(f:i<=j):As (Jl ((a,(c,l)),(i,j))) λb=>b=true↔ ∀q,i<q->q<=j->UJ a l q:=by
 refine AA (P:=λr=>(r= .inl false/\ ∃q,i<q/\q<=j/\ ¬UJ a l q)\/(r= .inr ()/\ ∀q,i<q->q<=j->UJ a l q)) ?_ λr hr=>?_
 ·refine Cv (λ(s:Int)=>i<=s/\s<=2199023255552/\ ∀q,i<q->q<=s->UJ a l q) (λs=>(j-s).toNat) ⟨Ae _,d!,λq q1 q2=>by dsimp only at q2;omega⟩ (λs d=>?_);have⟨o,t,g⟩:=d;unfold K2;dsimp only;refine AC (λe=>?_) (λe=>As.done (.inr ⟨rfl,λq q1 q2=>g q q1 o!⟩));grind[Aa,AA,ABP,AQ,As.done,As.next]
 grind[BK,AB,A4]
def xt{a:AJ}{l:Af}{d:Int}{M:List NE}(h: ∀e,e∈M↔e∈Dw a/\e.1.2.2.1=d)(m:Int):UJ (M.map (·.1)) l m↔fm a l d m:=by constructor;rintro(⟨r,i,j⟩|q);obtain⟨e,g,rfl⟩:=Bh.1 i;have⟨b,c⟩:=(h e).1 g;exact .inr ⟨e,b,c,j⟩;exact .inl q;rintro(q|⟨e,b,c,f⟩);exact .inr q;exact .inl ⟨e.1,R7 ((h e).2 ⟨b,c⟩),f⟩
theorem AEq{P:Int->Prop}{i j a:Int}(h:AEK P j a)(k:0<=i):(∀q,i<q->q<=j->P q)↔a<=i:=by have⟨g,b,c,d⟩:=h;refine⟨λq=>QU λe=>?_,λq n l f=>c n o! f⟩;rcases d with w|w;omega;exact w (q a o! b)
def vk{r:AS}{p:Int}(h:VR r):As (Oy (r,p)) λv=>v=r.2.2.2.2.2.filter λe=>e.2.2.2.2.2.2.1.1==p:=by have m:=h.1.2.2.2.2.2.2.2.2;refine AA WP λn f=>AP (λa=>absurd (f.2 h) (by simp[a])) (λ_=>AA (P:=λv=>v=r.2.2.2.2.2.filter λe=>e.2.2.2.2.2.2.1.1==p) ?_ λv j=>AB j);refine Cv (λ(s:Int×List EN)=>0<=s.1/\s.1<=r.2.2.2.2.2.length/\s.2=(r.2.2.2.2.2.take s.1.toNat).filter λe=>e.2.2.2.2.2.2.1.1==p) (λs=>((r.2.2.2.2.2.length:Int)-s.1).toNat) ⟨Ae _,d!,k!⟩ ?_;rintro⟨s,A⟩ ⟨b,k,d⟩;dsimp only at b k d;unfold Q3;dsimp[len];refine AC (λa=>?_) (λa=>As.done (by rw[d,BQ o!]));refine AA (AI b a) λo g=>?_;have i:=iG (p:=λe:EN=>e.2.2.2.2.2.2.1.1==p) b g.1;have c:=ke (l:=r.2.2.2.2.2) (p:=λe:EN=>e.2.2.2.2.2.2.1.1==p) b;rw[<-d]at c;rw[Aa];grind[AA,As.next,AQ,AI,Ac,AB,Option.some.inj]
def wM{L:List EN}{p i j:Int}{c:List AS}(V:Uq L)(h:Src L p c):As (I9 (c,(p,(i,j)))) λr=>r.length<=1048576/\ ∀y,y∈r↔ ∃q∈c,y∈q.2.2.2.2.2/\y.2.2.2.2.2.2.1.1=p/\i<y.1/\y.1<=j:=by
 have W:=h.1;refine AA (P:=λr=>r.length<=1048576/\ ∀y,y∈r↔ ∃q∈c,y∈q.2.2.2.2.2/\y.2.2.2.2.2.2.1.1=p/\i<y.1/\y.1<=j) ?_ λr hr=>AB hr;refine Cv (λ(s:List EN×Int)=>0<=s.2/\s.2<=c.length/\s.1.length<=4096*s.2/\ ∀y,y∈s.1↔ ∃q∈c.take s.2.toNat,y∈q.2.2.2.2.2/\y.2.2.2.2.2.2.1.1=p/\i<y.1/\y.1<=j) (λs=>((c.length:Int)-s.2).toNat) ⟨Ae _,d!,k!,λy=>k!⟩ ?_;rintro⟨A,k⟩ ⟨M,X,Y,n⟩;dsimp only at M X Y n;unfold KW;dsimp[len];refine AC (λK=>?_) (λK=>As.done ⟨o!,λy=>by rw[n y,BQ o!]⟩);refine AA (AI M K) λu I=>?_;have⟨H,S,g3,g4⟩:=h.2 u I.2;have hl:=H.1.2.2.2.2.2.2.2.2;refine AA (vk H) λa C=>?_;have G:=Fe (λe:EN=>e.2.2.2.2.2.2.1.1==p) u.2.2.2.2.2;rw[<-C]at G;have D: ∀y∈A,y∈L:=λy f=>by have⟨q,q1,q2,_⟩:=(n y).1 f;exact(((h.2 q (Fl q1)).2.1.mem y).1 q2).1
 have g: ∀y∈a,y∈L:=λy f=>by rw[C]at f;exact((S.mem y).1 (BM.1 f).1).1
 refine AA (P:=λr=>r.length<=A.length+a.length/\ ∀y,y∈r↔y∈A\/(y∈a/\i<y.1/\y.1<=j)) ?_ λr hr=>?_
 ·refine Cv (λ(s:List EN×Int)=>0<=s.2/\s.2<=a.length/\s.1.length<=A.length+s.2/\ ∀y,y∈s.1↔y∈A\/(y∈a.take s.2.toNat/\i<y.1/\y.1<=j)) (λs=>((a.length:Int)-s.2).toNat) ⟨Ae _,d!,d!,λy=>k!⟩ ?_;rintro⟨B,m⟩ ⟨o,Z,j2,t⟩;dsimp only at o Z j2 t;unfold KX;dsimp[len];refine AC (λb=>?_) (λb=>As.done ⟨o!,λy=>by rw[t y,BQ o!]⟩);refine AA (AI o b) λv l=>?_;rw[Aa (x:=m+1)];have z:a.take (m+1).toNat=a.take m.toNat++[v]:=by rw[show(m+1).toNat=m.toNat+1 by omega,Ct,l.1];rfl
  have d: ¬(i<v.1/\v.1<=j)-> ∀y,y∈B↔y∈A\/(y∈a.take (m+1).toNat/\i<y.1/\y.1<=j):=λhn y=>by grind[List.mem_singleton]
  refine AC (λE=>?_) (λE=>As.next ⟨d!,d!,d!,d λq=>o!⟩ d!);refine AA (AI o b) λN T=>?_;have Q:N=v:=by have:=T.1;rw[l.1]at this;exact(BV this).symm
  subst Q;refine AA (P:=λr=>r.length<=B.length+1/\ ∀y,y∈r↔y∈A\/(y∈a.take (m+1).toNat/\i<y.1/\y.1<=j)) ?_ λr hr=>As.next ⟨d!,d!,by have:=hr.1;dsimp only;omega,hr.2⟩ d!
  refine AC (λF=>?_) (λF=>AB ⟨o!,d λq=>o!⟩);refine AA (AI o b) λO U=>?_;have R:O=N:=by have:=U.1;rw[l.1]at this;exact(BV this).symm
  subst R;refine AA (kB V (λy f=>?_) (g O l.2) o!) λv7 J=>AB ⟨J.1,λy=>?_⟩;rcases(t y).1 f with q|q;exact D y q;exact g y (Fl q.1);rw[J.2 y,t y,z,Ao,BC];constructor;rintro((q|⟨q1,q2⟩)|q);exact .inl q;exact .inr ⟨.inl q1,q2⟩;exact .inr ⟨.inr q,by rw[q];omega⟩;rintro(q|⟨q1|q1,q2⟩);exact .inl (.inl q);exact .inl (.inr ⟨q1,q2⟩);exact .inr q1
 ·rw[Aa];refine As.next ⟨d!,d!,by have:=hr.1;dsimp only;omega,λy=>?_⟩ d!
  dsimp only;have z:c.take (k+1).toNat=c.take k.toNat++[u]:=by rw[show(k+1).toNat=k.toNat+1 by omega,Ct,I.1];rfl
  rw[hr.2 y,n y,z,C,BM,beq_iff_eq];constructor;rintro(⟨q,q1,q2⟩|⟨⟨q1,q2⟩,q3⟩);exact⟨q,Gc _ q1,q2⟩;exact⟨u,Mg _ (BC.2 rfl),q1,q2,q3⟩;rintro⟨q,q1,q2,q3,q4⟩;rcases Ao.1 q1 with w|w;exact .inl ⟨q,w,q2,q3,q4⟩;rw[BC.1 w]at q2;exact .inr ⟨⟨q2,q3⟩,q4⟩
def vO{l:Af}{p i j:Int}(h:Dg l):As (O0 (l,(p,(i,j)))) λr=>r=l.2.1.filter (JM p i j):=by
 have z:=h.2.2.1;refine AA (P:=λr=>r=l.2.1.filter (JM p i j)) ?_ λr hr=>AB hr;refine Cv (λ(q:Int×List EN)=>0<=q.1/\q.1<=l.2.1.length/\q.2=(l.2.1.take q.1.toNat).filter (JM p i j)) (λq=>((l.2.1.length:Int)-q.1).toNat) ⟨Ae _,d!,k!⟩ (λq v=>?_);have⟨q1,q2,q3⟩:=v;unfold Q6;dsimp[len];refine AC (λo=>?_) (λo=>As.done (by rw[q3,BQ o!]));refine AA (AI q1 o) λs t=>?_;have k:=iG (p:=JM p i j) q1 t.1;have f:=ke (l:=l.2.1) (p:=JM p i j) q1;rw[<-q3]at f;rw[Aa (x:=q.1+1)];have m:JM p i j s=false->As (some (Step.next (q.1+1,q.2)):Option (Step (Int×List EN) (List EN))) (Nb (λ(q:Int×List EN)=>0<=q.1/\q.1<=l.2.1.length/\q.2=(l.2.1.take q.1.toNat).filter (JM p i j)) (λq=>((l.2.1.length:Int)-q.1).toNat) ((l.2.1.length:Int)-q.1).toNat λr=>r=l.2.1.filter (JM p i j)):=λw=>As.next ⟨d!,d!,by dsimp only;rw[k,w,q3];simp⟩ d!
 refine AA Bz λn u=>?_;have e:be s=n:=by grind[be]
 refine AL (λa=>?_) (λa=>m (by unfold JM;rw[e,a];rfl));refine AQ (λc=>?_) (λc=>m (by unfold JM;rw[beq_eq_false_iff_ne.2 c];simp));refine AC (λb=>?_) (λb=>m (by unfold JM;rw[decide_eq_false b];simp));refine AA (P:=λr=>r=(l.2.1.take (q.1+1).toNat).filter (JM p i j)) ?_ λy d=>As.next ⟨d!,d!,d⟩ d!
 refine AC (λg=>?_) (λg=>AB ?_);grind[AA,Ac,AB,JM];grind[JM]
def AA7{a:List AS}{m:Int}(h:a.length<=256):As (KY (a,m)) λ_=>True:=by refine AA (P:=λ_=>True) ?_ λr _=>A6 (λu _=>AB trivial) (λu _=>AB trivial);refine Cv (λ(s:Int)=>0<=s/\s<=a.length) (λs=>((a.length:Int)-s).toNat) ⟨Ae _,o!⟩ (λs d=>?_);have⟨c,e⟩:=d;unfold L4;dsimp[len];refine AC (λb=>?_) (λ_=>As.done trivial);rw[Aa];refine AA (AI c b) λf _=>AC (λ_=>AA (AI c b) λg _=>AC (λ_=>As.done trivial) (λ_=>As.next o! o!)) (λ_=>As.next o! o!)
def ADz{l:List EN}{e:EN}(h:l.length<=16777216):As (IC (l,e)) λ_=>True:=by refine AA (P:=λ_=>True) ?_ λr _=>A6 (λu _=>AB trivial) (λu _=>AB trivial);refine Cv (λ(s:Int)=>0<=s/\s<=l.length) (λs=>((l.length:Int)-s).toNat) ⟨Ae _,o!⟩ (λs a=>?_);have⟨c,d⟩:=a;unfold Oz;dsimp[len];refine AC (λb=>?_) (λ_=>As.done trivial);rw[Aa];exact AA (AI c b) λf _=>AL (λ_=>As.done trivial) (λ_=>As.next o! o!)
def ACS{L A B:List EN}{m:List AS}{l:Af}(Q:Uq L)(v:Dg l)(N: ∀y∈A,y∈L)(O: ∀y∈B,y∈L)(q:m.length<=256)(K:A.length<=1048576)(M:B.length<=4096):As (Lh (m,(l,(A,B)))) λr=>r.2=true->r.1.length<=1052672/\ ∀y,y∈r.1↔y∈A\/y∈B:=by
 refine AA (Ac w!) λz p=>?_;have h:=p.1;rw[By]at h;dsimp only at h;subst z;refine AA (P:=λr=>(∃u,r= .inl u/\u.2=false)\/ ∃C,r= .inr C/\C.length<=A.length+B.length/\ ∀y,y∈C↔y∈A\/y∈B) ?_ λr hr=>?_
 ·refine Cv (λ(s:List EN×Int)=>0<=s.2/\s.2<=B.length/\s.1.length<=A.length+s.2/\ ∀y,y∈s.1↔y∈A\/y∈B.take s.2.toNat) (λs=>((B.length:Int)-s.2).toNat) ⟨Ae _,d!,d!,λy=>k!⟩ ?_;rintro⟨C,k⟩ ⟨c,i,w,j⟩;dsimp only at c i w j;unfold NA;dsimp[len];refine AC (λa=>?_) (λa=>As.done (.inr ⟨C,rfl,o!,λy=>by rw[j y,BQ o!]⟩));refine AA (AI c a) λG o=>AA (AA7 q) λR _=>?_;rw[Aa (x:=k+1)];have J:B.take (k+1).toNat=B.take k.toNat++[G]:=by rw[show(k+1).toNat=k.toNat+1 by omega,Ct,o.1];rfl
  have f: ∀d,B[k.toNat]? =some d/\d∈B->As (Option.bind (CZ (C,d)) λH=>some (Step.next (H.1,k+1)):Option (Step (List EN×Int) ((List EN×Bool)⊕ List EN))) (Nb (λ(s:List EN×Int)=>0<=s.2/\s.2<=B.length/\s.1.length<=A.length+s.2/\ ∀y,y∈s.1↔y∈A\/y∈B.take s.2.toNat) (λs=>((B.length:Int)-s.2).toNat) ((B.length:Int)-k).toNat λr=>(∃u,r= .inl u/\u.2=false)\/ ∃C,r= .inr C/\C.length<=A.length+B.length/\ ∀y,y∈C↔y∈A\/y∈B):=λd g=>by grind[Option.some.inj,AA,kB,List.mem_of_mem_take,As.next,List.mem_singleton]
  refine AC (λ_=>AA (AI c a) λS _=>AA (ADz o!) λT _=>AP (λ_=>As.done (.inl ⟨_,rfl,rfl⟩)) (λ_=>AA (AI c a) λd g=>f d g)) (λ_=>AA (AI c a) λd g=>f d g)
 ·rcases hr with⟨u,rfl,b⟩|⟨C,rfl,I,n⟩;exact BK (AB λe=>by rw[b]at e;cases e)
  ·refine A4 (AA (P:=λr=> ∀u,r= .inl u->u.2=false) ?_ λr hr=>A6 (λu b=>AB λe=>by rw[hr u b]at e;cases e) (λu b=>AB λ_=>⟨d!,n⟩));refine Cv (λ(s:Int)=>0<=s/\s<=A.length) (λs=>((A.length:Int)-s).toNat) ⟨Ae _,o!⟩ (λs t=>?_);have⟨c,i⟩:=t;unfold NB;dsimp[len];refine AC (λa=>?_) (λ_=>As.done λu b=>by cases b);rw[Aa];refine AA (AI c a) λD _=>?_;rw[tT v,AD];exact AC (λ_=>AA (AI c a) λE _=>AA (ADz o!) λF _=>AP (λ_=>As.done λu b=>by cases b;rfl) (λ_=>As.next o! o!)) (λ_=>As.next o! o!)
def qB{s:BY}{n k:Int}(h:s.length<=1099511627776)(a:1<=k/\k<=8):OI (s,(n,k))=some (s++C8 n k.toNat):=by grind[OI]
theorem xC{n:Int}(h:0<=n/\n<=8000):Kf ([0],n)=some (fN n.toNat):=by unfold Kf;dsimp only;rw[decide_eq_true h.1,decide_eq_true h.2];rfl
theorem ABo{n:Int}{k:Nat}(hn:0<=n)(h:n<256^k)(a:n<9223372036854775808):rd (C8 n k)=n:=by unfold rd;grind[oK,Int.emod_eq_of_lt,Aa]
def ADI{b:BY}{c:Cc}(h:b.length<=1000)(i:c.2.length<=12):J1 b c=some (b++VE c):=by
 suffices e:As (J1 b c) λr=>r=b++VE c by obtain⟨r,hr,rfl⟩:=e;exact hr
 unfold J1;refine AA (P:=λv=>v=if c.1=true then(c.2.length:Int)else 255) ?_ λj g=>?_;simp_all[AL,AB];rw[qB o! g!,AD];refine AA (CA (by rw[Ag,A0];simp[Int.reduceToNat];omega)) λk d=>?_;rw[Aa (by simp[len];omega),xC (by simp[len];omega),AD];rw[(by simp only[len];omega:(12-len c.2).toNat=12-c.2.length)];refine AA (CA (by rw[d.2,Ag,A0];simp[fN,HD,Int.reduceToNat];omega)) λf a=>AB ?_;grind[VE,List.append_assoc,Int.reduceToNat]
def vZ{x:Int}(h:0<=x/\x<64):Gy x=some true:=by grind[Gy]
def zc{x:AT}(h:Ex x):PM x=some true:=by unfold PM;rw[vZ ⟨h.1,h.2.1⟩,AD,decide_eq_true (show x.2.1>=0 from h.2.2.1),decide_eq_true h.2.2.2.1];rfl
def ABc{x:AT}(h:Ex x):Od x=some true:=by
 suffices e:As (Od x) λr=>r=true by obtain⟨r,hr,rfl⟩:=e;exact hr
 unfold Od;refine AA (P:=λr=>r= .inr ()) ?_ λr hr=>by rw[hr];exact A4 (AB rfl)
 refine Cv (λ(s:Int)=>0<=s/\s<=16) (λs=>(16-s).toNat) ⟨Ae _,g!⟩ (λs d=>?_);have⟨g,k⟩:=d;unfold Vf;refine AC (λa=>?_) (λ_=>As.done rfl);have i:As (some (Step.next (wi (s+1))):Option (Step Int (Bool ⊕ Unit))) (Nb (λ(s:Int)=>0<=s/\s<=16) (λs=>(16-s).toNat) (16-s).toNat λr=>r= .inr ()):=by grind[Aa,As.next]
 refine AA (CM g a) λv f=>?_;have b:=h.2.2.2.2 ⟨s.toNat,o!⟩;rw[<-f]at b;refine AC (λa=>absurd a (by have:=b.1.1;simp[len];omega)) (λ_=>AP (λc=>?_) (λj=>?_));refine AM (λhn=>absurd (b.1.2.resolve_left (by rw[c];decide)) hn) (λ_=>AL (λa=>by rw[c]at a;cases a) (λ_=>i));simp_all[AL,AQ]
theorem TB{x:AT}(h:Ex x):Gz x=some (He x,0):=by
 suffices c:As (Gz x) λr=>r=(He x,0) by obtain⟨r,hr,rfl⟩:=c;exact hr
 unfold Gz;rw[zc h,AD,ABc h,AD,Cm,cond_false,cond_false,qB g! g!,AD,qB (by rw[By,A0];decide) g!,AD];refine AA (P:=λr=>r=C8 x.2.1 8++(C8 x.1 4++Oc x.2.2 16)) ?_ λb g=>?_
 ·refine Cv (λ(s:Int×Na)=>0<=s.1/\s.1<=16/\s.2=C8 x.2.1 8++(C8 x.1 4++Oc x.2.2 s.1.toNat)) (λ(s:Int×Na)=>(16-s.1).toNat) ⟨Ae _,u!,by simp[Oc]⟩ ?_;rintro⟨i,s⟩ ⟨f,m,c⟩;dsimp only at f m c;subst c;unfold ap;dsimp only;refine AC (λk=>?_) (λk=>As.done (by rw[show i.toNat=16 by omega]));have⟨e,o⟩:=jF (a:=x.2.2) (i:=i.toNat) o!;rw[JO f]at e;rw[e,AD,ADI (by simp[Ag,A0,Ir h];omega) (h.cl i.toNat).1,AD,Aa (x:=i+1)];refine As.next ⟨d!,d!,?_⟩ d!
  dsimp only;rw[show(i+1).toNat=i.toNat+1 by omega,P6];simp[A2]
 have n:b.length=220:=by grind[List.length_append,A0,Ir]
 rw[show wi (244-len b)=24 by rw[Aa (by simp[len];omega)];simp[len];omega,xC g!,AD];refine AA (CA (by simp[fN,HD,Int.reduceToNat];omega)) λd j=>?_;rw[(by grind[Km,List.append_assoc,Int.reduceToNat]:d=Km x),tk (by rw[Gm h];decide),AD];have l:=YG (Km x);rw[Aa,qB (by rw[Gm h];decide) g!,AD,qB (by rw[Ag,Gm h,A0];decide) g!,AD];grind[AB,He,List.append_assoc,Int.reduceToNat]
def o6(a:Hf 16 Cc)(i:Nat): ∀k:Nat,i<=k-> ∃r,Oc a k=Oc a i++r
 |0,h=>⟨[],by rw[show i=0 by omega];rfl⟩
 |k+1,h=>by by_cases e:i=k+1;exact⟨[],by rw[e,Db]⟩;obtain⟨r,hr⟩:=o6 a i k o!;exact⟨r++VE (cl a k),by rw[P6,hr,A2]⟩
def rT{x:AT}(h:Ex x){i:Nat}(a:i<16): ∃A r,He x=A++(VE (cl x.2.2 i)++r)/\A.length=12+13*i:=by have⟨r,hr⟩:=o6 x.2.2 (i+1) 16 o!;refine⟨C8 x.2.1 8++(C8 x.1 4++Oc x.2.2 i),r++(fN 24++(C8 (O8 (Km x)) 4++C8 x.2.1 8)),?_,by simp[Ag,A0,Ir h];omega⟩;grind[He,Km,P6,List.append_assoc]
def xh{x a:Hf 16 Cc}{i:Int}{c:Cc}(h: ∀j:Fin 16,a j=if(j.val:Int)<i then x j else(false,[]))(e:0<=i/\i<16)(d: ∀b,x ⟨i.toNat,b⟩=c): ∀j:Fin 16,T2 a i c j=if(j.val:Int)<i+1 then x j else(false,[]):=by grind[T2,Fin.ext]
def uc{x a:Hf 16 Cc}{i:Int}(h: ∀j:Fin 16,a j=if(j.val:Int)<i then x j else(false,[]))(d:0<=i/\i<16)(c: ∀b,x ⟨i.toNat,b⟩=(false,[])): ∀j:Fin 16,a j=if(j.val:Int)<i+1 then x j else(false,[]):=by grind[Fin.ext]
def uB{a t:BY}{n k:Int}(h:(a.length:Int)+t.length<=2199023255552)(b:1<=k)(d:k<=8)(e:k<=t.length)(g:t.take k.toNat=C8 n k.toNat)(hn:0<=n)(f:n<256^k.toNat)(c:n<9223372036854775808):G0 (a++t,((a.length:Int),k))=some n:=by grind[G0,YQ,ABo]
def ADO{x:AT}(h:Ex x):VG (He x)=some (x,true):=by
 suffices C:As (VG (He x)) λr=>r=(x,true) by obtain⟨r,hr,rfl⟩:=C;exact hr
 have l:=ag h;have O:=h.1;have S:=h.2.1;have Q:=h.2.2.1;have T:=h.2.2.2.1;have q1:G0 (He x,(8,4))=some x.1:=by have:=uB (a:=C8 x.2.1 8) (t:=C8 x.1 4++(Oc x.2.2 16++(fN 24++(C8 (O8 (Km x)) 4++C8 x.2.1 8)))) (n:=x.1) (k:=4) (by simp only[Ag,A0,Ir h,fN,HD];omega) g! g! (by simp[Ag,A0];omega) (by exact Gd (A0 _ _)) O (by simp[Int.reduceToNat];omega) o!;rw[A0]at this;rw[<-this];simp only[He,Km,A2];rfl
 have q2:G0 (He x,(0,8))=some x.2.1:=by have:=uB (a:=[]) (t:=He x) (n:=x.2.1) (k:=8) (by rw[l];decide) g! g! (by rw[l];decide) Tc Q (by simp[Int.reduceToNat];omega) o!;exact this
 unfold VG;rw[q1,AD,q2,AD];refine AA (P:=λr=> ∃z,r= .inr (x,z)) ?_ λr hr=>by obtain⟨z,rfl⟩:=hr;exact A4 (AB rfl)
 refine Cv (λ(s:Int×AT×AT)=>0<=s.1/\s.1<=16/\s.2.1.1=x.1/\s.2.1.2.1=x.2.1/\ ∀j:Fin 16,s.2.1.2.2 j=if(j.val:Int)<s.1 then x.2.2 j else(false,[])) (λ(s:Int×AT×AT)=>(16-s.1).toNat) ⟨Ae _,u!,rfl,rfl,λj=>by rw[if_neg d!];rfl⟩ ?_;rintro⟨i,⟨p,n,a⟩,z⟩ ⟨o,N,G,hn,f⟩;dsimp only at o N G hn f;subst G hn;unfold gG;dsimp only;refine AC (λg=>?_) (λg=>As.done ⟨z,?_⟩)
 ·rw[Aa (x:=i*13),Aa (x:=12+i*13),Aa (x:=12+i*13+1),Aa (x:=i+1)];have⟨R,m⟩:=jF (a:=x.2.2) (i:=i.toNat) o!;obtain⟨A,r,B,K⟩:=rT h (i:=i.toNat) o!;have b:=h.cl i.toNat
  generalize L:cl x.2.2 i.toNat=c at*;have F:A.length+(13+r.length)=256:=by have:=l;rw[B,Ag,Ag,ae b.1]at this;exact this
  have e:G0 (He x,(12+i*13,1))=some (if c.1=true then(c.2.length:Int)else 255):=by have y:=b.1;have:=uB (a:=A) (t:=VE c++r) (n:=if c.1=true then(c.2.length:Int)else 255) (k:=1) (by rw[Ag,ae b.1];omega) g! g! (by rw[Ag,ae b.1];omega) (by unfold VE;rw[List.append_assoc];exact List.take_left' (A0 _ _)) (by split<;>omega) (by simp[Int.reduceToNat];split<;>omega) (by split<;>omega);rw[<-B]at this;rw[<-this,K];congr 3;omega
  rw[e,AD];have H: ∀q:Hf 16 Cc,(∀j:Fin 16,q j=if(j.val:Int)<i+1 then x.2.2 j else(false,[]))->As (some (Step.next (i+1,((x.1,(x.2.1,q)),z))):Option (Step (Int×AT×AT) ((Bool×AT)⊕ (AT×AT)))) (Nb (λ(s:Int×AT×AT)=>0<=s.1/\s.1<=16/\s.2.1.1=x.1/\s.2.1.2.1=x.2.1/\ ∀j:Fin 16,s.2.1.2.2 j=if(j.val:Int)<s.1 then x.2.2 j else(false,[])) (λ(s:Int×AT×AT)=>(16-s.1).toNat) (16-i).toNat λr=> ∃z,r= .inr (x,z)):=λq w=>As.next ⟨d!,d!,rfl,rfl,w⟩ d!
  by_cases d:c.1=true;rw[if_pos d];have y:=b.1;rw[beq_eq_false_iff_ne.2 o!,cond_false,decide_eq_false o!,cond_false,Aa];obtain⟨s,C,D⟩:=CQ (s:=He x) (lo:=12+i*13+1) (hi:=12+i*13+1+(c.2.length:Int)) o! o! (by rw[l];omega);have E:s=c.2:=by
   rw[D.1,B];have I:(12+i*13+1).toNat=A.length+1:=o!
   have J:(12+i*13+1+(c.2.length:Int)).toNat-(12+i*13+1).toNat=c.2.length:=o!
   rw[J,I,<-Nf,QW];unfold VE;rw[if_pos d,A2,lw (A0 _ _),A2,Wi]
  rw[C,E,AD];have u: ∃v,GA a i=some v:=by obtain⟨v,m,_⟩:=CM (a:=a) o g;exact⟨v,m⟩
  have⟨v,u⟩:=u;rw[u,AD,AD,AD,Sum.elim_inl];exact H _ (xh f ⟨o,g⟩ λM=>m.symm.trans (DN d rfl));rw[if_neg d,beq_iff_eq.2 rfl,cond_true,AD,Sum.elim_inl];exact H _ (uc f ⟨o,g⟩ λM=>m.symm.trans (DN (by simpa using d) (b.2.resolve_left d)))
 refine congrArg Sum.inr (DN (DN rfl (DN rfl (funext λj=>?_))) rfl);exact(f j).trans (if_pos o!)
theorem xz{x:AT}(h:Ex x)(hn:x.2.1≠0):He x≠fN 256:=λe=>hn (by have:=congrArg (List.take 8) e;rw[Tc]at this;have a:=h.2.2.1;have b:=h.2.2.2.1;exact WL (k:=8) (by decide) ⟨λ_=>by omega,by omega,by omega⟩ ⟨λ_=>by omega,by omega,by omega⟩ (this.trans (by decide)))
theorem vV:V5 ()=some (fN 256):=by grind[V5,xC]
theorem zX{x:AT}(h:Ex x)(hn:x.2.1≠0):PL (He x)=some (x,0):=by
 have b:=ag h;unfold PL;have⟨m,q1,d⟩:=CQ (s:=He x) (lo:=0) (hi:=8) g! g! (by rw[b];decide);have⟨j,q2,e⟩:=CQ (s:=He x) (lo:=248) (hi:=256) g! g! (by rw[b];decide);have⟨l,q3,f⟩:=CQ (s:=He x) (lo:=0) (hi:=244) g! g! (by rw[b];decide);have g:j=C8 x.2.1 8:=by rw[e.1];show List.take 8 (List.drop 248 (He x))=_;rw[ka h,BQ (by rw[A0];exact Aq _)]
 have i:l=Km x:=f.1.trans (by show List.take 244 (He x)=_;unfold He;exact Gd (Gm h));have c:=YG (Km x);have q4:G0 (He x,(244,4))=some (O8 (Km x)):=by have:=uB (a:=Km x) (t:=C8 (O8 (Km x)) 4++C8 x.2.1 8) (n:=O8 (Km x)) (k:=4) (by simp only[Ag,A0,Gm h];decide) g! g! (by simp only[Ag,A0];decide) (Gd (A0 _ _)) o! (by simp[Int.reduceToNat];omega) o!;rw[Gm h]at this;exact this
 rw[(by simp[len];omega:len (He x)=256),bne_self_eq_false,cond_false,vV,AD,beq_eq_false_iff_ne.2 (xz h hn),cond_false,q1,AD,q2,AD,(d.1.trans Tc),g,bne_self_eq_false,cond_false,q3,AD,i,q4,AD,tk (by rw[Gm h];decide),AD,Aa,bne_self_eq_false,cond_false,ADO h,AD,TB h,AD,bne_self_eq_false,bne_self_eq_false];rfl
def iY(x:AT):BY:=if x.2.1=0 then fN 256 else He x
theorem ABV{x:AT}(h:Ex x)(a:x.2.1=0->x=(x.1,(0,Hf.all (false,[])))):GM (iY x,x.1)=some (x,0):=by unfold GM iY;rw[vZ ⟨h.1,h.2.1⟩,AD,Cm,cond_false];by_cases hn:x.2.1=0;rw[if_pos hn];rw[(by grind[PL,fN,List.length_replicate,vV]:PL (fN 256)=some ((0,(0,(Hf.all (false,[])))),7)),AD];exact congrArg (λq=>some (q,(0:Int))) (a hn).symm;grind[zX]
def zb{x:AT×Dd}(a:OQ x.2)(c:x.2.1=x.1.1)(b:GA x.1.2.2 x.2.2.1=some x.2.2.2.1):Kq x=some ((x.1.1,(x.1.2.1,T2 x.1.2.2 x.2.2.1 x.2.2.2.2)),0):=by grind[As,Kq,T2,AA,Qe,AP,AM,A9,AB]
def ADP{x:AT}{e:AE}(h:Ex x)(d:Io e)(j:e.2.1=1\/e.2.1=2)(b:e.2.2.2.2.2.2.1.1=x.1)(f:e.2.2.2.2.1=x.2.1)(c:GA x.2.2 e.2.2.2.2.2.2.1.2.1=some e.2.2.2.2.2.2.1.2.2.1):KZ (x,e)=some (upd x e,0):=by
 suffices g:As (KZ (x,e)) λr=>r=(upd x e,0) by obtain⟨r,hr,rfl⟩:=g;exact hr
 have a:OQ e.2.2.2.2.2.2.1:=by grind[Io,UA]
 unfold KZ;refine AA G7 λv i=>AP (λa=>absurd (i d) (by simp[a])) (λ_=>?_);rw[dC,(by grind[be]:be e=true),TB h,AD,Cm,cond_false];refine A9 (AM (λa=>absurd rfl a) (λ_=>AM (λa=>absurd b a) (λ_=>AM (λa=>absurd f a) (λ_=>?_))));rw[zb a b c];exact A9 (AM (λa=>absurd rfl a) (λ_=>AB rfl))
def ADR{x:AT}{a:List AE}(q:yn x a)(d:a.length<=4096):K4 (x,a)=some (a.foldl upd x,0):=by
 suffices t:As (K4 (x,a)) λr=>r=(a.foldl upd x,0) by obtain⟨r,hr,rfl⟩:=t;exact hr
 generalize v:a.foldl upd x=y;refine AA (P:=λr=> ∃z,r= .inr (y,z)) ?_ λr hr=>?_
 ·refine Cv (λ(s:Int×AT×AT)=> ∃A B,a=A++B/\s.1=A.length/\yn s.2.1 B/\B.foldl upd s.2.1=y) (λ(s:Int×AT×AT)=>((a.length:Int)-s.1).toNat) ⟨[],a,rfl,rfl,q,v⟩ ?_;rintro⟨i,x,z⟩ ⟨A,B,rfl,g,h,c⟩;dsimp only at g h c;subst g;unfold Pp;dsimp[len];rw[Ag]at d;refine AC (λb=>?_) (λb=>As.done ?_)
  ·obtain _|⟨e,B⟩:=B;simp at b;have u:ix (A++e::B) (A.length:Int)=some e:=by unfold ix;rw[if_pos o!,Dl,Ch (Aq _),Ge];rfl
   have⟨⟨j,f,k,l,m,n⟩,o⟩:=h;have p:e.2.2.2.2.1<e.1:=f.2.2.2.2.2.1;rw[u,AD,decide_eq_false o!,cond_false,ADP j f k l m n,AD,Aa (x:=(A.length:Int)+1)];refine AM (λb=>absurd rfl b) (λ_=>As.next ⟨A++[e],B,k!,k!,o,c⟩ d!)
  obtain _|⟨e,B⟩:=B;exact⟨z,by rw[<-c];rfl⟩;simp at b;omega
 grind[A4,AB]
def yb{L:List AE}(h:Il L){p:Int}{a b:Nat}(g:a<=b):L.filter (JM p a b)=((L.take b).drop a).filter (af p):=by
 have j: ∀(i:Nat) (e:AE),L[i]? =some e->JM p a b e=(af p e&&(decide (a<=i)&&decide (i<b))):=λi e d=>by have:=(h i e d).1;rw[ss,show decide (e.1>(a:Int))=decide (a<=i)from decide_eq_decide.2 o!,show decide (e.1<=(b:Int))=decide (i<b)from decide_eq_decide.2 o!]
 conv=>lhs;rw[<-Di b L,qW L g]
 rw[Ip,Ip];rw[(List.filter_eq_nil_iff (l:=L.take a)).2 λe d=>by obtain⟨i,c⟩:=Dm d;have f:=C0 c;rw[BR]at f;rw[JQ o!]at c;rw[j i e c,decide_eq_false (show¬a<=i by omega)];simp];rw[(List.filter_eq_nil_iff (l:=L.drop b)).2 λe d=>by obtain⟨i,c⟩:=Dm d;rw[JP]at c;rw[j _ e c,decide_eq_false (show¬b+i<b by omega)];simp];rw[By,Db];refine List.filter_congr λe d=>?_;obtain⟨i,c⟩:=Dm d;rw[JP]at c;have f:=C0 c;rw[BR]at f;rw[JQ o!]at c;rw[j _ e c,decide_eq_true (show a<=a+i by omega),decide_eq_true (show a+i<b by omega)];simp
def Cov(a:AJ)(l:Af)(k:Nat):Prop:= ∀m:Int,1<=m->m<=k-> ∀p lo hi,VX a p lo hi->fm a l lo m
def uC{a:AJ}{l:Af}(h:VB a)(b:Dg l):MY (a,l)=some 0:=by obtain⟨v,c,rfl⟩:=Kp h;obtain⟨w,d,rfl⟩:=Ph b;grind[MY,Bool.not_true]
def AGA{n:Int}{L:List EN}{a:AJ}{l:Af}{p:Int}{j k:Nat}(o:LI n L)(c:Il L)(m:AR L a)(d:Qk L l)(s:Cov a l k)(v:j<=k)(E:k<=L.length)(w:0<=p/\p<a.2.1):Ep (a,(l,(p,(B0 (L.take j) p,(k:Int)))))=some (L.filter (JM p (B0 (L.take j) p) k),0):=by
 have e:=d.len;have x:=WK c p j;have y:=YN (c.take j) p;rw[BR]at y;have⟨z,u,b,A,⟨B,f,C,g⟩,D,r⟩:=AAC (p:=p) (i:=B0 (L.take j) p) (j:=(k:Int)) (CPa 4096) g! o o! x o! o! m d w;have t:b=0:=by rcases g with q|q;exact q;by_cases h:b=0;exact h;exact absurd (s b o! f p z u A) q
 exact(r.resolve_left λq=>by have:=q.1;omega).2
def ADH{n:Int}{L:List EN}{a:AJ}{l:Af}{p:Int}{j k:Nat}(h:LI n L)(b:Il L)(g:AR L a)(e:Qk L l)(m:Cov a l k)(c:j<=k)(o:k<=L.length)(f:0<=p/\p<a.2.1)(d:p<64):K3 (st (L.take j) p,(a,(l,(k:Int))))=some (st (L.take k) p,0):=by have i:=e.len;have r:=WK b p j;have q:=YN (b.take j) p;rw[BR]at q;unfold K3;dsimp only;rw[uC g.vb e.vl,AD,bne_self_eq_false,cond_false,TB ((Vz b ⟨f.1,d⟩ (by omega:L.length<=1099511627776)) j),AD];dsimp only;rw[bne_self_eq_false,cond_false,Pb,TF,decide_eq_false o!,cond_false,AGA h b g e m c o f,AD];dsimp only;rw[bne_self_eq_false,cond_false,show B0 (L.take j) p=(((B0 (L.take j) p).toNat:Nat):Int) by omega,yb b o!,kY b (j:=j) o! (bT b),ADR (tf b h ⟨f.1,d⟩ o! j k c) (by have:=Fe (af p) ((L.take k).drop j);rw[FJ,BR]at this;omega),<-iQ c];rfl
def Zi(x:AT):Cr:=(x.1,(x.2.1,iY x))
def K5(L:List EN)(n:Nat):List Cr:=(List.range n).map λ(i:Nat)=>Zi (st L i)
theorem Li(L:List EN)(n:Nat):(K5 L n).length=n:=by grind[K5,List.length_map,List.length_range]
theorem tS{L:List EN}{n i:Nat}(h:i<n):(K5 L n)[i]? =some (Zi (st L i)):=by grind[K5,List.getElem?_range]
def dj{L:List EN}{n:Nat}{i:Int}(a:0<=i)(h:i<n):ix (K5 L n) i=some (Zi (st L i)):=by have⟨v,c,b,_⟩:=AI (l:=K5 L n) a (by rw[Li];exact h);grind[tS,Int.toNat_of_nonneg,Option.some.inj]
def pX(L:List EN)(n:Nat):K5 L (n+1)=K5 L n++[Zi (st L n)]:=by grind[K5,List.range_succ]
theorem yX{L:List EN}(h:Il L){p:Int}{k:Nat}(a:(st (L.take k) p).2.1=0):st (L.take k) p=(p,(0,Hf.all (false,[]))):=by rw[Pb]at a;exact(iP h (j:=k) (k:=0) (by rw[a];rfl)).trans rfl
def pW{L:List EN}(h:Il L)(a:L.length<=1099511627776){p:Int}(b:0<=p/\p<64){k:Nat}:GM (iY (st (L.take k) p),p)=some (st (L.take k) p,0):=by grind[ABV,Vz,yX,TF]
def ABg{L:List EN}(h:Il L)(l:L.length<=1099511627776){s:Int}{n k:Nat}(d:1<=s/\s<=1073741824)(hn:1<=n/\n<=64):RX (s,((n:Int),K5 (L.take k) n))=some true:=by
 suffices d:As (RX (s,((n:Int),K5 (L.take k) n))) λr=>r=true by obtain⟨r,hr,rfl⟩:=d;exact hr
 unfold RX;dsimp only;have c:len (K5 (L.take k) n)=n:=by grind[Li]
 rw[decide_eq_false o!,cond_false,decide_eq_false o!,cond_false,decide_eq_false o!,cond_false,decide_eq_false o!,cond_false,c,decide_eq_false o!,cond_false];refine AA (P:=λr=>r= .inr ()) ?_ λr hr=>by rw[hr];exact A4 (AB rfl)
 refine Cv (λ(s:Int)=>0<=s/\s<=n) (λs=>((n:Int)-s).toNat) ⟨Ae _,o!⟩ (λi j=>?_);have⟨e,o⟩:=j;unfold an;dsimp only;rw[c];refine AC (λa=>?_) (λ_=>As.done rfl);have f:As (some (Step.next (wi (i+1))):Option (Step Int (Bool ⊕ Unit))) (Nb (λ(s:Int)=>0<=s/\s<=n) (λs=>((n:Int)-s).toNat) ((n:Int)-i).toNat λr=>r= .inr ()):=by grind[Aa,As.next]
 have g:(Zi (st (L.take k) i)).1=i:=TF _ _;rw[dj e a,AD,g,decide_eq_false o!,cond_false];have b:GM ((Zi (st (L.take k) i)).2.2,i)=some (st (L.take k) i,0):=pW h l ⟨e,o!⟩;refine AC (λm=>?_) (λ_=>?_);rw[Aa,dj o! o!,AD,show(Zi (st (L.take k) (i-1))).1=i-1 from TF _ _,decide_eq_false o!,cond_false,b,AD];exact AM (λa=>absurd rfl a) (λ_=>AM (λa=>absurd rfl a) (λ_=>f));rw[b,AD];exact AM (λa=>absurd rfl a) (λ_=>AM (λa=>absurd rfl a) (λ_=>f))
def yZ{L:List EN}(h:Il L)(a:L.length<=1099511627776){s:Int}{n k:Nat}(b:1<=s/\s<=1073741824)(hn:1<=n/\n<=64):U0 (s,((n:Int),K5 (L.take k) n))=some true:=by unfold U0;rw[ABg h a b hn,AD,cond_true];dsimp only;rw[(by grind[Li]:len (K5 (L.take k) n)=n),beq_self_eq_true]
def AAp{n:Int}{L:List EN}{a:AJ}{l:Af}{p:Int}{j k:Nat}(o:LI n L)(c:Il L)(m:AR L a)(g:Qk L l)(q:Cov a l k)(d:j<=k)(r:k<=L.length)(e:0<=p/\p<a.2.1)(b:p<64):OC (Zi (st (L.take j) p),(a,(l,(k:Int))))=some (Zi (st (L.take k) p),0):=by
 have h:=g.len;have s:=Vz c ⟨e.1,b⟩ (by omega:L.length<=1099511627776);have f:GM ((Zi (st (L.take j) p)).2.2,(Zi (st (L.take j) p)).1)=some (st (L.take j) p,0):=by rw[show(Zi (st (L.take j) p)).1=p from TF _ _];exact pW c o! ⟨e.1,b⟩
 unfold OC;dsimp only;rw[f,AD];dsimp only;rw[bne_self_eq_false,cond_false,ADH o c m g q d r e b,AD];dsimp only;rw[bne_self_eq_false,cond_false];by_cases i:(st (L.take k) p).2.1=0;rw[i,beq_self_eq_true,cond_true];rw[Pb]at i;have t:=PO c p j k d;have u:=WK c p j;grind[iP];grind[TB,Zi,iY,TF]
def AEN{n:Int}{L:List EN}{a:AJ}{l:Af}{s0 s:Int}{m j k:Nat}(u:LI n L)(g:Il L)(f:AR L a)(e:Qk L l)(w:Cov a l k)(d:j<=k)(x:k<=L.length)(A:(k:Int)<=l.2.2)(B:(m:Int)=a.2.1)(hn:1<=m/\m<=64)(q:1<=s0/\s0<=1073741824)(o:1<=s/\s<=1073741824):H4 ((s0,((m:Int),K5 (L.take j) m)),(a,(l,(s,(k:Int)))))=some ((s,((m:Int),K5 (L.take k) m)),0):=by
 have h:=e.len;suffices o:As (H4 ((s0,((m:Int),K5 (L.take j) m)),(a,(l,(s,(k:Int)))))) λr=>r=((s,((m:Int),K5 (L.take k) m)),0) by obtain⟨r,hr,rfl⟩:=o;exact hr
 unfold H4;rw[yZ g o! q hn,AD,Cm,cond_false];dsimp only;rw[uC f.vb e.vl,AD,bne_self_eq_false,cond_false,decide_eq_false o!,cond_false,decide_eq_false o!,cond_false,decide_eq_false o!,cond_false,decide_eq_false o!,cond_false];refine AA (P:=λr=>r= .inr (K5 (L.take k) m,(s,((m:Int),0)))) ?_ λr hr=>by rw[hr];exact A4 (AB rfl)
 refine Cv (λ(t:Int×List Cr×Int×Int×Int)=>0<=t.1/\t.1<=m/\t.2=(K5 (L.take k) t.1.toNat,(s,((m:Int),0)))) (λt=>((m:Int)-t.1).toNat) ⟨Ae _,d!,rfl⟩ ?_;rintro⟨i,t⟩ ⟨c,z,p⟩;dsimp only at c z p;subst p;unfold Po;dsimp only;rw[(by grind[Li]:len (K5 (L.take j) m)=m)];refine AC (λb=>?_) (λb=>As.done ?_)
 ·rw[dj c b,AD,AAp u g f e w d x ⟨c,o!⟩ o!,AD,bne_self_eq_false,cond_false];refine AA (Ac (by rw[Li];simp;omega)) λv y=>?_;rw[Aa];refine As.next ⟨d!,d!,?_⟩ d!
  dsimp only;rw[y.1,show(i+1).toNat=i.toNat+1 by omega,pX,JO c]
 rw[show i.toNat=m by omega]
def pr{m:Nat}(h:m<=64):FE (1,(m:Int))=some (1,((m:Int),K5 [] m)):=by
 suffices d:As (FE (1,(m:Int))) λr=>r=(1,((m:Int),K5 [] m)) by obtain⟨r,hr,rfl⟩:=d;exact hr
 unfold FE;refine AA (P:=λr=>r=(K5 [] m,(1,(m:Int)))) ?_ λr hr=>AB (by rw[hr]);refine Cv (λ(t:Int×List Cr×Int×Int)=>0<=t.1/\t.1<=m/\t.2=(K5 [] t.1.toNat,(1,(m:Int)))) (λt=>((m:Int)-t.1).toNat) ⟨Ae _,d!,rfl⟩ ?_;rintro⟨i,t⟩ ⟨b,f,c⟩;dsimp only at b f c;subst c;unfold Sp;dsimp only;refine AC (λa=>?_) (λa=>As.done ?_)
 ·rw[oE,AD];refine AA (Ac (by rw[Li];simp;omega)) λv e=>?_;rw[Aa];refine As.next ⟨d!,d!,?_⟩ d!
  dsimp only;rw[e.1,show(i+1).toNat=i.toNat+1 by omega,pX,JO b];rfl
 rw[show i.toNat=m by omega]
def AFM(x:BN)(h:x.2.2.length<=16777216):JK (x,x)=some true:=by
 suffices c:As (JK (x,x)) λr=>r=true by obtain⟨r,hr,rfl⟩:=c;exact hr
 unfold JK;dsimp only;rw[bne_self_eq_false,cond_false,bne_self_eq_false,cond_false,bne_self_eq_false,cond_false];refine AA (P:=λr=>r= .inr ()) ?_ λr hr=>by rw[hr];exact A4 (AB rfl)
 refine Cv (λ(s:Int)=>0<=s/\s<=x.2.2.length) (λs=>((x.2.2.length:Int)-s).toNat) ⟨Ae _,o!⟩ (λi a=>?_);have⟨e,f⟩:=a;unfold S8;dsimp[len];refine AC (λb=>?_) (λ_=>As.done rfl);have⟨v,d,_⟩:=AI (l:=x.2.2) e b;rw[d,AD,AD,beq_self_eq_true,beq_self_eq_true,beq_self_eq_true];simp[PF,Cm,cond_false];grind[Aa,As.next]
def AEQ{L:List EN}{a:AJ}{l:Af}{p i j:Int}(hN:Il L)(hA:AR L a)(t:Qk L l)(hj:j<=1099511627776):As (Ee (a,(l,(p,(i,j))))) λr=>r.2=0->r.1=L.filter (JM p i j):=by
 have G:=t.sorted;have hU:Uq L:=λx hx y E K=>Tw (by refine Jq.2 ((Pz).2 (G.imp λh=>?_));omega) hx E K;refine AA ADX λv0 h0=>AM (λH=>AB λo=>absurd o H) (λo=>?_);have⟨p0,p1,i0,ij⟩:=h0 o;refine AA (vr hA ⟨p0,p1⟩) λv1 h1=>?_;obtain⟨M,lo,hh,a1,rfl,ar,hM,z⟩:=h1;dsimp only at z;refine AA (zD z t.vl i0 hj ij) λv2 h2=>AP (λ_=>AB n!) (λJ=>?_);have al:=h2.1 J;refine AA (wM hU z) λv3 X=>AA (vO t.vl) λv4 Y=>?_;have Z: ∀y∈v3,y∈L:=λy E=>by have⟨q,q1,q2,_⟩:=(X.2 y).1 E;exact(((z.2 q q1).2.1.mem y).1 q2).1
 have ad: ∀y∈v4,y∈L:=λy E=>by rw[Y]at E;exact((t.tail y).1 (BM.1 E).1).1
 have A:v4.length<=4096:=by rw[Y];exact DH (Fe _ _) t.vl.2.2.1
 refine AA (ACS hU t.vl Z ad z.1 X.1 A) λc h5=>AP (λ_=>AB n!) (λht=>?_);have⟨u1,u2⟩:=h5 ht;have w: ∀y,y∈c.1↔y∈L.filter (JM p i j):=λy=>by rw[u2 y,X.2 y,Y,BM,BM];constructor;rintro(⟨q,q1,q2,q3,q4,q5⟩|⟨q1,q2⟩);have:=((z.2 q q1).2.1.mem y).1 q2;refine⟨this.1,?_⟩;unfold JM;rw[this.2.1,beq_iff_eq.2 q3,decide_eq_true (show y.1>i from q4),decide_eq_true q5];rfl;exact⟨((t.tail y).1 q1).1,q2⟩;rintro⟨q1,q2⟩;have hw:=q2;unfold JM at hw;simp[BU,decide_eq_true_eq,beq_iff_eq]at hw;have⟨w1,w2,w3,w4⟩:=hw;rcases al y.1 w3 w4 with⟨r,T,r2,r3⟩|⟨T,r2⟩;have⟨_,g2,g3,g4⟩:=z.2 r T;exact .inl ⟨r,T,(g2.mem y).2 ⟨q1,w1,o!,o!,r2,r3⟩,w2,w3,w4⟩;exact .inr ⟨(t.tail y).2 ⟨q1,T,r2⟩,q2⟩
 refine AA (P:=λr=>(∀u,r= .inl u->u.2=13)/\(r= .inr ()-> ∀(k:Nat) (e f:EN),c.1[k]? =some e->c.1[k+1]? =some f->f.2.2.2.2.1=e.1)) ?_ λr hr=>A6 (λu B=>AB λo=>by rw[hr.1 u B]at o;cases o) (λu B=>AB λ_=>?_)
 ·refine Cv (λ(s:Int)=>0<=s/\s<=c.1.length/\ ∀(k:Nat) (e f:EN),(k:Int)+1<s->c.1[k]? =some e->c.1[k+1]? =some f->f.2.2.2.2.1=e.1) (λs=>((c.1.length:Int)-s).toNat) ⟨Ae _,o!,λk e f n=>o!⟩ (λs hI=>?_);have⟨s0,s1,s2⟩:=hI;unfold PX;dsimp[len];have F: ∀u:List EN×Int,u=([],13)->(∀v,(Sum.inl u:(List EN×Int)⊕ Unit)= .inl v->v.2=13)/\((Sum.inl u:(List EN×Int)⊕ Unit)= .inr ()-> ∀(k:Nat) (e f:EN),c.1[k]? =some e->c.1[k+1]? =some f->f.2.2.2.2.1=e.1):=λu B=>⟨λv hv=>by cases hv;rw[B],λh=>by cases h⟩
  refine AC (λH=>?_) (λH=>As.done ⟨λu B=>(by cases B),λ_ k e f n g=>s2 k e f (by have:=C0 g;omega) n g⟩);rw[Aa (x:=s+1)];have Q:0<s->As (Option.bind (ix c.1 s) λR=>Option.bind (ix c.1 (wi (s-1))) λS=>bif (R.2.2.2.2.1 !=S.1)then some (.done (.inl ([],13)))else some (.next (s+1)):Option (Step Int ((List EN×Int)⊕ Unit))) (Nb (λ(s:Int)=>0<=s/\s<=c.1.length/\ ∀(k:Nat) (e f:EN),(k:Int)+1<s->c.1[k]? =some e->c.1[k+1]? =some f->f.2.2.2.2.1=e.1) (λs=>((c.1.length:Int)-s).toNat) ((c.1.length:Int)-s).toNat λr=>(∀u,r= .inl u->u.2=13)/\(r= .inr ()-> ∀(k:Nat) (e f:EN),c.1[k]? =some e->c.1[k+1]? =some f->f.2.2.2.2.1=e.1)):=λD=>by
   rw[Aa];refine AA (AI s0 H) λR V=>AA (AI) λS W=>AM (λ_=>As.done (F _ rfl)) (λK=>As.next ⟨o!,o!,λk e f n N g=>?_⟩ o!);by_cases ao:(k:Int)+1<s;exact s2 k e f ao N g;have ek:k+1=s.toNat:=o!
   have U:(s-1).toNat=k:=o!
   rw[ek,V.1]at g;have:=W.1;rw[U,N]at this;rw[<-BV g,BV this];exact K
  apply AQ<;>intro hs
  ·refine AA (AI s0 H) λv7 g7=>AC (λ_=>As.done (F _ rfl)) (λ_=>AC (λD=>absurd D o!) (λ_=>As.next ⟨o!,o!,λk e f n=>o!⟩ o!))
  exact AC (λD=>Q D) (λD=>absurd D o!)
 subst B;dsimp only;have I:=hr.2 rfl;refine gZ ?_ (G.filter _) w;have O: ∀e∈c.1,e.2.2.2.2.1<e.1:=λe K=>by have⟨k,n⟩:=D7.1 (BM.1 ((w e).1 K)).1;exact(hN k e n).2.2.2.2.2.2.1
 have step: ∀(d k:Nat) (e f:EN),c.1[k]? =some e->c.1[k+1+d]? =some f->e.1<f.1:=by
  intro d;induction d with
  |zero=>intro k e f n C;have:=I k e f n C;have:=O f (BP C);omega
  |succ d ih=>intro k e f n C;have a0:=C0 C;have hg:c.1[k+1+d]? =some (c.1[k+1+d]' o!):=Au o!;have a:=ih k e _ n hg;have b:=I (k+1+d) _ f hg C;have:=O f (BP C);omega
 rw[HF];intro k m n hm ax;obtain⟨d,rfl⟩: ∃d,m=k+1+d:=⟨m-(k+1),o!⟩
 exact step d k _ _ (Au n) (Au hm)
def AAL{x:AT}{a:List AE}(q:yn x a)(d:a.length<=4096):GJ (x,a)=some (a.foldl upd x,0):=by
 suffices t:As (GJ (x,a)) λr=>r=(a.foldl upd x,0) by obtain⟨r,hr,rfl⟩:=t;exact hr
 generalize v:a.foldl upd x=y;refine AA (P:=λr=> ∃z,r= .inr (y,z)) ?_ λr hr=>?_
 ·refine Cv (λ(s:Int×AT×AT)=> ∃A B,a=A++B/\s.1=A.length/\yn s.2.1 B/\B.foldl upd s.2.1=y) (λ(s:Int×AT×AT)=>((a.length:Int)-s.1).toNat) ⟨[],a,rfl,rfl,q,v⟩ ?_;rintro⟨i,x,z⟩ ⟨A,B,rfl,g,h,c⟩;dsimp only at g h c;subst g;unfold Jn;dsimp[len];rw[Ag]at d;refine AC (λb=>?_) (λb=>As.done ?_)
  ·obtain _|⟨e,B⟩:=B;simp at b;have u:ix (A++e::B) (A.length:Int)=some e:=by unfold ix;rw[if_pos o!,Dl,Ch (Aq _),Ge];rfl
   have⟨⟨j,f,k,l,m,n⟩,o⟩:=h;have p:e.2.2.2.2.1<e.1:=f.2.2.2.2.2.1;rw[u,AD,decide_eq_false o!,cond_false,AD,xZ j f k l m n,AD,Aa (x:=(A.length:Int)+1)];refine AM (λb=>absurd rfl b) (λ_=>As.next ⟨A++[e],B,k!,k!,o,c⟩ d!)
  obtain _|⟨e,B⟩:=B;exact⟨z,by rw[<-c];rfl⟩;simp at b;omega
 grind[A4,AB]
def AAI{n:Int}{L:List EN}{a:AJ}{l:Af}{p:Int}{j k:Nat}(t:LI n L)(b:Il L)(h:AR L a)(f:Qk L l)(e:j<=k)(v:k<=L.length)(m:0<=p/\p<a.2.1)(d:p<64):As (HW (st (L.take j) p,(a,(l,(k:Int))))) λr=>r.2=0->r.1=st (L.take k) p:=by have i:=f.len;have w:=WK b p j;have u:=YN (b.take j) p;rw[BR]at u;refine AA OH λx o=>AP (λc=>absurd (o.2 h.vb) (by simp[c])) (λ_=>AA BS λy q=>AP (λc=>absurd (q.2 f.vl) (by simp[c])) (λ_=>?_));rw[U2 ((Vz b ⟨m.1,d⟩ (by omega:L.length<=1099511627776)) j),AD];refine AM (λc=>absurd rfl c) (λ_=>?_);dsimp only;rw[Pb,TF,decide_eq_false o!,cond_false];refine AA (AEQ b h f o!) λz s=>AM (λc=>AB λg=>absurd g c) (λg=>?_);rw[s g,show B0 (L.take j) p=(((B0 (L.take j) p).toNat:Nat):Int) by omega,yb b o!,kY b (j:=j) o! (bT b),AAL (tf b t ⟨m.1,d⟩ o! j k e) (by have:=Fe (af p) ((L.take k).drop j);rw[FJ,BR]at this;omega),<-iQ e,AD];exact AB λ_=>rfl
end Go.Pm
