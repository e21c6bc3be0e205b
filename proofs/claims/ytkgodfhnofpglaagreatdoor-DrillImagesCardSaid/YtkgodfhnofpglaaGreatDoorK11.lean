/- Texts of wip, joined and shortened by wip/tools/pack.py; nothing is assumed. -/
import Derived.Test.YtkgodfhnofpglaaGreatDoorK10
import Derived.Test.YtkgodfhnofpglaaGreatDoorProg
import Derived.Lib.Builder
import Derived.Lib.FrozenHead
import Derived.Lib.FrozenHead2
import Derived.Lib.AppendStr
import Derived.Lib.UnsafeStr
import Derived.Lib.Repeat
import Derived.Lib.RepeatB
import Derived.Lib.Walk
import Derived.WalkKit
import Derived.Laws.Externs
import Derived.Shelf.RegionOpenPlain
import Derived.Lib.MakeNoZero
import Derived.Laws.IdiomCopy
import Derived.Deep.LoopGhost
import Derived.Deep.DeepCutAuto
import Derived.Deep.DeepFit
import Derived.Deep.CutBlock
noncomputable section
set_option linter.all false
set_option maxHeartbeats 2000000
set_option maxRecDepth 100000
open Option renaming some->D
open List renaming length->Z
open Go renaming Ψ->E
open Bool renaming false->X
open Option renaming none->A
open Bool renaming true->Y
open Go renaming Ω->V
open Option renaming some->δ,none->ε,bind->σ
open Bool renaming true->ζ,false->η
open List renaming length->θ
open Decidable renaming decide->τ
namespace Go.Pm
open Go Go.Ab
noncomputable section

end
def xB(L:List EN)(p:Int)(l:List EN):Prop:=(l.Pairwise λx y=>x.1<y.1)/\∀x∈l,x∈L/\x.2.2.2.2.2.2.1.1=p
variable {a:List EN}{b i:Int}{c:AZ}{d:List AY}{e:AM}{f:List Ad}{g j:Nat}{h:List Int}
theorem xC{l:List EN}{e:EN}(hL:Uq a)(i:xB a b l)(Q:e∈a/\e.2.2.2.2.2.2.1.1=b)(h:θ l<=16777000):An (CD (l,e)) λr=>θ r.1<=θ l+1/\xB a b r.1/\∀y,y∈r.1↔y∈l\/y=e:=by
 have z:∀v∈l,An (Cu (v,e)) λr=>(r<0↔v.1<e.1)/\(r=0↔v.1=e.1):=λv S=>by have R:=(i.2 v S).2.trans Q.2.symm;unfold Cu;dsimp only;rw[F! o!,A!,beq_iff_eq.2 R,B!];refine AC (λm=>AB ⟨⟨λ_=>m,λ_=>g!⟩,⟨n!,λq=>o!⟩⟩) λm=>?_;rw[B!];exact AQ (λO=>AB ⟨⟨n!,λq=>o!⟩,⟨λ_=>O,λ_=>rfl⟩⟩) (λO=>AB ⟨⟨n!,λq=>o!⟩,⟨n!,λq=>N! q O⟩⟩)
 unfold CD;refine AA (P:=λ(v:Int)=>0<=v/\v<=θ l/\(∀x∈l.take v.toNat,x.1<e.1)/\∀x,l[v.toNat]?=δ x->¬x.1<e.1) ?_ λv S=>?_
 ·refine Cb (λ(s:Int)=>0<=s/\s<=θ l/\∀x∈l.take s.toNat,x.1<e.1) (λs=>((θ l:Int)-s).toNat) ⟨AX _,o!,λx d=>by simp at d⟩ (λs hI=>?_);have⟨U,i1,V⟩:=hI;unfold Gd;dsimp[len];refine AC (λo=>?_) (λo=>An.done ⟨U,i1,V,λx d=>by have:=Cd d;omega⟩);rw[AW];refine AA (AI U o) λK m=>AA (z K m.2) λc f=>AC (λq=>An.next ⟨o!,o!,λx d=>?_⟩ o!) (λq=>An.done ⟨U,i1,V,λx d=>?_⟩);rw[show(s+1).toNat=s.toNat+1 by omega,CI,m.1]at d;rcases Ao.1 d with w|w;exact V x w;rw[show x=K by simpa using w];exact f.1.1 q;rw[m.1]at d;rw[<-BH d];exact λw=>q (f.1.2 w)
 have⟨J,K,v2,v3⟩:=S;have al:∀x∈l.drop v.toNat,¬x.1<e.1:=λx d=>by have⟨k,t⟩:=HC.1 d;rw[Iu]at t;have G:=Cd t;have h0:l[v.toNat]?=δ (l[v.toNat]' o!):=As o!;have:=v3 _ h0;obtain _|k:=k;rw[Jz,h0]at t;rw[<-BH t];exact this;have:=(EU.1 i.1) v.toNat (v.toNat+(k+1)) o! G o!;rw[As G]at t;rw[<-BH t];omega
 have main:(∀x∈l.drop v.toNat,e.1<x.1)->An (σ (WJ l 0 v) λH=>
  σ (WJ l v (len l)) λI=>
  σ (app [] H) λg=>
  σ (app g ([e]:List (Int×(Int×(Int×(Int×(Int×(Int×((Int×(Int×((Bool×BV)×(Bool×BV))))×BV))))))))) λaf=>
  σ (app af I) λag=>
  δ (ag,ζ)) λr=>θ r.1<=θ l+1/\xB a b r.1/\∀y,y∈r.1↔y∈l\/y=e:=λF=>by
  refine AA (CA (AX _) J K) λZ B=>AA (CA J (by simp[len];omega) i!) λad N=>?_;have ao:=B.2;have W:=N.2;simp[len]at W;refine AA (Ac w!) λH C=>?_;have X_:=C.2.1;simp[CU]at X_;refine AA (Ac w!) λI D_=>?_;have Y_:=D_.2.1;simp[CU,Cg]at Y_;refine AA (Ac o!) λg E=>AB ?_;have ap:=E.2.1;have M:Z=l.take v.toNat:=by rw[B.1];simp
  have A_:g=l.take v.toNat++[e]++l.drop v.toNat:=by rw[E.1,D_.1,C.1,M,(by grind[List.take_of_length_le,List.length_drop]:ad=l.drop v.toNat),CY]
  dsimp only;have j:∀y,y∈g↔y∈l\/y=e:=λy=>by
   rw[A_];conv=>rhs;rw[<-De v.toNat l]
   grind[List.mem_singleton]
  refine⟨o!,⟨?_,λx d=>?_⟩,j⟩;rw[A_,A5,List.pairwise_append];refine⟨i.1.sublist (List.take_sublist _ _),?_,λx d y hy=>?_⟩;exact List.pairwise_cons.2 ⟨F,i.1.sublist (oU _ _)⟩;have:=v2 x d;rcases A1.1 hy with w|w;rw[w];exact this;have:=F y w;omega;rcases(j x).1 d with w|w;exact i.2 x w;rw[w];exact Q
 dsimp[len];refine AC (λo=>?_) (λo=>main λx d=>?_);refine AA (AI J o) λu n=>AA (z u n.2) λc f=>AQ (λT=>?_) (λT=>main λx d=>?_);refine AA (AI J o) λv6 _=>AB ⟨d!,i,λy=>?_⟩;have:u=e:=hL u (i.2 u n.2).1 e Q.1 (f.2.1 T);subst this;exact⟨.inl,λw=>w.elim id λw=>w▸n.2⟩;have p:=v3 _ n.1;have L:¬u.1=e.1:=λw=>T (f.2.2 w);have hd:l.drop v.toNat=u::l.drop (v.toNat+1):=by rw[Qv o!];rw[As o!]at n;rw[BH n.1]
 rw[hd]at d;have hs:=i.1.sublist (oU v.toNat l);rw[hd]at hs;rcases A1.1 d with w|w;rw[w];omega;have:=(List.pairwise_cons.1 hs).1 x w;omega;rw[Qx o!]at d;simp at d
theorem zC{j:Int}(hL:Uq a)(h:Src a b d):An (JE (d,b,i,j)) λr=>θ r<=1048576/\xB a b r/\∀y,y∈r↔∃q∈d,y∈q.2.2.2.2.2/\y.2.2.2.2.2.2.1.1=b/\i<y.1/\y.1<=j:=by
 have ad:=h.1;refine AA (P:=λr=>θ r<=1048576/\xB a b r/\∀y,y∈r↔∃q∈d,y∈q.2.2.2.2.2/\y.2.2.2.2.2.2.1.1=b/\i<y.1/\y.1<=j) ?_ λr hr=>AB hr;refine Cb (λ(s:List EN×Int)=>0<=s.2/\s.2<=θ d/\θ s.1<=4096*s.2/\xB a b s.1/\∀y,y∈s.1↔∃q∈d.take s.2.toNat,y∈q.2.2.2.2.2/\y.2.2.2.2.2.2.1.1=b/\i<y.1/\y.1<=j) (λs=>((θ d:Int)-s.2).toNat) ⟨AX _,d!,k!,⟨List.Pairwise.nil,λx hx=>by simp at hx⟩,λy=>k!⟩ ?_;rintro⟨A_,k⟩ ⟨R,i1,i2,K,J⟩;dsimp only at R i1 i2 K J;unfold Kf;dsimp[len];refine AC (λQ=>?_) (λQ=>An.done ⟨o!,K,λy=>by rw[J y,BK o!]⟩);refine AA (AI R Q) λu O=>?_;have⟨N,X_,g3,g4⟩:=h.2 u O.2;have hl:=N.1.2.2.2.2.2.2.2.2;refine AA (yh N) λc C=>?_;have G:=FT (λe:EN=>e.2.2.2.2.2.2.1.1==b) u.2.2.2.2.2;rw[<-C]at G;have H:∀y∈c,y∈a/\y.2.2.2.2.2.2.1.1=b:=λy I=>by rw[C]at I;exact⟨((X_.mem y).1 (BU.1 I).1).1,eq_of_beq (BU.1 I).2⟩
 refine AA (P:=λr=>θ r<=θ A_+θ c/\xB a b r/\∀y,y∈r↔y∈A_\/(y∈c/\i<y.1/\y.1<=j)) ?_ λr hr=>?_
 ·refine Cb (λ(s:List EN×Int)=>0<=s.2/\s.2<=θ c/\θ s.1<=θ A_+s.2/\xB a b s.1/\∀y,y∈s.1↔y∈A_\/(y∈c.take s.2.toNat/\i<y.1/\y.1<=j)) (λs=>((θ c:Int)-s.2).toNat) ⟨AX _,d!,d!,K,λy=>k!⟩ ?_;rintro⟨B,m⟩ ⟨o,j1,j2,l,M⟩;dsimp only at o j1 j2 l M;unfold Kg;dsimp[len];refine AC (λf=>?_) (λf=>An.done ⟨o!,l,λy=>by rw[M y,BK o!]⟩);refine AA (AI o f) λv n=>?_;rw[AW (x:=m+1)];have z:c.take (m+1).toNat=c.take m.toNat++[v]:=by rw[show(m+1).toNat=m.toNat+1 by omega,CI,n.1];rfl
  have g:¬(i<v.1/\v.1<=j)->∀y,y∈B↔y∈A_\/(y∈c.take (m+1).toNat/\i<y.1/\y.1<=j):=λhn y=>by grind[List.mem_singleton]
  refine AC (λE=>?_) (λE=>An.next ⟨d!,d!,d!,l,g λq=>o!⟩ d!);refine AA (AI o f) λT Y_=>?_;have V:T=v:=by have:=Y_.1;rw[n.1]at this;exact(BH this).symm
  subst V;refine AA (P:=λr=>θ r<=θ B+1/\xB a b r/\∀y,y∈r↔y∈A_\/(y∈c.take (m+1).toNat/\i<y.1/\y.1<=j)) ?_ λr hr=>An.next ⟨d!,d!,by have:=hr.1;dsimp only;omega,hr.2⟩ d!
  refine AC (λF=>?_) (λF=>AB ⟨o!,l,g λq=>o!⟩);refine AA (AI o f) λU Z=>?_;have W:U=T:=by have:=Z.1;rw[n.1]at this;exact(BH this).symm
  subst W;refine AA (xC hL l (H U n.2) o!) λv7 D_=>AB ⟨D_.1,D_.2.1,λy=>?_⟩;rw[D_.2.2 y,M y,z,Ao,A7];constructor;rintro((q|⟨p,L⟩)|q);exact .inl q;exact .inr ⟨.inl p,L⟩;exact .inr ⟨.inr q,by rw[q];omega⟩;rintro(q|⟨p|p,L⟩);exact .inl (.inl q);exact .inl (.inr ⟨p,L⟩);exact .inr p
 ·rw[AW];refine An.next ⟨d!,d!,by have:=hr.1;dsimp only;omega,hr.2.1,λy=>?_⟩ d!
  dsimp only;have z:d.take (k+1).toNat=d.take k.toNat++[u]:=by rw[show(k+1).toNat=k.toNat+1 by omega,CI,O.1];rfl
  rw[hr.2.2 y,J y,z,C,BU,J!];constructor;rintro(⟨q,p,L⟩|⟨⟨p,L⟩,t⟩);exact⟨q,Ff _ p,L⟩;exact⟨u,Mt _ (A7.2 rfl),p,L,t⟩;rintro⟨q,p,L,t,S⟩;rcases Ao.1 p with w|w;exact .inl ⟨q,w,L,t,S⟩;rw[A7.1 w]at L;exact .inr ⟨⟨L,t⟩,S⟩
def ADJ(h:θ d<=256):An (Kh (d,b)) λr=>r>=0->∃q∈d,q.1<=b/\b<=q.2.1:=by refine AA (P:=λr=>∀k,r=.inl k->∃q∈d,q.1<=b/\b<=q.2.1) ?_ λr hr=>A9 (λu j=>AB λ_=>hr u j) (λu _=>AB n!);refine Cb (λ(s:Int)=>0<=s/\s<=θ d) (λs=>((θ d:Int)-s).toNat) ⟨AX _,o!⟩ (λs i=>?_);obtain⟨f,p⟩:=i;unfold MJ;dsimp only[len];refine AC (λc=>?_) (λ_=>An.done λk a=>by cases a);rw[AW];refine AA (AI f c) λo m=>AC (λl=>AA (AI f c) λt g=>AC (λn=>An.done λk a=>⟨o,m.2,l,?_⟩) (λ_=>An.next o! o!)) (λ_=>An.next o! o!);have e:=g.1;rw[m.1]at e;rw[BH e];exact n
theorem AGF{e:EN}(h:θ a<=16777216)(d:e∈a):H9 (a,e)=δ ζ:=by
 suffices g:An (H9 (a,e)) λr=>r=ζ by obtain⟨r,hr,rfl⟩:=g;exact hr
 refine AA (P:=λr=>r=.inl ζ) ?_ λr hr=>by rw[hr];exact BG (AB rfl)
 refine Cb (λ(s:Int)=>0<=s/\s<=θ a/\e∈a.drop s.toNat) (λs=>((θ a:Int)-s).toNat) ⟨AX _,o!,d⟩ (λs c=>?_);have⟨i,k,b⟩:=c;unfold O8;dsimp[len];refine AC (λl=>?_) (λl=>by rw[Qx o!]at b;simp at b);rw[AW];refine AA (AI i l) λm j=>AJ (λ_=>An.done rfl) (λf=>An.next ⟨o!,o!,?_⟩ o!);grind[List.drop_eq_getElem_cons,List.getElem?_eq_getElem,Option.some.inj]
theorem AEn{A_ B:List EN}(U:Uq a)(V:Dd c)(R:xB a b A_)(S:xB a b B)(Q:θ d<=256)(h2:θ A_<=1048576)(h3:θ B<=4096)(m:∀y∈A_,c.1<=y.1->y.1<=c.1+θ c.2.1-1->y∈B)(n:∀y∈B,(∃q∈d,q.1<=y.1/\y.1<=q.2.1)->y∈A_):An (Lm (d,c,A_,B)) λr=>r.2=ζ/\θ r.1<=1052672/\xB a b r.1/\∀y,y∈r.1↔y∈A_\/y∈B:=by
 refine AA (Ac w!) λX_ O=>?_;have D_:=O.1;rw[CY]at D_;dsimp only at D_;subst X_;refine AA (P:=λr=>∃C,r=.inr C/\θ C<=θ A_+θ B/\xB a b C/\∀y,y∈C↔y∈A_\/y∈B) ?_ λr hr=>?_
 ·refine Cb (λ(s:List EN×Int)=>0<=s.2/\s.2<=θ B/\θ s.1<=θ A_+s.2/\xB a b s.1/\∀y,y∈s.1↔y∈A_\/y∈B.take s.2.toNat) (λs=>((θ B:Int)-s.2).toNat) ⟨AX _,d!,d!,R,λy=>k!⟩ ?_;rintro⟨C,k⟩ ⟨p,F,W,t,G⟩;dsimp only at p F W t G;unfold NU;dsimp[len];refine AC (λv=>?_) (λv=>An.done ⟨C,rfl,o!,t,λy=>by rw[G y,BK o!]⟩);refine AA (AI p v) λz h=>AA (ADJ Q) λv3 M=>?_;rw[AW (x:=k+1)];have et:B.take (k+1).toNat=B.take k.toNat++[z]:=by rw[show(k+1).toNat=k.toNat+1 by omega,CI,h.1];rfl
  have same:∀l,B[k.toNat]?=δ l/\l∈B->l=z:=λl e=>by have:=e.1;rw[h.1]at this;exact(BH this).symm
  have u:∀l,B[k.toNat]?=δ l/\l∈B->An (σ (CD (C,l)) λH=>δ (Step.next (H.1,k+1)):Option (Step (List EN×Int) ((List EN×Bool)⊕List EN))) (Ls (λ(s:List EN×Int)=>0<=s.2/\s.2<=θ B/\θ s.1<=θ A_+s.2/\xB a b s.1/\∀y,y∈s.1↔y∈A_\/y∈B.take s.2.toNat) (λs=>((θ B:Int)-s.2).toNat) ((θ B:Int)-k).toNat λr=>∃C,r=.inr C/\θ C<=θ A_+θ B/\xB a b C/\∀y,y∈C↔y∈A_\/y∈B):=λl e=>by
   have K:=same l e;subst K;refine AA (xC U t (S.2 l h.2) o!) λH E=>An.next ⟨d!,d!,by have:=E.1;dsimp only;omega,E.2.1,λy=>?_⟩ d!
   grind[List.mem_singleton]
  refine AC (λo=>AA (AI p v) λY_ N=>?_) (λ_=>AA (AI p v) λl e=>u l e);rw[same Y_ N,AGF o! (n z h.2 (M o)),AD,Ca,A!];grind[AA,AI]
 ·obtain⟨C,rfl,Z,J,I⟩:=hr;refine Av (AA (P:=λr=>r=.inr ()) ?_ λr hr=>by rw[hr];exact Av (AB ⟨rfl,d!,J,I⟩));refine Cb (λ(s:Int)=>0<=s/\s<=θ A_) (λs=>((θ A_:Int)-s).toNat) ⟨AX _,o!⟩ (λs T=>?_);have⟨p,F⟩:=T;unfold NV;dsimp[len];refine AC (λv=>?_) (λ_=>An.done rfl);rw[AW];refine AA (AI p v) λw L=>?_;rw[wQ V,AD];refine AC (λf=>AA (AI p v) λg j=>?_) (λ_=>An.next o! o!);have i:g=w:=by have:=j.1;rw[L.1]at this;exact(BH this).symm
  subst i;rw[AGF o! (m g L.2 f.1 f.2),AD,Ca,A!];exact An.next o! o!
theorem ABe{j:Int}(L:Src a b d)(l:Dd c)(D_:0<=i)(k:i<=1099511627776)(m:i<=j):An (Jw ((d,h,c),i,j)) λp=>p=ζ↔∀q,i<q->q<=j->U1 d c q:=by
 have z:∀q,U1 d c q->q<=1099511631872:=λq o=>by have A_:=l.2.1;have B:=l.2.2.1;rcases o with⟨r,x,_,y⟩|⟨_,y⟩;have:=(L.2 r x).1.1.2.2.1;omega;omega
 refine AA (P:=λr=>(r=.inl η/\∃q,i<q/\q<=j/\¬U1 d c q)\/(r=.inr ()/\∀q,i<q->q<=j->U1 d c q)) ?_ λr hr=>?_
 ·refine Cb (λ(s:Int)=>i<=s/\s<=1099511631872/\∀q,i<q->q<=s->U1 d c q) (λs=>(1099511631872-s).toNat) ⟨AX _,q!,λq e w=>q!⟩ (λs f=>?_);have⟨E,F,u⟩:=f;unfold LA;dsimp only;refine AC (λg=>?_) (λg=>An.done (.inr ⟨rfl,λq e w=>u q e o!⟩));rw[AW];refine AA (ADf L l o!) λv t=>AQ (λC=>An.done (.inl ⟨rfl,s+1,o!,o!,t.2.2.2 o!⟩)) (λn=>?_);grind[An.next]
 grind[AB]
theorem AHq{p i j:Int}(hL:LI b a)(hN:He a)(h:AR a e)(d:S9 a c)(E:0<=i)(U:i<=1099511627776)(F:i<=j)(o:0<=p/\p<e.2.1):∃n E,Sn e p n E/\(((∀q,i<q->q<=j->fT e c n q)/\FM (e,c,p,i,j)=δ (a.filter (J6 p i j),0))\/((¬ ∀q,i<q->q<=j->fT e c n q)/\FM (e,c,p,i,j)=δ ([],42))):=by
 have f:=d.sorted;have hU:Uq a:=λx Y_ y v K=>Ue (by refine Jy.2 ((QQ).2 (f.imp λh=>?_));omega) Y_ v K;obtain⟨v1,e1,M,n,hh,W,rfl,ag,hM,g⟩:=tj (l:=c) h o;refine⟨n,hh,W,?_⟩;have D_:(∀q,i<q->q<=j->U1 (M.map (·.1)) c q)↔∀q,i<q->q<=j->fT e c n q:=⟨λw q L l=>(AAn hM q).1 (w q L l),λw q L l=>(AAn hM q).2 (w q L l)⟩
 suffices hs:An (FM (e,c,p,i,j)) λr=>((∀q,i<q->q<=j->fT e c n q)/\r=(a.filter (J6 p i j),0))\/((¬ ∀q,i<q->q<=j->fT e c n q)/\r=([],42)) by obtain⟨r,hr,q|q⟩:=hs;exact .inl ⟨q.1,by rw[hr,q.2]⟩;exact .inr ⟨q.1,by rw[hr,q.2]⟩
 unfold FM;rw[AFo h.vb d.vl o E F,AD,H!,A!];dsimp only;rw[e1,AD];refine AA (ABe g d.vl E U F) λv2 h2=>AO (λhf=>AB (.inr ⟨λw=>?_,rfl⟩)) (λC=>?_);rw[h2.2 (D_.2 w)]at hf;cases hf;have u:=h2.1 C;refine AA (zC hU g) λv3 h3=>AA (yH d.vl) λv4 B=>?_;have⟨a1,a2,a3⟩:=h3;have t:∀y,J6 p i j y=ζ->ZK y=ζ/\y.2.2.2.2.2.2.1.1=p/\i<y.1/\y.1<=j:=λy X_=>by unfold J6 at X_;simp[BN,K!,J!]at X_;exact X_
 have H:∀y,ZK y=ζ->y.2.2.2.2.2.2.1.1=p->i<y.1->y.1<=j->J6 p i j y=ζ:=λy Q R I J=>by grind[J6]
 have hB:xB a p v4:=by rw[B];refine⟨d.vl.sorted.filter _,λx Y_=>?_⟩;have⟨x1,x2⟩:=BU.1 Y_;exact⟨((d.tail x).1 x1).1,(t x x2).2.1⟩
 have m:θ v4<=4096:=by rw[B];exact C9 (FT _ _) d.vl.2.2.1
 refine AA (AEn hU d.vl a2 hB g.1 a1 m (λy v g1 A_=>?_) (λy v N=>?_)) λz h5=>?_;have⟨q,L,l,G,Z,q5⟩:=(a3 y).1 v;have N:=((g.2 q L).2.1.mem y).1 l;rw[B];exact BU.2 ⟨(d.tail y).2 ⟨N.1,g1,A_⟩,H y N.2.1 G Z q5⟩;rw[B]at v;have⟨y1,y2⟩:=BU.1 v;have⟨Q,R,I,J⟩:=t y y2;have⟨q,L,l,G⟩:=N;have⟨_,A_,g3,g4⟩:=g.2 q L;exact(a3 y).2 ⟨q,L,(A_.mem y).2 ⟨((d.tail y).1 y1).1,Q,o!,o!,l,G⟩,R,I,J⟩;have⟨u0,u1,u2,u3⟩:=h5;rw[u0,Ca,A!];have K:z.1=a.filter (J6 p i j):=jz u2.1 (f.filter _) λy=>by rw[u3 y,a3 y,B,BU,BU];constructor;rintro(⟨q,L,l,G,Z,q5⟩|⟨L,l⟩);have:=((g.2 q L).2.1.mem y).1 l;exact⟨this.1,H y this.2.1 G Z q5⟩;exact⟨((d.tail y).1 L).1,l⟩;rintro⟨L,l⟩;have⟨Q,R,I,J⟩:=t y l;rcases u y.1 I J with⟨r,O,r2,r3⟩|⟨O,r2⟩;have⟨_,A_,g3,g4⟩:=g.2 r O;exact .inl ⟨r,O,(A_.mem y).2 ⟨L,Q,o!,o!,r2,r3⟩,R,I,J⟩;exact .inr ⟨(d.tail y).2 ⟨L,O,r2⟩,l⟩
 have k:=uh (p:=p) (j:=j) hL f E;rw[<-K]at k;refine AA (P:=λr=>r=.inr ()) ?_ λr hr=>by rw[hr];exact Av (AB (.inl ⟨D_.1 u,by rw[K]⟩))
 refine Cb (λ(s:Int)=>0<=s/\s<=θ z.1) (λs=>((θ z.1:Int)-s).toNat) ⟨AX _,o!⟩ (λs hI=>?_);have⟨s0,s1⟩:=hI;unfold Ps;dsimp[len];refine AC (λu=>?_) (λu=>An.done rfl);rw[AW (x:=s+1)];have nx:An (δ (Step.next (s+1)):Option (Step Int ((List EN×Int)⊕Unit))) (Ls (λ(s:Int)=>0<=s/\s<=θ z.1) (λs=>((θ z.1:Int)-s).toNat) ((θ z.1:Int)-s).toNat λr=>r=.inr ()):=An.next o! o!
 apply AQ<;>intro hz;refine AA (AI s0 u) λv7 g7=>AC (λal=>?_) (λ_=>AC (λo=>N! o o!) (λ_=>nx));have:=(k s.toNat v7 g7.1).1 o!;omega;refine AC (λo=>?_) (λo=>N! o o!);rw[AW];refine AA (AI s0 u) λad S=>AA (AI) λaf T=>AK (λV=>N! ((k s.toNat ad S.1).2 af o! ?_) V) (λ_=>nx);rw[show s.toNat-1=(s-1).toNat by omega];exact T.1
noncomputable section
def UY(x:List Int×Int):Lp Int Int:=λa=>bif a<len x.1 then(ix x.1 a).bind λb=>bif b<x.2 then δ (.next (wi (a+1)))else δ (.done a)else δ (.done a)
def Wq(x:List Int×Int):Option (List Int):=(Aa (UY x) 0).bind λa=>letI l:=WJ x.1 a (len x.1);bif a<len x.1 then(ix x.1 a).bind λb=>bif b==x.2 then δ x.1 else(WJ x.1 0 a).bind λc=>l.bind λd=>(app [] c).bind λe=>(app e [x.2]).bind λf=>(app f d).bind λg=>δ g else(WJ x.1 0 a).bind λh=>l.bind λi=>(app [] h).bind λj=>(app j [x.2]).bind λk=>(app k i).bind λm=>δ m
def Tk(x:AM×AZ×Int×Int×Int)(a:GH)(b:Int×Int):Lp (List Int×Int) (List Int):=letI k:=x.2.2.2;λc=>bif c.2<len a.1 then(ix a.1 c.2).bind λd=>letI j:=if(k.2<d.2.1)then k.2 else d.2.1;letI i:=(if(wi (k.1+1)>d.1)then wi (k.1+1)else d.1);(bif b.1>0 then bif i<=(if(wi (b.1-1)<j)then wi (b.1-1)else j)then δ ζ else δ (τ ((if(wi (b.2+1)>i)then wi (b.2+1)else i)<=j))else δ (τ (i<=j)):Option Bool).bind λe=>(bif e then(ix a.2.1 c.2).bind λf=>(Wq (c.1,f)).bind λg=>δ g else δ c.1).bind λh=>δ (.next (h,wi (c.2+1)))else δ (.done c.1)
def Qq(x:AM×AZ×Int×Int×Int):Option (List Int×Int×Int×Int):=letI i:=x.2.1;letI h:=x.2.2.2;letI f:=(if(i.1>wi (h.1+1))then i.1 else wi (h.1+1));letI e:=(wi ((wi (i.1+len i.2.1))-1));letI g:=if(e<h.2)then e else h.2;(FM x).bind λa=>bif a.2 !=0 then δ ([],0,0,a.2)else(JF (x.1,i,x.2.2.1)).bind λb=>(bif f>g then δ (0,0)else δ (f,g):Option (Int×Int)).bind λc=>(Aa (Tk x b c) ([],0)).bind λd=>δ (d,c.1,c.2,0)
end
noncomputable section

end
theorem AEr(d:θ h<=100000):An (Wq (h,b)) λr=>θ r<=θ h+1:=by
 refine AA (P:=λ(r:Int)=>0<=r/\r<=θ h) ?_ λr hr=>?_
 ·refine Cb (λ(t:Int)=>0<=t/\t<=θ h) (λt=>θ h-t.toNat) ⟨AX _,o!⟩ ?_;rintro t ⟨i,j⟩;unfold UY;dsimp[len];refine AC (λf=>AA (AI i f) λv _=>?_) (λf=>An.done ⟨i,j⟩);rw[AW (x:=t+1)];exact AC (λ_=>An.next o! o!) (λ_=>An.done ⟨i,j⟩)
 have⟨g,k⟩:=hr;have e:An (σ (WJ h 0 r) λl=>σ (WJ h r (len h)) λm=>σ (app [] l) λn=>σ (app n ([b]:List Int)) λo=>σ (app o m) λp=>δ p) λr=>θ r<=θ h+1:=by refine AA (CA (AX _) g k) λa q=>AA (CA g q! q!) λc s=>?_;grind[AA,Ac,List.length_nil,List.length_singleton,AB]
 dsimp only;exact AC (λf=>AA (AI g q!) λv _=>AQ (λ_=>AB o!) (λ_=>e)) (λf=>e)
theorem ACi{d:List EN}{k:Int}(h:AR a e)(n:0<=b/\b<e.2.1)(p:FM (e,c,b,i,k)=δ (d,0)):An (Qq (e,c,b,i,k)) λ_=>True:=by
 unfold Qq;rw[p,AD,H!,A!];refine AA (tj (l:=c) h n) λw L=>?_;obtain⟨M,v,t,_,rfl,_,_,f⟩:=L;have q:θ M<=256:=by have:=f.1;rwa [B7]at this
 refine AA (P:=λ_=>True) (AC (λ_=>AB trivial) (λ_=>AB trivial)) λy _=>AA (P:=λ_=>True) (Cb (λ(s:List Int×Int)=>∃j:Nat,s.2=j/\j<=θ M/\θ s.1<=j) (λs=>θ M-s.2.toNat) ⟨0,rfl,Bo _,Ai _⟩ ?_) λA_ _=>AB trivial;rintro⟨o,_⟩ ⟨j,rfl,u,p⟩;unfold Tk;dsimp[len];have m:(M.map (·.1)).length=θ M:=B7 _;have l:(M.map (·.2)).length=θ M:=B7 _;refine AC (λg=>?_) (λg=>An.done trivial);rw[AGJ (l:=M.map (·.1)) (show j<_ by omega),AD,AW (x:=(j:Int)+1)];refine AA (P:=λ_=>True) (AC (λ_=>AC (λ_=>AB trivial) (λ_=>AB trivial)) (λ_=>AB trivial)) λz _=>AA (P:=λr=>θ r<=j+1) ?_ λr hr=>An.next ⟨j+1,rfl,o!,hr⟩ q!
 rw[AGJ (l:=M.map (·.2)) (show j<_ by omega),AD];grind[AA,AEr,AB]
theorem ACc{p v F f:Int}{j k:Nat}(x:LI b a)(L:He a)(g:AR a e)(o:S9 a c)(R:k<=θ a)(h:0<=p/\p<e.2.1)(l:p<64)(K:Sn e p v F)(B:rN (fT e c v) k f)(u:BQ (a.take j) p<=k):An (Mm (st (a.take j) p,e,c,(k:Int))) λr=>(f<=BQ (a.take j) p/\r=(st (a.take k) p,0)/\An (Qq (e,c,p,BQ (a.take j) p,(k:Int))) λ_=>True)\/(¬f<=BQ (a.take j) p/\r.2≠0):=by
 have y:=o.len;have⟨i,n,w,A_⟩:=AEK L u;rw[<-w,<-A_];rw[<-w]at u;have H:=Sj L p i;have I:=XJ (L.take i) p;rw[BJ]at I;have⟨J,G,M,t⟩:=AHq x L g o (i:=BQ (a.take i) p) (j:=(k:Int)) H o! u h;have s:=K.uniq g.vb.1 rfl rfl M;subst s;have E:(∀q,BQ (a.take i) p<q->q<=k->fT e c v q)↔f<=BQ (a.take i) p:=by have⟨N,O,P,Q⟩:=B;grind
 refine AA OL λT C=>AO (λd=>N! (C.2 g.vb) (by simp[d])) (λ_=>AA BP λU D_=>AO (λd=>N! (D_.2 o.vl) (by simp[d])) (λ_=>?_));rw[Vt ((WG L ⟨h.1,l⟩ (by omega:θ a<=1099511627776)) i),AD];refine AK (λd=>N! rfl d) (λ_=>?_);dsimp only;rw[J5,Sb,F! o!,A!];rcases t with⟨z,m⟩|⟨z,m⟩;have S:=ACi g h m;rw[m,AD];dsimp only;rw[H!,A!,show a.filter (J6 p (BQ (a.take i) p) k)=((a.take k).drop i).filter (Yp p) by
  rw[show BQ (a.take i) p=(((BQ (a.take i) p).toNat:Nat):Int) by omega,w6 L o!,kS L (j:=i) o! (Vi L)],xF (tP L x ⟨h.1,l⟩ o! i k n) (by
  have:=FT (Yp p) ((a.take k).drop i);rw[EY,BJ]at this;omega),<-gV n,AD]
 grind[AB];grind[AB]
def AHs{b:Ak}{x:Int}(h:CX b)(i:x<=1000/\ -1000<=x):An (K2 b x) λr=>CX r.2.2/\1<=r.1/\r.1<=4/\Dd r.2.1/\LI r.1 r.2.1.2.1:=by unfold K2;refine AA (OO h i) λn f=>?_;obtain⟨c,j,k,l,d,m⟩:=f;refine AA GR λo g=>?_;have e:=g d;refine AA (Jk.and (rK d d!)) λp a=>AB ⟨c,j,k,(a.1 a.2).1,by have:=l;rw[<-(a.1 a.2).2.1]at this;exact this⟩
def AEk{x:AM×AZ×Int}(h:∀e∈a,ZK e=ζ->e.2.2.2.2.2.2.1.1<x.1.2.1)(n:θ a<=4096)(z:AM):An (Aa (HU x a) (0,z)) λr=>∃u,r=.inr u:=by
 refine Cb (λ(s:Int×AM)=>0<=s.1/\s.1<=θ a) (λs=>((θ a:Int)-s.1).toNat) ⟨AX _,d!⟩ ?_;rintro⟨i,s⟩ ⟨g,m⟩;dsimp only at g m;unfold HU;dsimp only[len];refine AC (λb=>?_) (λ_=>An.done ⟨_,rfl⟩);rw[AW];refine AA (AI g b) λv j=>?_;have d:ZK v=ζ->∀w:EN,a[i.toNat]?=δ w->¬w.2.2.2.2.2.2.1.1>=x.1.2.1:=λb w f=>by have e:=j.1;rw[f]at e;rw[BH e];have:=h v j.2 b;omega
 have l:An (δ (Step.next (i+1,s)):Option (Step (Int×AM) ((Int×AM)⊕AM))) (Ls (λ(s:Int×AM)=>0<=s.1/\s.1<=θ a) (λs=>((θ a:Int)-s.1).toNat) ((θ a:Int)-i).toNat λr=>∃u,r=.inr u):=An.next d! d!
 refine AQ (λq=>?_) (λ_=>AA (AI g b) λo k=>AQ (λq=>?_) (λ_=>l));exact AA (AI g b) λw f=>AC (λc=>N! c (d (ZL.2 (.inl q)) w f.1)) (λ_=>l);have e:=k.1;rw[j.1]at e;rw[<-BH e]at q;exact AA (AI g b) λw f=>AC (λc=>N! c (d (ZL.2 (.inr q)) w f.1)) (λ_=>l)
def AAV{n:Int}(h:1<=n/\n<=64):EE (n,([0]:List Int))=δ (([0],n,[],1,1),0):=by unfold EE;have⟨v,b,a⟩:=Xm (x:=(n,([0]:List Int)));rw[b,AD,a.2 (bd0 h),Ca,A!];rfl
def hi0(h:1<=b/\b<=64){a:AM}(n:a.1=[0])(c:a.2.1=b):nl a 0=b-1:=by unfold nl;rw[n,c];rfl
def ACg(h:Dd c)(j:c.1=1)(H:c.2.2=θ c.2.1)(A_:LI b c.2.1)(hn:1<=b/\b<=64)(B:VB (([0],b,[],1,1):AM)):An (ER (([0],b,[],1,1),c,4096)) λr=>r.2=0/\r.1.1=[0]/\r.1.2.1=b/\r.1.2.2.2.1=c.2.2+1:=by
 have G:=h.num j;have⟨l1,l2,O,l4,l5,l6⟩:=id h;unfold ER;refine AA OL λv0 D_=>AO (λd=>N! (D_.2 B) (by simp[d])) (λ_=>AA BP λv1 o=>AO (λd=>N! (o.2 h) (by simp[d])) (λ_=>?_));dsimp only;have y:(if c.1>(1:Int)then c.1 else 1)=1:=by rw[j];rfl
 have z:(if c.2.2<wi (wi (1+4096)-1)then c.2.2 else wi (wi (1+4096)-1))=c.2.2:=by rw[(by decide+kernel:wi (wi (1+4096)-1)=4096)];split<;>omega
 rw[y,z];refine AC n! (λ_=>AC n! (λ_=>AC (λl=>AB ⟨rfl,rfl,rfl,d!⟩) (λX_=>AC (λl=>N! l (by decide+kernel)) (λ_=>AC (λl=>N! l (by decide+kernel)) (λ_=>?_)))));rw[j,(by decide+kernel:wi ((1:Int)-1)=0),AW (x:=c.2.2-1),AW (x:=c.2.2-1+1),AW (x:=c.2.2+1)];refine AA (CA (AX _)) λW E=>?_;have C:W=c.2.1:=by rw[E.1];show(List.take ((c.2.2-1+1).toNat-0) (List.drop 0 c.2.1))=c.2.1;rw[VV,BK o!]
 subst C;refine AA (AEk (λe t d=>?_) O _) λv8 F=>?_;obtain⟨i,I⟩:=Ci t;exact((A_ i e I).1 (ZL.1 d)).2.2;obtain⟨u,rfl⟩:=F;refine Av (AA (Ac k!) λT p=>?_);have f:=p.1;rw[CY]at f;subst f;refine AA (P:=λr=>∃u,r=.inr u/\u.2.1=[0]/\u.2.2.1=b) ?_ λr hr=>?_
 ·refine Cb (λ(s:Int×List Ad×List Int×Int×Int×Int×AM)=>0<=s.1/\s.1<=1/\θ s.2.1<=s.1/\s.2.2.1=[0]/\s.2.2.2.1=b) (λs=>(1-s.1).toNat) ⟨AX _,u!,u!,rfl,rfl⟩ ?_;rintro⟨k,Z,bs,m,a,n,l⟩ ⟨L,M,N,v,w⟩;dsimp only at L M N v w;unfold Ju;dsimp only;rw[y,z];refine AC (λd=>?_) (λd=>An.done ⟨_,rfl,v,w⟩);have J:k=0:=by simp[len]at d;omega
  subst J;rw[show D8 ((([0],b,[],1,1):AM),(0:Int))=δ (0,b-1) by have:=ik (a:=([0],b,[],1,1)) B.1 (i:=0) (lo:=0) rfl;rw[hi0 hn rfl rfl]at this;exact this,AD];dsimp only;rw[H];refine AA ((ACU A_ G o! hn).and (ACV h.uq (λe t=>t) o!)) λU g=>AK (λd=>N! g.1 d) (λK=>?_);have⟨Q,Y_,m2,m3⟩:=g.2 K;rw[ph Q,AD];refine AA (Ac w!) λV q=>?_;rw[(by decide+kernel:wi ((0:Int)+1)=1)];exact An.next ⟨u!,u!,by dsimp only;rw[q.1];simp;omega,v,w⟩ u!
 obtain⟨u,rfl,R,S⟩:=hr;exact Av (AB ⟨rfl,R,S,rfl⟩)
noncomputable section

end
theorem AIU{a:Type}{l:List a}{f:a->Ad}{body:Int×List Ad->Option (Step (Int×List Ad) (List Ad))}{A_:List Ad}(p:θ l+θ A_<=16777216)(h:∀(s:Int)(B:List Ad)(v:a),s<θ l->ix l s=δ v->body (s,B)=σ (app B [f v]) λw=>δ (.next (wi (s+1),w)))(o:∀(s:Int)(B:List Ad),¬s<θ l->body (s,B)=δ (.done B)):Aa body (0,A_)=δ (A_++l.map f):=by
 suffices g:An (Aa body (0,A_)) λr=>r=A_++l.map f by obtain⟨r,hr,rfl⟩:=g;exact hr
 refine Cb (λ(s:Int×List Ad)=>0<=s.1/\s.1<=θ l/\s.2=A_++(l.take s.1.toNat).map f) (λs=>((θ l:Int)-s.1).toNat) ⟨AX _,d!,k!⟩ ?_;rintro⟨i,B⟩ ⟨c,m,d⟩;dsimp only at c m d;by_cases b:i<θ l
 ·have⟨v,j,e,_⟩:=AI c b;have n:θ B<=θ A_+i.toNat:=by grind[List.length_append,List.length_map,List.length_take]
  rw[h i B v b j,AW];refine AA (Ac w!) λw k=>An.next ⟨d!,d!,?_⟩ d!
  dsimp only;rw[k.1,d,show(i+1).toNat=i.toNat+1 by omega,CI,e];simp
 ·grind[An.done,List.take_of_length_le]
def ACS{s:Int}(J:LI b a)(k:He a)(x:AR a e)(z:S9 a c)(K:j<=a.length)(R:(g:Int)=e.2.1)(hn:1<=g/\g<=64)(S:1<=s/\s<=1073741824)(Q:(j:Int)<=c.2.2)(d: ∀p h y,Sn e p h y-> ∀q:Int,0<q->q<=j->fT e c h q):An (HV ((1,((g:Int),MK (a.take 0) g)),(e,(c,(s,(j:Int)))))) λr=>r.2=0:=by
 have B:=z.len;unfold HV;rw[ABI k (by omega) (by decide) hn,AD,Ca,cond_false];refine AA OL λT v=>AO (λd=>absurd (v.2 x.vb) (by simp[d])) (λ_=>?_);refine AA BP λU G=>AO (λd=>absurd (G.2 z.vl) (by simp[d])) (λ_=>?_);dsimp only;refine AC (λm=>absurd m (by omega)) (λ_=>AC (λm=>absurd m (by omega)) (λ_=>AC (λm=>absurd m (by omega)) (λ_=>AC (λm=>absurd m (by omega)) (λ_=>?_))));refine AA (P:=λr=> ∃u,r= .inr u) ?_ λr hr=>by obtain⟨u,rfl⟩:=hr;exact Av (AB rfl)
 refine Cb (λ(t:Int×List C8×Int×Int×A0)=>0<=t.1/\t.1<=g/\t.2.1.length<=t.1) (λt=>((g:Int)-t.1).toNat) ⟨AX _,by dsimp only;omega,by simp⟩ ?_;rintro⟨i,o,t⟩ ⟨l,M,N⟩;dsimp only at l M N;unfold OH;dsimp only;rw[dL];refine AC (λf=>?_) (λ_=>An.done ⟨_,rfl⟩);have E:(dd (st (a.take 0) i)).1=i:=Sb _ _;have C:BQ (a.take 0) i=0:=rfl;rw[YQ l f,AD,E,ADr k (by omega) (by decide) hn ⟨l,f⟩,AD];obtain⟨h,y,_,D_⟩:=rO x.vb (p:=i) ⟨l,by omega⟩;refine AA (ACc J k x z K ⟨l,by omega⟩ (by omega) D_ ⟨AX _,by omega,d i h y D_,.inl rfl⟩ (j:=0) (by rw[C];omega)) λO H=>?_;have F:O=(st (a.take j) i,0):=by rcases H with⟨_,L,_⟩|⟨w,_⟩;exact L;exact absurd (by rw[C];exact AX _) w
 rw[F];refine AK (λA_=>absurd rfl A_) (λ_=>?_);refine AA (P:=λ_=>True) (AC (λ_=>?_) (λ_=>AB trivial)) λV _=>AA (Ac (by simp;omega)) λW I=>?_;rw[Vt ((WG k ⟨l,by omega⟩ (by omega:a.length<=1099511627776)) j),AD];exact AB trivial
 ·rw[AW];exact An.next ⟨by dsimp only;omega,by dsimp only;omega,by dsimp only;rw[I.1];simp;omega⟩ (by dsimp only;omega)
def AEa(h:Dd c)(m:c.1=1)(n:c.2.2=θ c.2.1):KB (c,wi (c.2.2+1))=δ ((c.2.2+1,[],c.2.2),0):=by
 suffices g:An (KB (c,wi (c.2.2+1))) λr=>r=((c.2.2+1,[],c.2.2),0) by obtain⟨r,hr,rfl⟩:=g;exact hr
 obtain⟨a1,a2,a3,a4,a5,a6⟩:=id h;have e:=AW (x:=c.2.2+1);rw[e];unfold KB;refine AA BP λv i=>AO (λa=>N! (i.2 h) (by simp[a])) (λ_=>AC (λa=>N! a d!) (λ_=>AA EM λj b=>?_));rw[h.last]at b;dsimp only at b⊢;rw[e,AW (x:=j+1),AW (x:=c.2.2+1-c.1)];refine AC (λa=>N! a o!) (λ_=>AC (λa=>N! a o!) (λ_=>AC (λa=>N! a o!) (λ_=>AA (CA o! i! i!) λk d=>?_)));have l2:=d.2;simp only[len]at l2;have l:k=[]:=av.1 o!;subst l;exact AA (Ac k!) λo f=>AB (by rw[f.1];rfl)
def AGz(h:Dd c)(l:c.1=1)(f:c.2.2=θ c.2.1)(L:S9 a c)(d:c.2.2+1<=1099511627776):S9 a (c.2.2+1,[],c.2.2):=by obtain⟨a1,a2,a3,a4,a5,a6⟩:=id h;refine⟨⟨d!,d!,Bo _,d!,by dsimp only;simp,λi e b=>by simp at b⟩,L.sorted,λe=>?_,L.len⟩;dsimp only;simp only[CU,lm,false_iff];omega
def AFS{a:AM×Int}(h:θ a.1.2.2.1<=256):Aa (GM a) (0,[])=δ (a.1.2.2.1.map λf=>((1,f.2.1,[]):Ad)):=by
 rw[AIU (l:=a.1.2.2.1) (f:=λf=>((1,f.2.1,[]):Ad)) w! (λs B v c b=>by
  unfold GM;dsimp only;rw[G! (show s<len a.1.2.2.1 from c),B!,b,AD]) (λs B c=>by
  unfold GM;dsimp only;rw[F! (show¬s<len a.1.2.2.1 from c),A!])]
 rfl
theorem AFG{f:Int×AZ×Ak}{a:A0×Int}(h:θ a.1.2.2<=64):An (Aa (Ix f a) (0,ζ)) λr=>r=ζ↔∀c∈a.1.2.2,c.2.1=f.2.1.2.2:=by
 refine Cb (λ(s:Int×Bool)=>0<=s.1/\s.1<=θ a.1.2.2/\(s.2=ζ↔∀c∈a.1.2.2.take s.1.toNat,c.2.1=f.2.1.2.2)) (λs=>((θ a.1.2.2:Int)-s.1).toNat) ⟨AX _,d!,k!⟩ ?_;rintro⟨i,b⟩ ⟨k,n,d⟩;dsimp only at k n d;unfold Ix;dsimp only[len];refine AC (λe=>?_) (λe=>An.done (by rw[BK o!]at d;exact d));have⟨v,m,l,o⟩:=AI k e;have j:a.1.2.2.take (i+1).toNat=a.1.2.2.take i.toNat++[v]:=by rw[show(i+1).toNat=i.toNat+1 by omega,CI,l];rfl
 rw[AW];apply AJ<;>intro g
 ·rw[m,AD];refine An.next ⟨d!,d!,?_⟩ d!
  dsimp only;rw[j,J!];have:=d.1 g;grind[List.mem_singleton]
 ·refine An.next ⟨d!,d!,?_⟩ d!
  dsimp only;rw[j];refine⟨n!,λq=>?_⟩;have:=d.2 λc e=>q c (Ff _ e);rw[g]at this;cases this
def rN.flat{P:Int->Prop}(h:rN P b i)(c:∀q,q<=b->¬P q):i=b:=by have⟨d,e,k,f⟩:=h;exact TD λhn=>c b (AX _) (k b o! (AX _))
def nw{L:List EN}(t:VB e)(s:0<=i/\i<e.2.1)(o:e.2.2.1=[])(r:c.2.1=[]):OKp L b g e c f j i↔(j:Int)=0\/∃x,WM L b g f (θ f) x/\pr x i=j:=by
 have hn:∀k q,¬fT e c k q:=λk q h=>by rcases h with h|⟨a,p,_⟩;rw[r]at h;simp at h;omega;rw[show F9 e=[] by simp[F9,o]]at p;cases p
 constructor;rintro⟨k,m,v,d,n,h⟩;have a:=n.flat λq _=>hn k q;rcases h with h|⟨x,l,u,z⟩;exact .inl o!;exact .inr ⟨x,l,o!⟩;intro h;obtain⟨k,m,_,d⟩:=rO t s;refine⟨k,m,j,d,⟨o!,AX _,λq w y=>o!,.inr (hn k j)⟩,?_⟩;rcases h with h|⟨x,l,u⟩;exact .inl h;exact .inr ⟨x,l,o!⟩
def AFW(L:VB e)(h:0<=i/\i<e.2.1)(m:AF e)(s:(j:Int)<e.2.2.2.1):OKp a b g e c f j i:=by obtain⟨l,p,_,k⟩:=rO L h;have⟨d,n,_⟩:=id k;exact⟨l,p,0,k,⟨AX _,o!,λq o r=>.inr (m l (BM n) q o! o!),.inl rfl⟩,.inl rfl⟩
def uB{x:List Int}(h:∀c∈x,0<=c/\c<256):An (KQ x) λr=>r=ζ:=by
 unfold KQ;rw[AEt,AD,Ca,A!];refine AA (ACz h) λv2 O=>AA ((AHs O (x:=20) o!).and (y0 O (x:=20) o!)) λo h3=>?_;obtain⟨⟨c0,n1,n2,I,Z⟩,f1,Y_⟩:=h3;have a0:=I.2.2.1;have C:=I.num Y_;have z:o.2.1.2.2=θ o.2.1.2.1:=o!
 obtain⟨m,hm⟩:=FC (show 0<=o.1 by omega);generalize a:o.2.1.2.1=L at*;have u:S9 L o.2.1:=by rw[<-a];exact ga I
 have hb:=bd0 (n:=o.1) ⟨n1,o!⟩;rw[AAV ⟨n1,o!⟩,AD];have⟨w,hw,z1,z2,z3,z4,_⟩:=ACb (L:=L) (x:=(o.1,[0])) hb;rw[AAV ⟨n1,o!⟩]at hw;cases hw;have z7:AF (([0],o.1,[],1,1):AM):=λJ _ q q1 q2=>by dsimp only at q2;omega
 refine AA ((ACg I Y_ (by rw[a];exact z) (by rw[a];exact Z) ⟨n1,o!⟩ z1.vb).and (AEl (x:=(([0],o.1,[],1,1),o.2.1,4096)) (by rw[a];exact z1) I z4)) λg h5=>?_;obtain⟨⟨s0,s1,s2,s3⟩,h5⟩:=h5;have⟨a1,a2,a3,_,_,_,a7⟩:=h5 s0;dsimp only at a1 a2 a3 a7;rw[a]at a1 a7;have ag:=a2 z2;have rc:RC g.1 12:=λJ=>C9 (a3 0 z3 J) g!;have af:=a7 C z7;have Q:∀p J D_,Sn g.1 p J D_->∀q:Int,0<q->q<=(θ L:Int)->fT g.1 o.2.1 J q:=λp J D_ t q q1 q2=>by have⟨i,i1,_⟩:=id t;exact .inr (af J (BM i1) q o! o!)
 have hk:=u.len;have V:1<=m/\m<=64:=o!
 rw[hm,ADa o!,AD,z];refine AA (((ACS Z C a1 u (Ai _) o! V (s:=2) g! o! Q)).and (ACT (s0:=1) (s:=2) (j:=0) Z C a1 u (Bo _) (Ai _) o! V g!)) λv7 h7=>?_;obtain⟨t0,h7⟩:=h7;have⟨_,_,e7⟩:=h7 t0;refine AA (AAU o!) λW h8=>?_;rw[<-z,AEa I Y_ (by rw[a];exact z),AD,e7];have hF:Nd (2,(m:Int),MK (L.take (θ L)) m)=δ (2,2,encI (2,(m:Int),MK (L.take (θ L)) m)):=by unfold Nd;rw[yw C o! g! V,AD]
 rw[hF,AD,s0,t0];refine AK (λG=>N! rfl G) (λ_=>AK (λG=>N! rfl G) (λ_=>AK (λG=>N! rfl G) (λ_=>?_)));have S:θ g.1.2.2.1<=256:=a1.vb.2.2.2.2.2.1;rw[AFS S,AD];refine AA (AFG (by rw[e7];dsimp only;rw[Lr];omega)) λar F=>?_;rw[e7,z]at F;rw[z];dsimp only at F⊢;have R:S9 L ((θ L:Int)+1,[],(θ L:Int)):=by rw[<-z];exact AGz I Y_ (by rw[a];exact z) u o!
 have pX:PI L (θ L) m (2,(m:Int),MK (L.take (θ L)) m):=⟨θ L,AX _,u!,u!,rfl⟩
 have gl:∀f∈g.1.2.2.1,f.1=1:=λf b=>by obtain⟨r,hr⟩:=ag f b;exact hr.1
 generalize hX:((2,(m:Int),MK (L.take (θ L)) m):A0)=X_ at*;have cX:∀p:Int,0<=p->p<m->pr X_ p=BQ (L.take (θ L)) p:=λp v t=>by rw[<-hX];exact ACw ⟨v,t⟩
 have E:∀x,WM L (θ L) m [(2,2,encI X_)] 1 x↔x=X_:=λx=>by rw[show WM L (θ L) m [(2,2,encI X_)] 1 x↔_ from AEB (fs:=[(2,2,encI X_)])];constructor;rintro⟨px,f,b,K⟩;have:=List.mem_of_find?_eq_some b;rw[A7.1 this]at K;exact(nL C o! V pX px K).symm;intro e;rw[e];refine⟨pX,(2,2,encI X_),?_,rfl⟩;rw[<-hX];rfl
 have sv:∀l:List Ad,θ l<=1000->_:=λl hl=>ACh (x:=(((W.1.1.1,W.1.1.2.1,(((θ L:Int)+1,[],(θ L:Int)):AZ),W.1.1.2.2.2),W.1.2.1,g.1,([(2,2,encI X_)]:List Ad),W.1.2.2.2.2),l)) (d:=θ L) (m:=m) (k:=θ L) Z C a1 R rc g! (Ai _) rfl d! V (by dsimp only;exact(by decide:1<=8)) (λf b=>⟨X_,pX,by rw[A7.1 b]⟩) d!;dsimp only at sv;generalize hA:(g.1.2.2.1.map λf=>((1,f.2.1,[]):Ad))=A_;have ao:∀y∈A_,y.1=1:=λy H=>by rw[<-hA]at H;obtain⟨f,_,rfl⟩:=Bk.1 H;rfl
 have a4:θ A_<=256:=by rw[<-hA,B7];exact S
 have fA:∀B,JT (A_++B) g.1.2.2.1=[]:=λB=>List.filter_eq_nil_iff.2 λf b=>by have:gq (A_++B) f=ζ:=ak.2 ⟨(1,f.2.1,[]),Ff _ (by rw[<-hA];exact Bk.2 ⟨f,b,rfl⟩),by simp[gl f b]⟩;simp[this]
 have fB:JT A_ [((2,2,encI X_):Ad)]=[(2,2,encI X_)]:=List.filter_eq_self.2 λf b=>by
  have:gq A_ f=η:=oM.2 λq=>by obtain⟨y,H,hq⟩:=ak.1 q;rw[A7.1 b]at hq;simp[ao y H]at hq
  simp[this]
 have fC:JT [((2,2,[]):Ad)] g.1.2.2.1=g.1.2.2.1:=List.filter_eq_self.2 λf b=>by have:=gl f b;simp[gq,this]
 have sz:=(a1.less (dM A_ _) rc).1.vb;rw[show JT A_ g.1.2.2.1=[] by have:=fA [];rwa [Dl]at this]at sz;have U:∀p:Int,p<m->p<g.1.2.1:=λp hp=>o!
 refine AA (sv A_ o!) λax M=>?_;rw[show JT A_ g.1.2.2.1=[] by have:=fA [];rwa [Dl]at this,fB]at M;have ad:ax=ar:=by rw[Bool.eq_iff_iff,M,F];constructor;intro q c G;obtain⟨i,D_⟩:=Ci G;have T:=Cd D_;rw[Lr]at T;rw[mQ T]at D_;rw[<-BH D_];show(st (L.take (θ L)) i).2.1=θ L;rw[J5];have e:=cX i o! o!;rcases(nw sz ⟨o!,U i o!⟩ rfl rfl).1 (q i o! o!)with w|⟨y,y1,y2⟩;have j0:=Sj C i (θ L);have j1:=XJ (C.take (θ L)) i;rw[BJ]at j1;omega;rw[(E y).1 y1]at y2;omega;intro q p v t;refine(nw sz ⟨v,U p t⟩ rfl rfl).2 (.inr ⟨X_,(E X_).2 rfl,?_⟩);have e:=q _ (BM (mQ (L:=L.take (θ L)) (n:=m) (i:=p.toNat) o!));rw[cX p v t,<-e,<-J5,Ir v];rfl
 rw[ad,L!,B!];refine AA (sv [(2,2,[])] g!) λa5 N=>?_;rw[fC]at N;rw[N.2 λp v t=>AFW a1.vb ⟨v,U p t⟩ af d!,B!];refine AA (Ac w!) λa6 al=>?_;rw[al.1];refine AA (sv (A_++[(2,2,[])]) w!) λa8 P=>AB ?_;rw[fA]at P;rw[J!,Bool.eq_iff_iff,P,J!];have ap:∀y,¬WM L (θ L) m (JT (A_++[(2,2,[])]) [((2,2,encI X_):Ad)]) (JT (A_++[(2,2,[])]) [((2,2,encI X_):Ad)]).length y:=λy H=>by rw[show JT (A_++[(2,2,[])]) [((2,2,encI X_):Ad)]=[]from List.filter_eq_nil_iff.2 λf b=>by rw[A7.1 b];simp[gq]]at H;obtain⟨i,f,D_,_⟩:=H;exact N! D_ (Nat.not_lt_zero _)
 constructor;intro q;rcases(nw sz ⟨AX _,U 0 o!⟩ rfl rfl).1 (q 0 (AX _) o!)with w|⟨y,y1,_⟩;exact w;exact N! y1 (ap y);intro q p v t;exact(nw sz ⟨v,U p t⟩ rfl rfl).2 (.inl q)
end Go.Pm
namespace Go.Proofs.YtkgodfhnofpglaaGreatDoor
open Go.RowKit Go.Ab Go.Pm
def AAd:∃j,Tryz.prog.info? 389=δ j/\j.size=2:=by
 have h:(Tryz.prog.info? 389).map (·.size)=δ 2:=by kernel_rfl
 exact VS.1 h
def AEx:liesAt Tryz.prog Tryz.prog.depth 389 (2/Tryz.prog.cellsOf 389) 0 389 1=ζ:=by kernel_rfl
def uF(b:Nat)(w:World)(d:w.cell? ⟨b,0,ε⟩=δ (.pointer (δ ⟨b,0,ε⟩))):
  Calls Tryz.prog 341 #[.pointer (δ ⟨b,0,ε⟩)] w λe c=>e=.returned (.tuple #[])/\c=w:=by
 obtain⟨j,a,_⟩:=AAd;go_enter Tryz.func341,Tryz.ntmps341;go_wp2;rw[Lib.run_neq_ptr_same w _ Tryz.underlying387 a];go_wp2;go_end0;exact⟨rfl,rfl⟩
def iu(b:Nat)(w:World)(h:w.cell? ⟨b,0,ε⟩=δ (.pointer ε))(a:w.shape? b=δ (389,2))(f:w.frozen? ⟨b,0,ε⟩=η):
  Calls Tryz.prog 341 #[.pointer (δ ⟨b,0,ε⟩)] w λe g=>e=.returned (.tuple #[])/\g=w.setCell ⟨b,0,ε⟩ (.pointer (δ ⟨b,0,ε⟩)):=by
 obtain⟨j,d,c⟩:=AAd;go_enter Tryz.func341,Tryz.ntmps341;go_wp2;rw[Lib.run_to_unsafe w ⟨b,0,ε⟩ Tryz.underlying387 Tryz.underlying494 d (by rw[c];decide) a (Nat.zero_lt_succ 1)];simp only[Result.andThen];rw[Oper.upon_value];go_wp2;rw[run_callFunc_extern Tryz.func388 (by kernel_rfl) (by kernel_rfl) (by kernel_rfl) (e:=Extern.AbiNoEscape.same) (by kernel_rfl)];rw[Lib.run_noEscape];simp only[Result.andThen];rw[Oper.upon_value];go_wp2;rw[Lib.run_from_unsafe w ⟨b,0,ε⟩ Tryz.underlying494 Tryz.underlying387 d a AEx];simp only[Result.andThen];rw[Oper.upon_value];go_wp2;go_end0;exact⟨rfl,rfl⟩
def xW(B b:Nat)(bs:List Value)(w:World)(h:Lib.IsBuilderF 389 5 B b bs w):
  Calls Tryz.prog 341 #[.pointer (δ ⟨b,0,ε⟩)] w λe a=>e=.returned (.tuple #[])/\Lib.BuilderAtF 389 5 B b (.pointer (δ ⟨b,0,ε⟩)) bs a/\Below B w a:=by
 rcases h with h|h;apply (iu b w h.cell0 h.shape h.frozen0).mono;rintro e a ⟨rfl,rfl⟩;exact⟨rfl,h.used _,(Below.refl B w).setCell (p:=⟨b,0,ε⟩) h.1 _⟩;apply (uF b w h.cell0).mono;rintro e a ⟨rfl,rfl⟩;exact⟨rfl,h,Below.refl B _⟩
def AAc:∃i,Tryz.prog.info? 5=δ i/\i.zero=δ (.int .u8 0)/\i.size=1/\i.bytes=1:=by
 have h:(Tryz.prog.info? 5).map (λi=>(i.zero,i.size,i.bytes))=δ (δ (.int .u8 0),1,1):=by kernel_rfl
 obtain⟨i,b,a⟩:=VS.1 h;simp only[EI]at a;exact⟨i,b,a.1,a.2.1,a.2.2⟩
variable {g j:Nat}
def rZ{p:Value}{bs:List Value}{w:World}(h:Lib.BuilderAtF 389 5 g j p bs w):∃v,w.heap[j]?=δ (.cells #[p,v] 389 (0,0))/\w.cell? ⟨j,1,ε⟩=δ v/\w.ownsRowF g 5 1 v (θ bs) bs/\v.ownBlock≠δ j:=by obtain⟨e,v,a,c,d⟩:=h;exact⟨v,a,by rw[Lib.cell_of_heap a];rfl,c,d⟩
def AGr(B b:Nat)(bs:List Value)(w:World)(h:Lib.IsBuilderF 389 5 B b bs w):
  Calls Tryz.prog 267 #[.pointer (δ ⟨b,0,ε⟩)] w λe l=>e=.returned (.int .i64 (θ bs))/\l=w:=by
 obtain⟨p,j⟩:∃p,Lib.BuilderAtF 389 5 B b p bs w:=h.elim (λh=>⟨_,h⟩) (λh=>⟨_,h⟩);obtain⟨v,k,m,a,_⟩:=rZ j;obtain⟨d,cap,rfl⟩:∃d cap,v=.slice d (θ bs) cap:=by rcases a.2 with⟨c,i⟩|⟨g,cap,f,n,c,_⟩;exact⟨ε,0,by rw[c,i]⟩;exact⟨_,_,c⟩
 go_enter Tryz.func267,Tryz.ntmps267
 go_wp2
 go_ret
 exact⟨rfl,rfl⟩
def vz(B b:Nat)(bs:List Value)(c:Int)(w:World)(h:Lib.IsBuilderF 389 5 B b bs w)(C:θ bs+1≤140737488355328)(H:B≤w.heap.size):
  Calls Tryz.prog 263 #[.pointer (δ ⟨b,0,ε⟩),.int .u8 c] w λe E=>e=.returned .nilIface/\Lib.BuilderAtF 389 5 B b (.pointer (δ ⟨b,0,ε⟩)) (bs++[.int .u8 c]) E/\Below B w E:=by
 obtain⟨M,I,t,x,y⟩:=AAc;go_enter Tryz.func263,Tryz.ntmps263;go_wp2_with (go_at_call 341;apply (xW B b bs _ h).mono)
 rintro e F ⟨rfl,m,l⟩;have A_:=m.1;have r:=m.lt;have c0:=m.cell0;obtain⟨v,q,z,i,s⟩:=rZ m;have K:=l.size;go_wp2_with (at_builtin;apply wpList_append_ownF _ rfl _ _ 22 rfl B 5 M (.int .u8 0) 1 1 Tryz.underlying22 I t x y rfl g! _ _ _ rfl (i.alloc _) ⟨F.heap.size,0,ε⟩ 1 1 [.int .u8 c] rfl rfl ?z ?c2 ?c3 ?c4 ?c5)
 case z=>
  intro j u n;match j,n with
  |0,n=>simp at n;subst n;simp[Addr.add]
 case c2=>intro u D_;simp at D_;subst D_;rfl
 case c3=>unfold maxLen;omega
 case c4=>omega
 case c5=>simp;omega
 intro N o d a _;have f:o.heap[b]?=δ (.cells #[.pointer (δ ⟨b,0,ε⟩),v] 389 (0,0)):=by rw[a.block b w! (λe=>s e.symm),Lib.alloc_old F _ b r];exact q
 have O:o.cell? ⟨b,0,ε⟩=δ (.pointer (δ ⟨b,0,ε⟩)):=by rw[Lib.cell_of_heap f];rfl
 have P:o.cell? ⟨b,1,ε⟩=δ v:=by rw[Lib.cell_of_heap f];rfl
 have Q:o.frozen? ⟨b,1,ε⟩=η:=Lib.frozen_of_heap f 1;obtain⟨g,cap,rfl⟩:∃g cap,N=.slice (δ ⟨g,0,ε⟩) (θ bs+1) cap:=by rcases d.2 with⟨_,S⟩|⟨g,cap,G,R,L,_⟩;omega;exact⟨g,cap,L⟩
 go_wp2
 go_ret
 refine⟨rfl,?_,?_⟩;exact Lib.BuilderAtF.put (T:=389) (e:=5) A_ f (bs':=bs++[.int .u8 c]) (by simpa using d) g!;exact((l.alloc o! _).grown a w! (λk J=>(i.lt k J).1)).setCell (p:=⟨b,1,ε⟩) A_ _
def Xo(B b:Nat)(bs:List Value)(s:ByteArray)(w:World)(h:Lib.IsBuilderF 389 5 B b bs w)(z:θ bs+s.size≤140737488355328)(E:B≤w.heap.size):
  Calls Tryz.prog 262 #[.pointer (δ ⟨b,0,ε⟩),.string s] w λe C=>e=.returned (.tuple #[.int .i64 s.size,.nilIface])/\Lib.BuilderAtF 389 5 B b (.pointer (δ ⟨b,0,ε⟩)) (bs++Lib.strCells s) C/\Below B w C:=by
 obtain⟨I,F,r,t,u⟩:=AAc;go_enter Tryz.func262,Tryz.ntmps262;go_wp2_with (go_at_call 341;apply (xW B b bs _ h).mono)
 rintro e P ⟨rfl,j,i⟩;have y:=j.1;have n:=j.lt;have c0:=j.cell0;obtain⟨v,m,K,f,o⟩:=rZ j;have H:=i.size;go_wp2_with (at_builtin;apply Lib.wpList_append_own_stringF _ rfl _ _ 22 9 rfl B 5 I Tryz.underlying22 Tryz.underlying9 F r t u _ _ _ rfl f s rfl ?c3 ?c4 ?c5)
 case c3=>unfold maxLen;omega
 case c4=>omega
 case c5=>omega
 intro J l c a _;have d:l.heap[b]?=δ (.cells #[.pointer (δ ⟨b,0,ε⟩),v] 389 (0,0)):=by rw[a.block b n (λe=>o e.symm)];exact m
 have L:l.cell? ⟨b,0,ε⟩=δ (.pointer (δ ⟨b,0,ε⟩)):=by rw[Lib.cell_of_heap d];rfl
 have M:l.cell? ⟨b,1,ε⟩=δ v:=by rw[Lib.cell_of_heap d];rfl
 have N:l.frozen? ⟨b,1,ε⟩=η:=Lib.frozen_of_heap d 1;obtain⟨x,A_,cap,rfl⟩:∃x A_ cap,J=.slice x A_ cap:=by rcases c.2 with⟨q,_⟩|⟨g,cap,D_,O,q,_⟩;exact⟨_,_,_,q⟩;exact⟨_,_,_,q⟩
 go_wp2
 go_ret2
 refine⟨rfl,?_,?_⟩;exact Lib.BuilderAtF.put (T:=389) (e:=5) y d (bs':=bs++Lib.strCells s) (by simpa[Lib.strCells_length]using c) g!;exact(i.grown a o! (λk G=>(f.lt k G).1)).setCell (p:=⟨b,1,ε⟩) y _
def uf(B b:Nat)(l:List UInt8)(w:World)(h:Lib.IsBuilderF 389 5 B b (Lib.byteCells l) w)(y:l≠ []):
  Calls Tryz.prog 264 #[.pointer (δ ⟨b,0,ε⟩)] w λe z=>e=.returned (.string ⟨l.toArray⟩)/\Lib.IsBuilderF 389 5 B b (Lib.byteCells l) z/\Below B w z:=by
 obtain⟨p,K,k⟩:∃p,(p=.pointer ε\/p=.pointer (δ ⟨b,0,ε⟩))/\Lib.BuilderAtF 389 5 B b p (Lib.byteCells l) w:=h.elim (λh=>⟨_,.inl rfl,h⟩) (λh=>⟨_,.inr rfl,h⟩);obtain⟨D_,v,i,c,t⟩:=k;have s:θ l≠0:=by simpa using y
 rw[Lib.byteCells_length]at c;obtain⟨g,cap,a,f,rfl,n,I,H,J,o,G,u⟩:∃g cap a f,v=.slice (δ ⟨g,0,ε⟩) (θ l) cap/\B<=g/\w.heap[g]?=δ (.cells a 5 f)/\f.2<=θ l*1/\θ l<=cap/\cap<=maxLen/\a.size=cap*1/\a.toList.take (θ l*1)=Lib.byteCells l:=by rcases c.2 with⟨_,N⟩|⟨g,cap,a,f,L,r⟩;exact N! N s;exact⟨g,cap,a,f,L,r⟩
 have A_:w.drew.cell? ⟨b,1,ε⟩=δ (.slice (δ ⟨g,0,ε⟩) (θ l) cap):=by have:w.drew.heap[b]?=δ (.cells #[p,.slice (δ ⟨g,0,ε⟩) (θ l) cap] 389 (0,0)):=i;rw[Lib.cell_of_heap this];rfl
 have E:(Builtin.unsafeSliceData_ #[22] 451 #[.slice (δ ⟨g,0,ε⟩) (θ l) cap]).run Tryz.prog w.drew=.ok (.pointer (δ ⟨g,0,ε⟩)) w.drew:=Lib.run_unsafeSliceData_row _ _ _ _ _ _ o!;have F:(Builtin.unsafeString_ #[451,3] 9 #[.pointer (δ ⟨g,0,ε⟩),.int .i64 (θ l)]).run Tryz.prog w.drew=.ok (.string ⟨l.toArray⟩) (w.drew.freeze ⟨g,0,ε⟩ (θ l)):=by apply Lib.run_unsafeString_row w.drew 451 3 9 5 Tryz.underlying451 (by kernel_rfl) g a.size (by have q:w.drew.heap[g]?=δ (.cells a 5 f):=I;simp[World.shape?,q]) l y o! (by unfold maxLen at o;omega);intro j x M;exact c.cells (g:=g) rfl j (.int .u8 x.toNat) (by simp[Lib.byteCells,M])
 have d:Lib.IsBuilderF 389 5 B b (Lib.byteCells l) (w.drew.freeze ⟨g,0,ε⟩ (θ l)):=by
  have C:Lib.BuilderAtF 389 5 B b p (Lib.byteCells l) w.drew:=⟨D_,_,i,by rw[Lib.byteCells_length];exact c,t⟩
  have m:=C.froze (g:=g) (cap:=cap) (by rw[Lib.byteCells_length];exact A_);rw[Lib.byteCells_length]at m;rcases K with rfl|rfl;exact .inl m;exact .inr m
 go_enter Tryz.func264,Tryz.ntmps264
 go_wp2
 go_region
 all_goals (go_wp2;go_ret;exact⟨rfl,d,Lib.below_freeze (Below.drew (Below.refl B w)) (p:=⟨g,0,ε⟩) n _⟩)
set_option maxRecDepth 1000000 in
def ACu(B b n:Nat)(w:World)(p:B≤b)(a:w.heap[b]?=δ (.cells #[.pointer (δ ⟨b,0,ε⟩),.slice ε 0 0] 389 (0,0)))(j:B≤w.heap.size)(hn:n≤281474976710656):
  Calls Tryz.prog 344 #[.pointer (δ ⟨b,0,ε⟩),.int .i64 n] w λe o=>e=.returned (.tuple #[])/\Lib.BuilderAt 389 5 B b (.pointer (δ ⟨b,0,ε⟩)) [] o/\Below B w o:=by
 obtain⟨c,h,q,g⟩:=Lib.run_makeNoZero (P:=Tryz.prog) w.drew #[3] 22 5 Tryz.underlying22 n hn;have m:IntKind.i64.wrap (IntKind.i64.wrap 0+(n:Int))=n:=by rw[IntKind.wrap_i64,IntKind.wrap_i64];omega
 have k:(callFunc 389 #[.int .i64 (IntKind.i64.wrap (IntKind.i64.wrap 0+(n:Int)))]).run Tryz.prog w.drew=.ok (.value (.slice (δ ⟨w.drew.heap.size,0,ε⟩) n c.size)) (w.drew.drew.drew.alloc (.cells c 5)):=by rw[m,run_callFunc_extern Tryz.func389 (by kernel_rfl) (by kernel_rfl) (by kernel_rfl) (e:=Extern.BytealgMakeNoZero.makeNoZero #[3] #[22]) (by kernel_rfl),h];rfl
 have f:b<w.heap.size:=by rcases Ar b w.heap.size with i|i;exact i;simp[rV i]at a
 have r:w.drew.cell? ⟨b,1,ε⟩=δ (.slice ε 0 0):=by have:w.drew.heap[b]?=_:=a;rw[Lib.cell_of_heap this];rfl
 have s:(w.alloc (.cells c 5)).cell? ⟨b,1,ε⟩=δ (.slice ε 0 0):=by have:(w.alloc (.cells c 5)).heap[b]?=_:=(Lib.alloc_old w _ b f).trans a;rw[Lib.cell_of_heap this];rfl
 have t:(w.alloc (.cells c 5)).frozen? ⟨b,1,ε⟩=η:=Lib.frozen_of_heap ((Lib.alloc_old w _ b f).trans a) 1;have l:∀W:World,(Builtin.copy_ #[22,22] 3 #[.slice (δ ⟨w.heap.size,0,ε⟩) 0 c.size,.slice ε 0 0]).run Tryz.prog W=.ok (goInt 0) W:=λW=>run_copy_none W 22 22 3 5 _ _ 0 c.size 0 0 Tryz.underlying22 (by kernel_rfl) rfl;clear m;have d:=Lib.grown_fresh (T:=389) (e:=5) (cs:=c) p a j (g (by unfold maxLen;omega)) g!;rw[World.setCell_alloc_past _ _ _ _ f]at d;go_enter Tryz.func344,Tryz.ntmps344;go_wp2;go_region;all_goals (go_wp2;go_end0;exact⟨rfl,d⟩)
set_option maxRecDepth 1000000 in
def AEw(B b n:Nat)(w:World)(g:B≤b)(c:w.heap[b]?=δ (.cells #[.pointer ε,.slice ε 0 0] 389 (0,0)))(h:B≤w.heap.size)(hn:n≤281474976710656):
  Calls Tryz.prog 266 #[.pointer (δ ⟨b,0,ε⟩),.int .i64 n] w λe f=>e=.returned (.tuple #[])/\Lib.BuilderAt 389 5 B b (.pointer (δ ⟨b,0,ε⟩)) [] f/\Below B w f:=by
 have a:(w.setCell ⟨b,0,ε⟩ (.pointer (δ ⟨b,0,ε⟩))).heap[b]?=δ (.cells #[.pointer (δ ⟨b,0,ε⟩),.slice ε 0 0] 389 (0,0)):=by simp[World.setCell,aj,c]
 have i:(w.setCell ⟨b,0,ε⟩ (.pointer (δ ⟨b,0,ε⟩))).cell? ⟨b,1,ε⟩=δ (.slice ε 0 0):=by rw[Lib.cell_of_heap a];rfl
 have d:Below B w (w.setCell ⟨b,0,ε⟩ (.pointer (δ ⟨b,0,ε⟩))):=(Below.refl B w).setCell (p:=⟨b,0,ε⟩) g _;have m:Lib.BuilderAt 389 5 B b (.pointer (δ ⟨b,0,ε⟩)) [] (w.setCell ⟨b,0,ε⟩ (.pointer (δ ⟨b,0,ε⟩))):=⟨g,.slice ε 0 0,a,World.ownsRow_nil _ _ _ _,by simp[Value.ownBlock]⟩
 have j:(w.setCell ⟨b,0,ε⟩ (.pointer (δ ⟨b,0,ε⟩))).drew.cell? ⟨b,1,ε⟩=δ (.slice ε 0 0):=i;go_enter Tryz.func266,Tryz.ntmps266;go_wp2_with (go_at_call 341;apply (iu b w (by rw[Lib.cell_of_heap c];rfl) (by simp[World.shape?,c]) (Lib.frozen_of_heap c 0)).mono;rintro e f ⟨rfl,rfl⟩)
 go_region
 all_goals go_wp2_with (go_at_call 344;apply (ACu B b n (w.setCell ⟨b,0,ε⟩ (.pointer (δ ⟨b,0,ε⟩))).drew g a (by simpa[World.setCell,World.drew,-World.drew_eq]using h) hn).mono;rintro e f ⟨rfl,k,l⟩)
 all_goals first
  |(go_end0;exact⟨rfl,k,d.drew.trans l⟩)
  |(go_end0;exact⟨rfl,m.drew,d.drew⟩)
end Go.Proofs.YtkgodfhnofpglaaGreatDoor
