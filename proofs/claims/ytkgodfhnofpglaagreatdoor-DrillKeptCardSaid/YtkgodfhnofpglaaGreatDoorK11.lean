/- Texts of wip, joined and shortened by wip/tools/pack.py; nothing is assumed. -/
import Derived.Test.YtkgodfhnofpglaaGreatDoorK10
import Derived.Test.YtkgodfhnofpglaaGreatDoorProg
import Derived.Lib.Builder
import Derived.Lib.FrozenHead
import Derived.Lib.FrozenHead2
import Derived.Lib.AppendStr
import Derived.Lib.UnsafeStr
import Derived.Lib.Repeat
import Derived.Lib.RepeatB
import Derived.Lib.Walk
import Derived.WalkKit
import Derived.Laws.Externs
import Derived.Shelf.RegionOpenPlain
import Derived.Lib.MakeNoZero
import Derived.Laws.IdiomCopy
import Derived.Deep.LoopGhost
import Derived.Deep.DeepCutAuto
import Derived.Deep.DeepFit
import Derived.Deep.CutBlock
noncomputable section
set_option linter.all false
set_option maxHeartbeats 2000000
set_option maxRecDepth 100000
open Option renaming some->D
open List renaming length->Z
open Go renaming Ψ->E
open Bool renaming false->X
open Option renaming none->A
open Bool renaming true->Y
open Go renaming Ω->V
open Option renaming some->δ,none->ε,bind->σ
open Bool renaming true->ζ,false->η
open List renaming length->θ
open Int renaming toNat->ο
open Decidable renaming decide->τ
open _root_ renaming Int->U
namespace Go.Pm
open Go Go.Ab
noncomputable section

end
noncomputable section

end
variable {a:E EN}{b m o:Int}{c:AQ×AL×E AS×Int}{d:Nat}{e:Aa}{f:E Ai}{g:E AS}{h:E Int}{i:E Af}{j:AL}{k:E AS×E AS}{l:E Int×Int}{n:E NE}{p:Bx×Int}{q:Type}
theorem AC4{l:E q}(h:d<Z l):ix l (d:U)=D l[d]:=by unfold ix;grind
noncomputable section

end
theorem AA1{l:E q}(h:d<Z l):l.take (d+1)=l.take d++[l[d]]:=by grind[List.take_add_one]
def zP(L:E EN)(p:U)(l:E EN):Prop:=(l.Pairwise λx y=>x.1<y.1)/\∀x∈l,x∈L/\x.2.2.2.2.2.2.1.1=p
theorem zS{l:List EN}{e:EN}(hL:Uq a)(i:zP a b l)(Q:e∈a/\e.2.2.2.2.2.2.1.1=b)(h:θ l<=16777000):Ao (Ck (l,e)) λr=>θ r.1<=θ l+1/\zP a b r.1/\∀y,y∈r.1↔y∈l\/y=e:=by
 have z:∀v∈l,Ao (C7 (v,e)) λr=>(r<0↔v.1<e.1)/\(r=0↔v.1=e.1):=λv S=>by have R:=(i.2 v S).2.trans Q.2.symm;unfold C7;dsimp only;rw[F! o!,A!,beq_iff_eq.2 R,B!];refine AC (λm=>AB ⟨⟨λ_=>m,λ_=>g!⟩,⟨n!,λq=>o!⟩⟩) λm=>?_;rw[B!];exact AT (λO=>AB ⟨⟨n!,λq=>o!⟩,⟨λ_=>O,λ_=>rfl⟩⟩) (λO=>AB ⟨⟨n!,λq=>o!⟩,⟨n!,λq=>O! q O⟩⟩)
 unfold Ck;refine AA (P:=λ(v:Int)=>0<=v/\v<=θ l/\(∀x∈l.take v.toNat,x.1<e.1)/\∀x,l[v.toNat]?=δ x->¬x.1<e.1) ?_ λv S=>?_
 ·refine CE (λ(s:Int)=>0<=s/\s<=θ l/\∀x∈l.take s.toNat,x.1<e.1) (λs=>((θ l:Int)-s).toNat) ⟨AY _,o!,λx d=>by simp at d⟩ (λs hI=>?_);have⟨U,i1,V⟩:=hI;unfold Is;dsimp[len];refine AC (λo=>?_) (λo=>Ao.done ⟨U,i1,V,λx d=>by have:=CZ d;omega⟩);rw[AX];refine AA (AE U o) λK m=>AA (z K m.2) λc f=>AC (λq=>Ao.next ⟨o!,o!,λx d=>?_⟩ o!) (λq=>Ao.done ⟨U,i1,V,λx d=>?_⟩);rw[show(s+1).toNat=s.toNat+1 by omega,CC,m.1]at d;rcases Al.1 d with w|w;exact V x w;rw[show x=K by simpa using w];exact f.1.1 q;rw[m.1]at d;rw[<-BL d];exact λw=>q (f.1.2 w)
 have⟨J,K,v2,v3⟩:=S;have ao:∀x∈l.drop v.toNat,¬x.1<e.1:=λx d=>by have⟨k,t⟩:=HS.1 d;rw[IW]at t;have G:=CZ t;have h0:l[v.toNat]?=δ (l[v.toNat]' o!):=Ar o!;have:=v3 _ h0;obtain _|k:=k;rw[Lc,h0]at t;rw[<-BL t];exact this;have:=(Ek.1 i.1) v.toNat (v.toNat+(k+1)) o! G o!;rw[Ar G]at t;rw[<-BL t];omega
 have main:(∀x∈l.drop v.toNat,e.1<x.1)->Ao (σ (WB l 0 v) λH=>
  σ (WB l v (len l)) λI=>
  σ (app [] H) λg=>
  σ (app g ([e]:List (Int×(Int×(Int×(Int×(Int×(Int×((Int×(Int×((Bool×Bc)×(Bool×Bc))))×Bc))))))))) λag=>
  σ (app ag I) λal=>
  δ (al,ζ)) λr=>θ r.1<=θ l+1/\zP a b r.1/\∀y,y∈r.1↔y∈l\/y=e:=λF=>by
  refine AA (Bs (AY _) J K) λZ B=>AA (Bs J (by simp[len];omega) i!) λad N=>?_;have ap:=B.2;have W:=N.2;simp[len]at W;refine AA (Ac w!) λH C=>?_;have X_:=C.2.1;simp[CO]at X_;refine AA (Ac w!) λI D_=>?_;have Y_:=D_.2.1;simp[CO,CY]at Y_;refine AA (Ac o!) λg E=>AB ?_;have ar:=E.2.1;have M:Z=l.take v.toNat:=by rw[B.1];simp
  have A_:g=l.take v.toNat++[e]++l.drop v.toNat:=by rw[E.1,D_.1,C.1,M,(by grind[List.take_of_length_le,List.length_drop]:ad=l.drop v.toNat),Cq]
  dsimp only;have j:∀y,y∈g↔y∈l\/y=e:=λy=>by
   rw[A_];conv=>rhs;rw[<-Cr v.toNat l]
   grind[List.mem_singleton]
  refine⟨o!,⟨?_,λx d=>?_⟩,j⟩;rw[A_,A5,List.pairwise_append];refine⟨i.1.sublist (List.take_sublist _ _),?_,λx d y hy=>?_⟩;exact List.pairwise_cons.2 ⟨F,i.1.sublist (qt _ _)⟩;have:=v2 x d;rcases A3.1 hy with w|w;rw[w];exact this;have:=F y w;omega;rcases(j x).1 d with w|w;exact i.2 x w;rw[w];exact Q
 dsimp[len];refine AC (λo=>?_) (λo=>main λx d=>?_);refine AA (AE J o) λu n=>AA (z u n.2) λc f=>AT (λT=>?_) (λT=>main λx d=>?_);refine AA (AE J o) λv6 _=>AB ⟨d!,i,λy=>?_⟩;have:u=e:=hL u (i.2 u n.2).1 e Q.1 (f.2.1 T);subst this;exact⟨.inl,λw=>w.elim id λw=>w▸n.2⟩;have L:=v3 _ n.1;have p:¬u.1=e.1:=λw=>T (f.2.2 w);have hd:l.drop v.toNat=u::l.drop (v.toNat+1):=by rw[J4 o!];rw[Ar o!]at n;rw[BL n.1]
 rw[hd]at d;have hs:=i.1.sublist (qt v.toNat l);rw[hd]at hs;rcases A3.1 d with w|w;rw[w];omega;have:=(List.pairwise_cons.1 hs).1 x w;omega;rw[M9 o!]at d;simp at d
theorem ABJ(hL:Uq a)(h:Src a b i):Ao (Ji (i,b,m,o)) λr=>θ r<=1048576/\zP a b r/\∀y,y∈r↔∃q∈i,y∈q.2.2.2.2.2/\y.2.2.2.2.2.2.1.1=b/\m<y.1/\y.1<=o:=by
 have ad:=h.1;refine AA (P:=λr=>θ r<=1048576/\zP a b r/\∀y,y∈r↔∃q∈i,y∈q.2.2.2.2.2/\y.2.2.2.2.2.2.1.1=b/\m<y.1/\y.1<=o) ?_ λr hr=>AB hr;refine CE (λ(s:List EN×Int)=>0<=s.2/\s.2<=θ i/\θ s.1<=4096*s.2/\zP a b s.1/\∀y,y∈s.1↔∃q∈i.take s.2.toNat,y∈q.2.2.2.2.2/\y.2.2.2.2.2.2.1.1=b/\m<y.1/\y.1<=o) (λs=>((θ i:Int)-s.2).toNat) ⟨AY _,d!,k!,⟨List.Pairwise.nil,λx hx=>by simp at hx⟩,λy=>k!⟩ ?_;rintro⟨A_,k⟩ ⟨R,i1,i2,K,J⟩;dsimp only at R i1 i2 K J;unfold LG;dsimp[len];refine AC (λQ=>?_) (λQ=>Ao.done ⟨o!,K,λy=>by rw[J y,BG o!]⟩);refine AA (AE R Q) λu O=>?_;have⟨N,X_,g3,g4⟩:=h.2 u O.2;have hl:=N.1.2.2.2.2.2.2.2.2;refine AA (AAw N) λc C=>?_;have G:=EV (λe:EN=>e.2.2.2.2.2.2.1.1==b) u.2.2.2.2.2;rw[<-C]at G;have H:∀y∈c,y∈a/\y.2.2.2.2.2.2.1.1=b:=λy I=>by rw[C]at I;exact⟨((X_.mem y).1 (BZ.1 I).1).1,eq_of_beq (BZ.1 I).2⟩
 refine AA (P:=λr=>θ r<=θ A_+θ c/\zP a b r/\∀y,y∈r↔y∈A_\/(y∈c/\m<y.1/\y.1<=o)) ?_ λr hr=>?_
 ·refine CE (λ(s:List EN×Int)=>0<=s.2/\s.2<=θ c/\θ s.1<=θ A_+s.2/\zP a b s.1/\∀y,y∈s.1↔y∈A_\/(y∈c.take s.2.toNat/\m<y.1/\y.1<=o)) (λs=>((θ c:Int)-s.2).toNat) ⟨AY _,d!,d!,K,λy=>k!⟩ ?_;rintro⟨B,f⟩ ⟨j,j1,j2,l,M⟩;dsimp only at j j1 j2 l M;unfold LH;dsimp[len];refine AC (λd=>?_) (λd=>Ao.done ⟨o!,l,λy=>by rw[M y,BG o!]⟩);refine AA (AE j d) λv n=>?_;rw[AX (x:=f+1)];have z:c.take (f+1).toNat=c.take f.toNat++[v]:=by rw[show(f+1).toNat=f.toNat+1 by omega,CC,n.1];rfl
  have g:¬(m<v.1/\v.1<=o)->∀y,y∈B↔y∈A_\/(y∈c.take (f+1).toNat/\m<y.1/\y.1<=o):=λhn y=>by grind[List.mem_singleton]
  refine AC (λE=>?_) (λE=>Ao.next ⟨d!,d!,d!,l,g λq=>o!⟩ d!);refine AA (AE j d) λT Y_=>?_;have V:T=v:=by have:=Y_.1;rw[n.1]at this;exact(BL this).symm
  subst V;refine AA (P:=λr=>θ r<=θ B+1/\zP a b r/\∀y,y∈r↔y∈A_\/(y∈c.take (f+1).toNat/\m<y.1/\y.1<=o)) ?_ λr hr=>Ao.next ⟨d!,d!,by have:=hr.1;dsimp only;omega,hr.2⟩ d!
  refine AC (λF=>?_) (λF=>AB ⟨o!,l,g λq=>o!⟩);refine AA (AE j d) λU Z=>?_;have W:U=T:=by have:=Z.1;rw[n.1]at this;exact(BL this).symm
  subst W;refine AA (zS hL l (H U n.2) o!) λv7 D_=>AB ⟨D_.1,D_.2.1,λy=>?_⟩;rw[D_.2.2 y,M y,z,Al,A7];constructor;rintro((q|⟨L,p⟩)|q);exact .inl q;exact .inr ⟨.inl L,p⟩;exact .inr ⟨.inr q,by rw[q];omega⟩;rintro(q|⟨L|L,p⟩);exact .inl (.inl q);exact .inl (.inr ⟨L,p⟩);exact .inr L
 ·rw[AX];refine Ao.next ⟨d!,d!,by have:=hr.1;dsimp only;omega,hr.2.1,λy=>?_⟩ d!
  dsimp only;have z:i.take (k+1).toNat=i.take k.toNat++[u]:=by rw[show(k+1).toNat=k.toNat+1 by omega,CC,O.1];rfl
  rw[hr.2.2 y,J y,z,C,BZ,J!];constructor;rintro(⟨q,L,p⟩|⟨⟨L,p⟩,t⟩);exact⟨q,FA _ L,p⟩;exact⟨u,La _ (A7.2 rfl),L,p,t⟩;rintro⟨q,L,p,t,S⟩;rcases Al.1 L with w|w;exact .inl ⟨q,w,p,t,S⟩;rw[A7.1 w]at p;exact .inr ⟨⟨p,t⟩,S⟩
def AFT(h:θ i<=256):Ao (LJ (i,m)) λr=>r>=0->∃q∈i,q.1<=m/\m<=q.2.1:=by refine AA (P:=λr=>∀k,r=.inl k->∃q∈i,q.1<=m/\m<=q.2.1) ?_ λr hr=>BE (λu j=>AB λ_=>hr u j) (λu _=>AB n!);refine CE (λ(s:Int)=>0<=s/\s<=θ i) (λs=>((θ i:Int)-s).toNat) ⟨AY _,o!⟩ (λs a=>?_);obtain⟨f,p⟩:=a;unfold M6;dsimp only[len];refine AC (λc=>?_) (λ_=>Ao.done λk d=>by cases d);rw[AX];refine AA (AE f c) λo b=>AC (λl=>AA (AE f c) λt g=>AC (λn=>Ao.done λk d=>⟨o,b.2,l,?_⟩) (λ_=>Ao.next o! o!)) (λ_=>Ao.next o! o!);have e:=g.1;rw[b.1]at e;rw[BL e];exact n
theorem AIS{e:EN}(h:θ a<=16777216)(d:e∈a):Ib (a,e)=δ ζ:=by
 suffices g:Ao (Ib (a,e)) λr=>r=ζ by obtain⟨r,hr,rfl⟩:=g;exact hr
 refine AA (P:=λr=>r=.inl ζ) ?_ λr hr=>by rw[hr];exact BB (AB rfl)
 refine CE (λ(s:Int)=>0<=s/\s<=θ a/\e∈a.drop s.toNat) (λs=>((θ a:Int)-s).toNat) ⟨AY _,o!,d⟩ (λs c=>?_);have⟨i,k,b⟩:=c;unfold QB;dsimp[len];refine AC (λl=>?_) (λl=>by rw[M9 o!]at b;simp at b);rw[AX];refine AA (AE i l) λm j=>AJ (λ_=>Ao.done rfl) (λf=>Ao.next ⟨o!,o!,?_⟩ o!);grind[List.drop_eq_getElem_cons,List.getElem?_eq_getElem,Option.some.inj]
theorem AGx{A_ B:List EN}(U:Uq a)(V:Dg e)(R:zP a b A_)(S:zP a b B)(Q:θ i<=256)(h2:θ A_<=1048576)(h3:θ B<=4096)(m:∀y∈A_,e.1<=y.1->y.1<=e.1+θ e.2.1-1->y∈B)(n:∀y∈B,(∃q∈i,q.1<=y.1/\y.1<=q.2.1)->y∈A_):Ao (Md (i,e,A_,B)) λr=>r.2=ζ/\θ r.1<=1052672/\zP a b r.1/\∀y,y∈r.1↔y∈A_\/y∈B:=by
 refine AA (Ac w!) λX_ O=>?_;have D_:=O.1;rw[Cq]at D_;dsimp only at D_;subst X_;refine AA (P:=λr=>∃C,r=.inr C/\θ C<=θ A_+θ B/\zP a b C/\∀y,y∈C↔y∈A_\/y∈B) ?_ λr hr=>?_
 ·refine CE (λ(s:List EN×Int)=>0<=s.2/\s.2<=θ B/\θ s.1<=θ A_+s.2/\zP a b s.1/\∀y,y∈s.1↔y∈A_\/y∈B.take s.2.toNat) (λs=>((θ B:Int)-s.2).toNat) ⟨AY _,d!,d!,R,λy=>k!⟩ ?_;rintro⟨C,k⟩ ⟨c,F,W,t,G⟩;dsimp only at c F W t G;unfold OG;dsimp[len];refine AC (λl=>?_) (λl=>Ao.done ⟨C,rfl,o!,t,λy=>by rw[G y,BG o!]⟩);refine AA (AE c l) λz h=>AA (AFT Q) λv3 M=>?_;rw[AX (x:=k+1)];have et:B.take (k+1).toNat=B.take k.toNat++[z]:=by rw[show(k+1).toNat=k.toNat+1 by omega,CC,h.1];rfl
  have same:∀v,B[k.toNat]?=δ v/\v∈B->v=z:=λv p=>by have:=p.1;rw[h.1]at this;exact(BL this).symm
  have u:∀v,B[k.toNat]?=δ v/\v∈B->Ao (σ (Ck (C,v)) λH=>δ (Step.next (H.1,k+1)):Option (Step (List EN×Int) ((List EN×Bool)⊕List EN))) (Kj (λ(s:List EN×Int)=>0<=s.2/\s.2<=θ B/\θ s.1<=θ A_+s.2/\zP a b s.1/\∀y,y∈s.1↔y∈A_\/y∈B.take s.2.toNat) (λs=>((θ B:Int)-s.2).toNat) ((θ B:Int)-k).toNat λr=>∃C,r=.inr C/\θ C<=θ A_+θ B/\zP a b C/\∀y,y∈C↔y∈A_\/y∈B):=λv p=>by
   have K:=same v p;subst K;refine AA (zS U t (S.2 v h.2) o!) λH E=>Ao.next ⟨d!,d!,by have:=E.1;dsimp only;omega,E.2.1,λy=>?_⟩ d!
   grind[List.mem_singleton]
  refine AC (λo=>AA (AE c l) λY_ N=>?_) (λ_=>AA (AE c l) λv p=>u v p);rw[same Y_ N,AIS o! (n z h.2 (M o)),AD,Ce,A!];grind[AA,AE]
 ·obtain⟨C,rfl,Z,J,I⟩:=hr;refine Au (AA (P:=λr=>r=.inr ()) ?_ λr hr=>by rw[hr];exact Au (AB ⟨rfl,d!,J,I⟩));refine CE (λ(s:Int)=>0<=s/\s<=θ A_) (λs=>((θ A_:Int)-s).toNat) ⟨AY _,o!⟩ (λs T=>?_);have⟨c,F⟩:=T;unfold OH;dsimp[len];refine AC (λl=>?_) (λ_=>Ao.done rfl);rw[AX];refine AA (AE c l) λw d=>?_;rw[yi V,AD];refine AC (λf=>AA (AE c l) λg j=>?_) (λ_=>Ao.next o! o!);have L:g=w:=by have:=j.1;rw[d.1]at this;exact(BL this).symm
  subst L;rw[AIS o! (m g d.2 f.1 f.2),AD,Ce,A!];exact Ao.next o! o!
theorem ADk(d:Src a b i)(c:Dg e)(D_:0<=m)(k:m<=1099511627776)(l:m<=o):Ao (KW ((i,h,e),m,o)) λL=>L=Y↔∀q,m<q->q<=o->WY i e q:=by
 have z:∀q,WY i e q->q<=1099511631872:=λq p=>by have A_:=c.2.1;have B:=c.2.2.1;rcases p with⟨r,x,_,y⟩|⟨_,y⟩;have:=(d.2 r x).1.1.2.2.1;omega;omega
 refine AA (P:=λr=>(r=.inl X/\∃q,m<q/\q<=o/\¬WY i e q)\/(r=.inr ()/\∀q,m<q->q<=o->WY i e q)) ?_ λr hr=>?_
 ·refine CE (λs=>m<=s/\s<=1099511631872/\∀q,m<q->q<=s->WY i e q) (λs=>(1099511631872-s).toNat) ⟨AY _,q!,λq j w=>q!⟩ (λs f=>?_);have⟨E,F,u⟩:=f;unfold Lx;dsimp only;refine AC (λg=>?_) (λg=>k? (.inr ⟨rfl,λq j w=>u q j o!⟩));rw[AX];refine AA (AFo d c o!) λv t=>AT (λC=>k? (.inl ⟨rfl,s+1,o!,o!,t.2.2.2 o!⟩)) (λn=>?_);grind[y!]
 grind[AB]
theorem AJ4{n:Int}{L:List EN}{a:AL}{l:Aa}{p i j:Int}(hL:LI n L)(hN:GF L)(h:AR L a)(d:QH L l)(E:0<=i)(U:i<=1099511627776)(F:i<=j)(o:0<=p/\p<a.2.1): ∃e E,VN a p e E/\(((∀q,i<q->q<=j->ka a l e q)/\Fg (a,(l,(p,(i,j))))=some (L.filter (Ki p i j),0))\/((¬ ∀q,i<q->q<=j->ka a l e q)/\Fg (a,(l,(p,(i,j))))=some ([],42))):=by
 have f:=d.sorted;have hU:Uq L:=λx Y_ y v K=>V9 (by refine H7.2 ((RX).2 (f.imp λh=>?_));omega) Y_ v K;obtain⟨v1,e1,M,e,hh,W,rfl,al,hM,g⟩:=wB (l:=l) h o;refine⟨e,hh,W,?_⟩;have D_:(∀q,i<q->q<=j->WY (M.map (·.1)) l q)↔ ∀q,i<q->q<=j->ka a l e q:=⟨λw q b c=>(ACo hM q).1 (w q b c),λw q b c=>(ACo hM q).2 (w q b c)⟩
 suffices hs:Ao (Fg (a,(l,(p,(i,j))))) λr=>((∀q,i<q->q<=j->ka a l e q)/\r=(L.filter (Ki p i j),0))\/((¬ ∀q,i<q->q<=j->ka a l e q)/\r=([],42)) by
  obtain⟨r,hr,q|q⟩:=hs
  ·exact .inl ⟨q.1,by rw[hr,q.2]⟩
  ·exact .inr ⟨q.1,by rw[hr,q.2]⟩
 unfold Fg;rw[AHz h.vb d.vl o E F,AD,bne_self_eq_false,cond_false];dsimp only;rw[e1,AD];refine AA (ADk g d.vl E U F) λv2 h2=>AP (λhf=>AB (.inr ⟨λw=>?_,rfl⟩)) (λC=>?_)
 ·rw[h2.2 (D_.2 w)]at hf;cases hf
 have u:=h2.1 C;refine AA (ABJ hU g) λv3 h3=>AA (AAZ d.vl) λv4 B=>?_;have⟨a1,a2,a3⟩:=h3;have t: ∀y,Ki p i j y=true->ik y=true/\y.2.2.2.2.2.2.1.1=p/\i<y.1/\y.1<=j:=λy X_=>by unfold Ki at X_;simp[BS,decide_eq_true_eq,beq_iff_eq]at X_;exact X_
 have H: ∀y,ik y=true->y.2.2.2.2.2.2.1.1=p->i<y.1->y.1<=j->Ki p i j y=true:=λy Q R I J=>by grind[Ki]
 have hB:zP L p v4:=by rw[B];refine⟨d.vl.sorted.filter _,λx Y_=>?_⟩;have⟨x1,x2⟩:=BZ.1 Y_;exact⟨((d.tail x).1 x1).1,(t x x2).2.1⟩
 have m:v4.length<=4096:=by rw[B];exact Cs (EV _ _) d.vl.2.2.1
 refine AA (AGx hU d.vl a2 hB g.1 a1 m (λy v g1 A_=>?_) (λy v N=>?_)) λz h5=>?_
 ·have⟨q,b,c,G,Z,q5⟩:=(a3 y).1 v;have N:=((g.2 q b).2.1.mem y).1 c;rw[B];exact BZ.2 ⟨(d.tail y).2 ⟨N.1,g1,A_⟩,H y N.2.1 G Z q5⟩
 ·rw[B]at v;have⟨y1,y2⟩:=BZ.1 v;have⟨Q,R,I,J⟩:=t y y2;have⟨q,b,c,G⟩:=N;have⟨_,A_,g3,g4⟩:=g.2 q b;exact(a3 y).2 ⟨q,b,(A_.mem y).2 ⟨((d.tail y).1 y1).1,Q,by omega,by omega,c,G⟩,R,I,J⟩
 have⟨u0,u1,u2,u3⟩:=h5;rw[u0,Ce,cond_false];have K:z.1=L.filter (Ki p i j):=mc u2.1 (f.filter _) λy=>by
  rw[u3 y,a3 y,B,BZ,BZ];constructor
  ·rintro(⟨q,b,c,G,Z,q5⟩|⟨b,c⟩)
   ·have:=((g.2 q b).2.1.mem y).1 c;exact⟨this.1,H y this.2.1 G Z q5⟩
   ·exact⟨((d.tail y).1 b).1,c⟩
  ·rintro⟨b,c⟩;have⟨Q,R,I,J⟩:=t y c;rcases u y.1 I J with⟨r,O,r2,r3⟩|⟨O,r2⟩
   ·have⟨_,A_,g3,g4⟩:=g.2 r O;exact .inl ⟨r,O,(A_.mem y).2 ⟨b,Q,by omega,by omega,r2,r3⟩,R,I,J⟩
   ·exact .inr ⟨(d.tail y).2 ⟨b,O,r2⟩,c⟩
 have k:=wz (p:=p) (j:=j) hL f E;rw[<-K]at k;refine AA (P:=λr=>r= .inr ()) ?_ λr hr=>by rw[hr];exact Au (AB (.inl ⟨D_.1 u,by rw[K]⟩))
 refine CE (λ(s:Int)=>0<=s/\s<=z.1.length) (λs=>((z.1.length:Int)-s).toNat) ⟨AY _,by omega⟩ (λs hI=>?_);have⟨s0,s1⟩:=hI;unfold Qt;dsimp[len];refine AC (λu=>?_) (λu=>Ao.done rfl);rw[AX (x:=s+1) (by omega)];have nx:Ao (some (Step.next (s+1)):Option (Step Int ((List EN×Int)⊕ Unit))) (Kj (λ(s:Int)=>0<=s/\s<=z.1.length) (λs=>((z.1.length:Int)-s).toNat) ((z.1.length:Int)-s).toNat λr=>r= .inr ()):=Ao.next ⟨by omega,by omega⟩ (by omega)
 refine AT ?_ ?_<;>intro hz
 ·refine AA (AE s0 u) λv7 g7=>AC (λao=>?_) (λ_=>AC (λo=>absurd o (by omega)) (λ_=>nx));have:=(k s.toNat v7 g7.1).1 (by omega);omega
 ·refine AC (λo=>?_) (λo=>absurd o (by omega));rw[AX (by omega)];refine AA (AE s0 u) λad S=>AA (AE (by omega) (by omega)) λag T=>AK (λV=>absurd ((k s.toNat ad S.1).2 ag (by omega) ?_) V) (λ_=>nx);rw[show s.toNat-1=(s-1).toNat by omega];exact T.1
noncomputable section

end
theorem AHm{s:Int×List BP}{v:Cp×Bool}(h:s.2.length<=8):Ao (Ad (Rx s v) (len s.2)) λr=>0<=r/\r<=s.2.length:=by refine CE (λ(t:Int)=>0<=t/\t<=s.2.length) (λt=>t.toNat) ⟨by grind,by grind⟩ (λt c=>?_);have⟨a,b⟩:=c;refine AC (λd=>?_) (λ_=>Ao.done ⟨a,b⟩);rw[AX (by omega)];exact AA (AE (by omega) (by omega)) λ_ _=>AA (AE (by omega) (by omega)) λ_ _=>AC (λ_=>Ao.next ⟨by omega,by omega⟩ (by omega)) (λ_=>Ao.done ⟨a,b⟩)
def AJm{x:Ψ AS×AL×Aa×Int×Int}(h:GF a)(R:θ a<=1099511627776)(hn:1<=d/\d<=64)(v8:θ f<=8)(N:∀z∈f,PI a b d z)(I:0<=m/\m<d)(H:x.2.2.2.1=m)(T:x.2.2.2.2=o):Ao (Ad (Ly x f) (wi (len f-1),[])) λr=>θ r<=8/\∀y,y∈r↔∃z∈f,TD z m<=o/\y=(TD z m,z.1,TD z m):=by
 have O:wi (len f-1)=(θ f:Int)-1:=by simp only[len];rw[AX]
 rw[O];refine CE (λs=>∃n:Nat,s.1=(n:Int)-1/\n<=θ f/\θ s.2<=θ f-n/\∀y,y∈s.2↔∃z∈f.drop n,TD z m<=o/\y=(TD z m,z.1,TD z m)) (λs=>(s.1+1).toNat) ⟨θ f,rfl,Am _,k!,λy=>⟨λq=>(by cases q),λ⟨z,q,_⟩=>(by rw[List.drop_length]at q;cases q)⟩⟩ ?_;rintro⟨_,A_⟩ ⟨n,rfl,W,X_,g⟩;dsimp only at X_ g;unfold Ly;dsimp only;refine AC (λP=>?_) (λP=>k? ⟨o!,by rw[show n=0 by omega]at g;exact g⟩);obtain⟨k,rfl⟩:∃k:Nat,n=k+1:=⟨n-1,o!⟩
 have F:k<θ f:=W;have E:ix f (((k+1:Nat):Int)-1)=D f[k]:=by unfold ix;rw[C! o!,show(((k+1:Nat):Int)-1).toNat=k by omega,Ar F]
 rw[E,AD,T,H,AX];obtain⟨j,hj,x1,x2,J⟩:=N _ (Of F);have p:GO (f[k],m)=D (Xc (st (a.take j) m),Y):=by rw[J];exact ABY h R ⟨x1,x2⟩ hn I
 have D_:(Xc (st (a.take j) m)).2.1=TD f[k] m:=by rw[J,sT I];exact Kh _ _
 have V:f.drop k=f[k]::f.drop (k+1):=J4 F;rw[p,AD,Ce,A!];dsimp only;rw[D_];refine AC (λQ=>y! ⟨k,d!,o!,d!,λy=>?_⟩ d!) (λS=>?_);dsimp only;rw[g y,V];constructor;rintro⟨z,L,c⟩;exact⟨z,CQ _ L,c⟩;rintro⟨z,L,c,w⟩;rcases A3.1 L with rfl|L;omega;exact⟨z,L,c,w⟩
 ·refine AA (AHm (s:=(_,A_)) d!) λv u=>?_;dsimp only at u;refine AA (Bs (AY _) u.1 u.2) λ_ _=>?_;rw[AD];refine AA (Bs u.1 i! i!) λ_ _=>?_;have K:List.take (ο v-ο 0) (List.drop (ο 0) A_)=A_.take v.toNat:=rfl;have M:List.take (ο (len A_)-ο v) (List.drop (ο v) A_)=A_.drop v.toNat:=BG (by rw[Dr];simp only[len];omega);rw[K,M];refine AA (Ac w!) λY_ e=>AA (Ac (by rw[e.1];simp;omega)) λZ l=>AA (Ac (by rw[l.1,e.1];simp;omega)) λt B=>?_;have i:t=A_.take v.toNat++[(TD f[k] m,f[k].1,TD f[k] m)]++A_.drop v.toNat:=by rw[B.1,l.1,e.1];rfl
  have U:θ t=θ A_+1:=by rw[i];simp;omega
  refine AC (λ_=>y! ⟨k,d!,o!,d!,λy=>?_⟩ d!) (O! o! ·);dsimp only;rw[i,V];have C:y∈A_↔y∈A_.take v.toNat\/y∈A_.drop v.toNat:=by
   conv=>lhs;rw[<-Cr v.toNat A_]
   exact Al
  rw[Al,Al,A7];constructor;rintro((q|q)|q);obtain⟨z,L,c⟩:=(g y).1 (C.2 (.inl q));exact⟨z,CQ _ L,c⟩;exact⟨_,H4,o!,q⟩;obtain⟨z,L,c⟩:=(g y).1 (C.2 (.inr q));exact⟨z,CQ _ L,c⟩;rintro⟨z,L,c,w⟩;rcases A3.1 L with rfl|L;exact .inl (.inr w);rcases C.1 ((g y).2 ⟨z,L,c,w⟩)with q|q;exact .inl (.inl q);exact .inr q
theorem AEc{x:Ai}(a:C1 g=δ f)(k:θ f<=1000)(i:∀x∈f,∀y∈f,x.1=y.1->x=y)(d:x∈f):Na (g,x.1)=δ (x,ζ):=by
 suffices c:Ao (Ad (PE (g,x.1) f) (0,0,0,[])) λr=>r=.inl (ζ,x) by obtain⟨r,hr,rfl⟩:=c;grind[Na]
 refine CE (λ(s:Int×Ai)=>∃j:Nat,s.1=j/\j<=θ f/\x∉f.take j) (λs=>θ f-s.1.toNat) ⟨0,rfl,Bh _,k!⟩ ?_;rintro⟨_,o⟩ ⟨j,rfl,V,hn⟩;unfold PE;dsimp[len];refine AC (λb=>?_) (λb=>O! d q!);rw[AC4 o!,AD,AD];apply AT<;>intro e
 ·grind[Ao.done]
 ·rw[AX (x:=(j:Int)+1)];refine Ao.next ⟨j+1,rfl,o!,λh=>?_⟩ q!
  grind[AA1]
theorem AG1(c:θ h<=100000):Ao (E4 (h,b)) λr=>θ r<=θ h+1:=by
 refine AA (P:=λ(r:Int)=>0<=r/\r<=θ h) ?_ λr hr=>?_
 ·refine CE (λ(t:Int)=>0<=t/\t<=θ h) (λt=>θ h-t.toNat) ⟨AY _,o!⟩ ?_;rintro t ⟨i,j⟩;unfold QA;dsimp[len];refine AC (λf=>AA (AE i f) λv _=>?_) (λf=>Ao.done ⟨i,j⟩);rw[AX (x:=t+1)];exact AC (λ_=>Ao.next o! o!) (λ_=>Ao.done ⟨i,j⟩)
 have⟨g,k⟩:=hr;have e:Ao (σ (WB h 0 r) λl=>σ (WB h r (len h)) λm=>σ (app [] l) λn=>σ (app n ([b]:List Int)) λo=>σ (app o m) λp=>δ p) λr=>θ r<=θ h+1:=by refine AA (Bs (AY _) g k) λa q=>AA (Bs g q! q!) λd s=>?_;grind[AA,Ac,List.length_nil,List.length_singleton,AB]
 dsimp only;exact AC (λf=>AA (AE g q!) λv _=>AT (λ_=>AB o!) (λ_=>e)) (λf=>e)
theorem AEt{d:List EN}(h:AR a j)(n:0<=b/\b<j.2.1)(c:Fg (j,e,b,m,o)=δ (d,0)):Ao (Hl (j,e,b,m,o)) λ_=>True:=by
 unfold Hl;rw[c,AD,H!,A!];refine AA (wB (l:=e) h n) λw i=>?_;obtain⟨M,v,t,_,rfl,_,_,f⟩:=i;have q:θ M<=256:=by have:=f.1;rwa [BY]at this
 refine AA (P:=λ_=>True) (AC (λ_=>AB trivial) (λ_=>AB trivial)) λy _=>AA (P:=λ_=>True) (CE (λ(s:List Int×Int)=>∃p:Nat,s.2=p/\p<=θ M/\θ s.1<=p) (λs=>θ M-s.2.toNat) ⟨0,rfl,Bh _,Am _⟩ ?_) λA_ _=>AB trivial;rintro⟨l,_⟩ ⟨p,rfl,u,c⟩;unfold U6;dsimp[len];have k:(M.map (·.1)).length=θ M:=BY _;have L:(M.map (·.2)).length=θ M:=BY _;refine AC (λg=>?_) (λg=>Ao.done trivial);rw[AC4 (l:=M.map (·.1)) (show p<_ by omega),AD,AX (x:=(p:Int)+1)];refine AA (P:=λ_=>True) (AC (λ_=>AC (λ_=>AB trivial) (λ_=>AB trivial)) (λ_=>AB trivial)) λz _=>AA (P:=λr=>θ r<=p+1) ?_ λr hr=>Ao.next ⟨p+1,rfl,o!,hr⟩ q!
 rw[AC4 (l:=M.map (·.2)) (show p<_ by omega),AD];grind[AA,AG1,AB]
theorem zW{n}{F f}{j k:Nat}(x:LI b a)(l:GF a)(g:AR a n)(L:QH a e)(R:k<=Z a)(h:0<=m/\m<n.2.1)(c:m<64)(K:VN n m o F)(B:wK (ka n e o) k f)(u:BW (a.take j) m<=k):Ao (Hm (st (a.take j) m,n,e,(k:Int))) λr=>(f<=BW (a.take j) m/\r=(st (a.take k) m,0)/\Ao (Hl (n,e,m,BW (a.take j) m,(k:Int))) λ_=>True)\/(¬f<=BW (a.take j) m/\r.2≠0):=by
 have y:=L.len;have⟨i,p,w,A_⟩:=AGW l u;rw[<-w,<-A_];rw[<-w]at u;have H:=T1 l m i;have I:=WA (l.take i) m;rw[BK]at I;have⟨J,G,M,t⟩:=AJ4 x l g L (i:=BW (a.take i) m) (j:=(k:Int)) H o! u h;have s:=K.uniq g.vb.1 rfl rfl M;subst s;have E:(∀q,BW (a.take i) m<q->q<=k->ka n e o q)↔f<=BW (a.take i) m:=by have⟨N,O,P,Q⟩:=B;grind
 refine AA ND λT C=>AP (λd=>O! (C.2 g.vb) (by simp[d])) (λ_=>AA BM λU D_=>AP (λd=>O! (D_.2 L.vl) (by simp[d])) (λ_=>?_));rw[Y3 ((Xq l ⟨h.1,c⟩ (by omega:Z a<=1099511627776)) i),AD];refine AK (O! rfl ·) (λ_=>?_);dsimp only;rw[Kh,S0,F! o!,A!];rcases t with⟨z,v⟩|⟨z,v⟩;have S:=AEt g h v;rw[v,AD];dsimp only;rw[H!,A!,show a.filter (Ki m (BW (a.take i) m) k)=((a.take k).drop i).filter (cI m) by
  rw[show BW (a.take i) m=(((BW (a.take i) m).toNat:Nat):Int) by omega,zL l o!,nG l (j:=i) o! (XH l)],zY (vf l x ⟨h.1,c⟩ o! i k p) (by
  have:=EV (cI m) ((a.take k).drop i);rw[Dr,BK]at this;omega),<-jr p,AD]
 grind[AB];grind[p?,AB]
theorem zX{n d:Int}{L:List EN}{a:AL}{l:Aa}{p lo hi c:Int}{k m:Nat}{t:List AS}(hL:LI n L)(D_:GF L)(hA:AR L a)(S:QH L l)(hk:k≤L.length)(hm:(m:Int)=a.2.1)(hn:1≤m∧m≤64)(h8:t.length≤8)(hf: ∀f∈t,FI L d m f)(hp:0≤p∧p<a.2.1)(p1:VN a p lo hi)(W:wK (ka a l lo) k c):
  Ao (KY (t,(a,(l,(p,(k:Int)))))) λr=>(r.2.2=49/\c≠0/\ ∀x,Ql L d m t t.length x->TD x p<=k-> ¬c<=TD x p)\/(r.2.2=0/\r.1=st (L.take k) p/\(c=0\/ ∃x,Ql L d m t t.length x/\TD x p<=k/\c<=TD x p)):=by
 have ar:=S.len;have G:p<64:=by omega
 have pm:0<=p/\p<m:=⟨hp.1,by omega⟩
 have⟨V,hV,v8,H⟩:=uI D_ (by omega) hn h8 (λf q=>.inl (hf f q));have hP: ∀x∈V,PI L d m x:=λx K=>by have⟨i,f,_,_,q⟩:=(H x).1 K;exact q.2.2.1
 have hu: ∀x∈V,∀y∈V,x.1=y.1->x=y:=λx K w hw e=>Ql.uniq D_ (by omega) hn ((H x).1 K) ((H w).1 hw) e;unfold KY;dsimp only;refine AA ND λv0 h0=>AP (λI=>absurd (h0.2 hA.vb) (by simp[I])) (λ_=>AA BM λv1 h1=>AP (λI=>absurd (h1.2 S.vl) (by simp[I])) (λ_=>?_));rw[decide_eq_false (by omega),cond_false,decide_eq_false (by omega),cond_false,decide_eq_false (by omega),cond_false,hV,AD];refine AA (AJm (x:=(t,(a,(l,(p,(k:Int)))))) D_ (by omega) hn v8 hP pm rfl rfl) λQ Z=>?_;have⟨r8,o⟩:=Z;refine AA (Ac (by rw[gT];omega)) λb ad=>?_;have ax:b.length<=9:=by grind[List.length_singleton]
 have E:=ad.1;refine AA (P:=λ(r:(Int×AV×Gs)⊕ (AV×Gs))=>((∃z,r= .inr z)/\ ∀y∈b,¬c<=y.1)\/ ∃y:Gs,r= .inl (0,(st (L.take k) p,y))/\(c=0\/ ∃x,Ql L d m t t.length x/\TD x p<=k/\c<=TD x p)) ?_ λr ao=>?_
 ·refine CE (λ(s:Int×AV×Gs)=> ∃i:Nat,s.1=i/\i<=b.length/\ ∀y∈b.take i,¬c<=y.1) (λs=>b.length-s.1.toNat) ⟨0,rfl,Bh _,λy hy=>by simp at hy⟩ ?_;rintro⟨_,s⟩ ⟨i,rfl,i1,i2⟩;unfold Ry;dsimp[len];refine AC (λI=>?_) (λI=>Ao.done (.inl ⟨⟨_,rfl⟩,by rwa [BG (by omega)]at i2⟩));have B:i<b.length:=by omega
  have al:=AC4 B;have u:b[i]∈Q++[(0,(0,0))]:=by grind[List.getElem_mem]
  have T: ¬c<=b[i].1-> ∀y∈b.take (i+1),¬c<=y.1:=λh y hy=>by grind[AA1,List.mem_singleton]
  rw[show EP p=some (st (L.take 0) p)from rfl,AD,al,AD,AD,AX (x:=(i:Int)+1) (by omega)];simp only[AD];generalize hy:b[i]=y at u T;refine AC ?_ ?_<;>intro v
  ·have N:y∈Q:=by grind[List.mem_singleton]
   have⟨z,R,z1,U⟩:=(o y).1 N;have⟨j,hj,x1,x2,ex⟩:=hP z R;have A_:TD z p=BW (L.take j) p:=by grind[sT]
   have g:=AF1 D_ (by omega:L.length<=1099511627776) (k:=j) ⟨x1,x2⟩ hn pm;rw[c!,<-ex]at g;have y1:y.2.1=z.1:=by rw[U]
   have y0:y.1=BW (L.take j) p:=by rw[U,<-A_]
   rw[y1,AEc hV (by omega) hu R,AD,g,AD,y0];refine AA (zW hL D_ hA S hk hp G p1 W (j:=j) (by rw[<-A_];exact z1)) λa0 ag=>?_;rcases ag with⟨C,rfl,Y_⟩|⟨C,X_⟩
   ·dsimp only;rw[bne_self_eq_false,cond_false];exact AA Y_ λa1 _=>Ao.done (.inr ⟨_,rfl,.inr ⟨z,(H z).1 R,z1,by rw[A_];exact C⟩⟩)
   ·exact AK (λ_=>Ao.next ⟨i+1,rfl,B,T (by rw[y0];exact C)⟩ (by dsimp only;omega)) (λh=>absurd h X_)
  ·have M:y=(0,(0,0)):=by
    rcases Al.1 u with q|q
    ·have⟨z,R,z1,U⟩:=(o y).1 q;have⟨j,hj,x1,x2,ex⟩:=hP z R;rw[U]at v;exact absurd (Int.lt_of_lt_of_le (by decide) x1) v
    ·exact A7.1 q
   have l0:BW (L.take 0) p=0:=rfl;refine AA (zW hL D_ hA S hk hp G p1 W (j:=0) (by rw[l0];omega)) λa2 F=>?_;rw[M];rw[M]at T;rw[l0]at F;rcases F with⟨C,rfl,Y_⟩|⟨C,X_⟩
   ·dsimp only;rw[bne_self_eq_false,cond_false];exact AA Y_ λa3 _=>Ao.done (.inr ⟨_,rfl,.inl (by have:=W.1;omega)⟩)
   ·exact AK (λ_=>Ao.next ⟨i+1,rfl,B,T C⟩ (by dsimp only;omega)) (λh=>absurd h X_)
 ·rcases ao with⟨⟨z,rfl⟩,J⟩|⟨y,rfl,O⟩
  ·refine Au (AB (.inl ⟨rfl,λe=>?_,λx K ap=>?_⟩))
   ·have:=J (0,(0,0)) (by rw[E];simp);dsimp only at this;omega
   ·exact J (TD x p,(x.1,TD x p)) (by rw[E];exact FA _ ((o _).2 ⟨x,(H x).2 K,ap,rfl⟩))
  ·exact BB (AB (.inr ⟨rfl,rfl,O⟩))
theorem AJL{x:List AS×List AS}{i:Int}{o:List AS}{f:AS}(h:0<=i)(g:x.1[i.toNat]? =some f)(t:x.2.length<=16777216):Ao (Ad (PJ x (i,o)) (false,0)) λr=>r=KZ x.2 f:=by
 have u:=CZ g;have p:ix x.1 i=some f:=by have⟨v,e,q,_⟩:=AE (l:=x.1) h (by omega);rw[e,<-g,q]
 refine CE (λ(s:Bool×Int)=>0<=s.2/\s.2<=x.2.length/\s.1=KZ (x.2.take s.2.toNat) f) (λs=>((x.2.length:Int)-s.2).toNat) ⟨AY _,by dsimp only;omega,rfl⟩ ?_;rintro⟨b,k⟩ ⟨k0,k1,a⟩;dsimp only at k0 k1 a;unfold PJ;dsimp only[len];refine AC (λj=>?_) (λ_=>Ao.done (by rw[a,BG (by omega)]));have⟨v,n,m,_⟩:=AE k0 j;have d:KZ (x.2.take (k+1).toNat) f=(KZ (x.2.take k.toNat) f||(v.1==f.1&&v.2.1==f.2.1)):=by rw[show(k+1).toNat=k.toNat+1 by omega,CC,m];simp[KZ,List.any_append]
 rw[AX (by omega)];refine AJ (λc=>Ao.next ⟨by dsimp only;omega,by dsimp only;omega,?_⟩ (by dsimp only;omega)) (λc=>?_)
 ·dsimp only;rw[d,<-a,c];rfl
 ·rw[n,AD,p,AD];refine AT (λe=>?_) (λe=>Ao.next ⟨by dsimp only;omega,by dsimp only;omega,?_⟩ (by dsimp only;omega))
  ·simp only[AD];refine Ao.next ⟨by dsimp only;omega,by dsimp only;omega,?_⟩ (by dsimp only;omega)
   dsimp only;rw[d,<-a,c,e];simp
  ·dsimp only;rw[d,<-a,c,beq_eq_false_iff_ne.2 e];rfl
def AAX(p:θ k.1<=16777000)(h:θ k.2<=16777216):Hp k=δ (Eg k.2 k.1):=by
 suffices l:Ao (Hp k) λr=>r=Eg k.2 k.1 by obtain⟨r,hr,rfl⟩:=l;exact hr
 unfold Hp;refine AA (P:=λr=>r=Eg k.2 k.1) ?_ λr hr=>AB hr;refine CE (λ(s:Int×List AS)=>0<=s.1/\s.1<=θ k.1/\s.2=Eg k.2 (k.1.take s.1.toNat)) (λs=>((θ k.1:Int)-s.1).toNat) ⟨AY _,d!,rfl⟩ ?_;rintro⟨i,o⟩ ⟨e,n,a⟩;dsimp only at e n a;unfold VE;dsimp only[len];refine AC (λx=>?_) (λ_=>Ao.done (by rw[a,BG o!]));have⟨v,m,f,_⟩:=AE e x;have g:Eg k.2 (k.1.take (i+1).toNat)=Eg k.2 (k.1.take i.toNat)++(if KZ k.2 v then []else [v]):=by rw[show(i+1).toNat=i.toNat+1 by omega,CC,f];unfold Eg;rw[F7];simp[LR];cases KZ k.2 v<;>rfl
 have q:θ o<=i.toNat:=by rw[a];apply Cs (VF _ _).length_le;rw[BK];omega
 refine AA (AJL e f h) λb j=>?_;subst j;rw[AX];refine AA (P:=λr=>r=Eg k.2 (k.1.take (i+1).toNat)) (AP (λc=>?_) (λc=>AB ?_)) λw d=>Ao.next ⟨d!,d!,d⟩ d!
 rw[m,AD];refine AA (Ac w!) λw d=>AB ?_;rw[d.1,g,a,c];rfl;rw[g,a,c];simp
theorem AEr{x:Bg×List AS}{k c:Nat}(B:LI b a)(M:GF a)(A_:AR a x.1.2.2.1)(l:QH a x.1.1.2.2.1)(hr:RC x.1.2.2.1 c)(T:d<=θ a)(N:x.1.1.2.2.1.2.2=d)(U:(k:Int)=x.1.2.2.1.2.1)(hn:1<=k/\k<=64)(h8:θ x.1.2.2.2.1<=8)(Q:∀f∈x.1.2.2.2.1,FI a m k f)(D_:θ x.2<=16777216):Ao (Jk x) λL=>L=ζ↔∀p:Int,0<=p->p<k->OKp a m k (x.1.2.2.1.1,x.1.2.2.1.2.1,Eg x.2 x.1.2.2.1.2.2.1,x.1.2.2.1.2.2.2) x.1.1.2.2.1 (Eg x.2 x.1.2.2.2.1) d p:=by
 have⟨a1,a2,_⟩:=A_.less (VF x.2 _) hr;have s1:=(VF x.2 x.1.2.2.2.1).length_le;have s2:=A_.vb.2.2.2.2.2.1;have C:=l.len;unfold Jk PH;rw[AAX d! D_,AD,AAX d! D_,AD,AD];refine AA ND λv0 I=>AP (λn=>O! (I.2 a1.vb) (by simp[n])) (λ_=>AA BM λv1 J=>AP (λn=>O! (J.2 l.vl) (by simp[n])) (λ_=>AA (P:=λr=>(r=.inl η/\∃p:Int,0<=p/\p<k/\¬OKp a m k (x.1.2.2.1.1,x.1.2.2.1.2.1,Eg x.2 x.1.2.2.1.2.2.1,x.1.2.2.1.2.2.2) x.1.1.2.2.1 (Eg x.2 x.1.2.2.2.1) d p)\/(r=.inr ()/\∀p:Int,0<=p->p<k->OKp a m k (x.1.2.2.1.1,x.1.2.2.1.2.1,Eg x.2 x.1.2.2.1.2.2.1,x.1.2.2.1.2.2.2) x.1.1.2.2.1 (Eg x.2 x.1.2.2.2.1) d p)) ?_ λr h=>by grind[BB,AB,Au]))
 refine CE (λ(s:Int)=>0<=s/\s<=k/\∀p:Int,0<=p->p<s->OKp a m k (x.1.2.2.1.1,x.1.2.2.1.2.1,Eg x.2 x.1.2.2.1.2.2.1,x.1.2.2.1.2.2.2) x.1.1.2.2.1 (Eg x.2 x.1.2.2.2.1) d p) (λs=>((k:Int)-s).toNat) ⟨AY _,o!,λp o e=>o!⟩ (λs K=>?_);have⟨z,i1,F⟩:=K;unfold RF;dsimp only;rw[N];refine AC (λn=>?_) (λn=>Ao.done (.inr ⟨rfl,λp o e=>F p o o!⟩));have⟨V,R,G,e,t,_,_⟩:=uH (p:=s) (i:=0) (j:=(d:Int)) (CPa 4096) g! B o! (AY _) o! o! a1 l ⟨z,d!⟩;rw[AX];refine AA (zX B M a1 l T U hn o! (λf q=>Q f ((VF _ _).subset q)) ⟨z,d!⟩ e t) λr h=>AK (λy=>Ao.done (.inl ⟨rfl,s,z,o!,?_⟩)) (λE=>Ao.next ⟨o!,o!,λp o g=>?_⟩ o!);rcases h with⟨_,X_,Y_⟩|⟨q,_⟩;rintro⟨W,S,H,g,u,q⟩;have w:=e.uniq a1.vb.1 rfl rfl g;subst w;have v:=t.uniq (λ_=>Iff.rfl) u;subst v;rcases q with q|⟨x,Z,x2,x3⟩;exact X_ q;exact Y_ x Z x2 x3;exact O! q y;by_cases O:p=s;rcases h with⟨q,_⟩|⟨_,_,q⟩;rw[q]at E;cases E;rw[O];exact⟨V,R,G,e,t,q⟩;exact F p o o!
def AO(m:Nat)(a:CI):Prop:=HL a.2.2.2.1/\Z a.2.2.2.2.2.1<=m
theorem AFq{x:CI×AI}{m:Nat}(h:AO m x.1)(c:m<=1000000):Ao (Hh x) λr=>r.2=0->AO (m+1) r.1:=by
 unfold Hh;have⟨a2,a3⟩:=h;have a4:=a2.1;repeat' with_reducible first|refine AC ?_ ?_<;>intro b|refine AK ?_ ?_<;>intro b|refine AJ ?_ ?_<;>intro b|(refine BA ?_;try dsimp only)|refine Bi ?_|refine B0 ?_|refine LN ?_|(refine BB ?_;try dsimp only)|(refine Au ?_;try dsimp only)|refine AB ?_|(refine AA ACY ?_;intro r hr)|(refine AM ?_ (Ec ?_);intro r hr)|(refine AA (O4) ?_;intro r hr)|(refine AA (P1) ?_;intro r hr)|(refine AA (CD) ?_;intro r hr)|(refine AM ?_ (Ux ?_);intro r hr)
 all_goals try dsimp[len]at*
 all_goals first|omega|(intro a;exact absurd a (by assumption))|(intro a;exact absurd a (by decide))|(intro _;unfold AO;exact⟨by grind,by first|omega|grind⟩)|grind
def ADa{x}:Ao (MW x) λr=>r.2=0->AO 65536 r.1:=by
 refine AA Te λh e=>AP (λ_=>?_) (λa=>?_);refine AC (λa=>AB n!) (λ_=>AA I8 λi g=>AB λ_=>⟨⟨k!,λt f=>by simp at f⟩,k!⟩)
 have⟨⟨c,d⟩,_⟩:=e a;exact AK (λa=>AB n!) (λhn=>AB λ_=>⟨c.2.2.1.hl,d⟩)
theorem ADP{x:Aa×Int}:Ao (FL x) λr=>r.2=0->HL r.1.2.2.2.1/\θ r.1.2.2.2.2.2.1<=70000:=by
 unfold FL;refine AA BM λv G=>AP (λ_=>AB n!) (λb=>?_);have F:=G.1 b;have B:=F.2.2.1;refine AC (λ_=>AB n!) (λ_=>AC (λ_=>AB n!) (λ_=>AA ADa λT C=>AK (λb=>AB λa=>O! a b) (λq=>?_)));have E:=C q;refine AA (P:=λr=>(∀u,r=.inl u->u.1≠0)/\∀u,r=.inr u->AO 70000 u.1) ?_ λr hr=>BE (λu c=>AB λa=>O! a (hr.1 u c)) (λu c=>?_);refine AW (λ(s:Int×CI×CI)=>0<=s.1/\s.1<=θ x.1.2.1/\AO (65536+s.1.toNat) s.2.1) (λ(s:Int×CI×CI)=>((θ x.1.2.1:Int)-s.1).toNat) ⟨AY _,d!,by simpa using E⟩ (λs n=>?_);have⟨h,H,j⟩:=n;unfold Ls;have e:=AX (x:=s.1+1);rw[e];refine AC (λb=>?_) (λ_=>AB ⟨λu c=>(by cases c),λu c=>?_⟩);simp[len]at b;have⟨d,z⟩:=j;have J:AO (65536+(s.1+1).toNat) s.2.1:=⟨d,o!⟩
 refine AA (AE h b) λU R=>AC (λo=>AB ⟨⟨d!,d!,J⟩,d!⟩) (λo=>AA (AE h b) λV S=>AA (AFq j o!) λW A_=>?_);rw[show(65536+s.1.toNat)+1=65536+(s.1+1).toNat by omega]at A_;exact AK (λp=>AB ⟨λu c=>(by cases c;exact p),λu c=>(by cases c)⟩) (λa=>AB ⟨⟨d!,d!,A_ a⟩,d!⟩);cases c;have⟨d,z⟩:=j;exact⟨d,o!⟩;have⟨d,z⟩:=hr.2 u c;have I:=d.1;refine AA (P:=λl=>HL l) ?_ λO g=>?_;refine AW (λ(s:Int×List Ak)=>0<=s.1/\s.1<=θ u.1.2.2.2.1/\θ s.2<=s.1/\∀t∈s.2,θ t.2.2.2.2.1<=4097) (λ(s:Int×List Ak)=>((θ u.1.2.2.2.1:Int)-s.1).toNat) ⟨AY _,d!,k!,λt i=>by simp at i⟩ (λs n=>?_);have⟨h,H,j,y⟩:=n;unfold Lu;have e:=AX (x:=s.1+1);rw[e];refine AC (λb=>?_) (λ_=>AB ⟨o!,y⟩);simp[len]at b;refine AA (AE h b) λK _=>AA (P:=λl=>θ l<=θ s.2+1/\∀t∈l,θ t.2.2.2.2.1<=4097) ?_ λN f=>AB ⟨⟨d!,d!,by have:=f.1;dsimp only;omega,f.2⟩,d!⟩;refine AC (λ_=>AA (AE h b) λL k=>AA (Ac w!) λM m=>AB ⟨?_,λt i=>?_⟩) (λ_=>AB ⟨o!,y⟩);grind;rw[m.1]at i;rcases Al.1 i with w|w;exact y t w;simp at w;rw[w];exact d.2 _ k.2;exact AA (Uy g) λQ D_=>AK (λb=>AB λa=>O! a b) (λa=>AB λ_=>⟨g,z⟩)
theorem AGn{l:Aa}(h:Dg l):Ao (EG (l,0)) λr=> ∃(H:Bc) (m:List EN),H.length=12/\r=HD H++Hw m/\m.length<=4096/\ ∀e∈m,e∈l.2.1:=by
 have W:=h.2.2.1;unfold EG;refine AA BM λv K=>AP (λt=>absurd (K.2 h) (by simp[t])) (λ_=>?_);have q:(([80,77,76,71]:Bc)++DE l.1 8).length=12:=by rw[Ae,A0];rfl
 refine AA (P:=λr=>r=HD (([80,77,76,71]:Bc)++DE l.1 8)) ?_ λY_ F=>?_
 ·unfold Js;rw[HQ (by decide) (by decide) (by decide),AD,Y4 (by rw[show(8:Int).toNat=8 from rfl,q];decide),AD];exact AB rfl
 subst F;generalize I:(([80,77,76,71]:Bc)++DE l.1 8)=H at*;have d:(HD H).length=20:=by rw[EA,q]
 have z: ∀A_:List EN,(∀e∈A_,e∈l.2.1)->(Hw A_).length<=8400*A_.length:=λA_ G=>nJ λe f=>h.ent (G e f);refine AA (P:=λ(r:Bc×Bc)=> ∃A_:List EN,r.1=HD H++Hw A_/\A_.length<=4096/\ ∀e∈A_,e∈l.2.1) ?_ λg n=>?_
 ·refine CE (λ(s:Bc×Bc×Int)=> ∃A_:List EN,s.1=HD H++Hw A_/\(∀e∈A_,e∈l.2.1)/\A_.length<=s.2.2/\s.2.1.length<=8400*s.2.2/\0<=s.2.2/\s.2.2<=l.2.1.length) (λs=>((l.2.1.length:Int)-s.2.2).toNat) ⟨[],by simp[Hw],λe f=>(by cases f),by simp,by simp,AY _,by dsimp only;omega⟩ ?_;rintro⟨a,b,i⟩ ⟨A_,C,j,M,N,D_,O⟩;dsimp only at C M N D_ O;subst C;unfold Nx;dsimp only[len];refine AC (λt=>?_) (λ_=>Ao.done ⟨A_,rfl,by omega,j⟩);have⟨e,f,X_,u⟩:=AE D_ t;have J:=QQ (h.ent u);have:=z A_ j;rw[f,AD,AX (by omega)];simp only[AD];rw[ACv (h.ent u),AD,AD];refine AA (P:=λ(r:Bc×Bc)=> ∃B:List EN,r.1=HD H++Hw B/\(∀e∈B,e∈l.2.1)/\B.length<=i+1/\r.2.length<=8400*(i+1)) ?_ λr ⟨B,Q,R,S,T⟩=>Ao.next ⟨B,Q,R,S,T,by dsimp only;omega,by dsimp only;omega⟩ (by dsimp only;omega)
  refine AC (λ_=>AA (Cb (by rw[Ae,d,EA];omega)) λV p=>AB ⟨A_++[e],?_,λx L=>?_,?_,by dsimp only;omega⟩) (λ_=>AA (Cb (by rw[EA];omega)) λV p=>AB ⟨A_,rfl,j,by omega,?_⟩)
  ·dsimp only;rw[p.1,QR,A5]
  ·rcases Al.1 L with w|w
   ·exact j x w
   ·rw[A7.1 w];exact u
  ·rw[Ae,gT];omega
  ·dsimp only;rw[p.1,Ae,EA];omega
 ·obtain⟨A_,a1,a2,a3⟩:=n;have:=z A_ a3;have E:(if((len g.2)<(if((0:Int)>0)then 0 else 0))then(len g.2)else(if((0:Int)>0)then 0 else 0))=0:=by rw[if_neg (by simp only[len];split<;>omega)];rfl
  dsimp only;rw[E];refine AA (Cj (AY _) (AY _) (by omega)) λy c=>AA (Cb (by have:=c.2;rw[a1,Ae,d];omega)) λU o=>AB ⟨H,A_,q,?_,a2,a3⟩;have k:y=[]:=dW.1 (by have:=c.2;omega);rw[o.1,a1,k,D1]
def AIu{H:Bc}(v:Z H=12)(hn:Z a<=4096)(c:∀e∈a,Ml e):Ao (FU (HD H++Hw a)) λr=>∀e∈r.1.2.1,e∈a:=by
 have D_:=nJ c;have i:(HD H).length=20:=by rw[EA,v]
 unfold FU;have h:Bd (HD H++Hw a,0)=D (H,20,0):=by refine(Pb (a:=[]) (t:=HD H++Hw a) w!).trans (E! D ?_);rw[bM o!,v];rfl
 rw[h,AD];refine AK (O! rfl ·) (λ_=>AK (y? λe c=>by cases c) (λ_=>AA (Cj g! g! d!) λJ _=>AK (y? λe c=>by cases c) (λ_=>AA (DB d!) λK _=>AC (y? λe c=>by cases c) (λ_=>AC (y? λe c=>by cases c) (λ_=>AA (P:=λr=>∃k:Nat,(∃u,r=.inl u/\u.2.2.1=a.take k)\/∃u,r=.inr u/\u.1=a.take k) ?_ λr hr=>?_)))))
 ·refine CE (λs=>∃k:Nat,k<=Z a/\s.1=((HD H++Hw (a.take k)).length:U)/\s.2.1=a.take k) (Z a-Z ·.2.1) ⟨0,Bh _,by simp[Hw,i],k!⟩ ?_;rintro⟨B,E,z⟩ ⟨k,F,w,x⟩;dsimp only at w x;subst w x;have n:(a.take k).length=k:=by rw[BK];omega
  unfold Ov;dsimp only[len];refine AC (λC=>?_) (λC=>k? ⟨k,.inr ⟨_,rfl,rfl⟩⟩);have f:Hw a=Hw (a.take k)++Hw (a.drop k):=by rw[<-iw,Cr]
  have m:HD H++Hw a=(HD H++Hw (a.take k))++Hw (a.drop k):=by rw[f,A5]
  have o:=E! Z m;rw[@Ae _ (HD H++Hw (a.take k)) _,Ae,i]at o;have h:Bd (HD H++Hw a,((HD H++Hw (a.take k)).length:U))=D (UF (HD H++Hw (a.take k)).length (Hw (a.drop k))):=by
   conv=>lhs;arg 1;rw[m]
   exact Pb o!
  rw[h,AD];refine AK (λp=>k? ⟨k,.inl ⟨_,rfl,rfl⟩⟩) (λp=>?_);by_cases d:k<Z a
  ·have j:=c _ (Of d);rw[J4 d,mD,bM (QQ j)];dsimp only;rw[AB5 j,AD];refine AK (O! rfl ·) (λ_=>AK (λp=>k? ⟨k,.inl ⟨_,rfl,rfl⟩⟩) (λ_=>?_));have l:a.take (k+1)=a.take k++[a[k]]:=by rw[CC,Ar d];rfl
   refine AA (Ac (by rw[CY,CO];omega)) λL q=>y! ⟨k+1,d,?_,?_⟩ ?_
   dsimp only;rw[l,QR,<-A5,Ae (bs:=HD (B5 a[k])),EA];omega;dsimp only;rw[q.1,l];dsimp only;rw[q.2.1,n];simp only[CY,CO];omega
  exfalso;obtain⟨G,⟨y,A_⟩,I⟩:=wg p;rw[M9 o!]at A_;have:=E! Z A_;rw[Ae,EA,show Hw ([]:Ψ EN)=[]from rfl]at this;simp only[CO]at this;omega
 obtain⟨k,⟨u,rfl,h⟩|⟨u,rfl,h⟩⟩:=hr;exact BB (AB λe c=>by dsimp only at c;rw[h]at c;exact Fv c);exact Au (AB λe c=>by dsimp only at c;rw[h]at c;exact Fv c)
def ABD(h:∀x∈e.2.1,x.2.1≠8):Ao (LK e) λr=>r.2.2=η:=by
 unfold LK;refine AA BM λv f=>AP (λ_=>AB rfl) (λa=>?_);have j:=(f.1 a).2.2.1;refine AA (P:=λr=>∃u,r=.inr u) ?_ λr ⟨u,d⟩=>by rw[d];exact Au (AB rfl)
 dsimp only[len];rw[AX];refine CE (λ(s:Int×HW)=> -1<=s.1/\s.1<θ e.2.1) (λs=>(s.1+1).toNat) d! ?_;rintro⟨i,m⟩ ⟨g,b⟩;dsimp only at g b;unfold Sx;dsimp only;refine AC (λa=>?_) (λ_=>Ao.done ⟨_,rfl⟩);rw[AX];exact AA (AE a b) λx c=>AK (λ_=>Ao.next d! d!) (λq=>O! q (h x c.2))
def ABE(h:∀x∈e.2.1,x.2.1≠8):Ao (IR e) λr=>r.2.2=η:=by
 unfold IR;refine AA BM λv f=>AP (λ_=>AB rfl) (λa=>?_);have j:=(f.1 a).2.2.1;refine AA (P:=λr=>∃u,r=.inr u) ?_ λr ⟨u,d⟩=>by rw[d];exact Au (AB rfl)
 dsimp only[len];rw[AX];refine CE (λ(s:Int×Ie)=> -1<=s.1/\s.1<θ e.2.1) (λs=>(s.1+1).toNat) d! ?_;rintro⟨i,m⟩ ⟨g,b⟩;dsimp only at g b;unfold Sy;dsimp only;refine AC (λa=>?_) (λ_=>Ao.done ⟨_,rfl⟩);rw[AX];exact AA (AE a b) λx c=>AK (λ_=>Ao.next d! d!) (λq=>O! q (h x c.2))
def ACB{x:Int×List Ah}(h:θ x.2<=1000000):Ao (Ho x) λr=>r<=x.1:=by unfold Ho;refine AA (P:=λr=>r<=x.1) ?_ λr hr=>AB hr;refine CE (λ(s:Int×Int)=>s.1<=x.1/\0<=s.2/\s.2<=θ x.2) (λs=>((θ x.2:Int)-s.2).toNat) ⟨AY _,AY _,d!⟩ ?_;rintro⟨m,i⟩ ⟨a,b,d⟩;dsimp only at a b d;unfold VD;dsimp only[len];refine AC (λc=>?_) (λ_=>Ao.done a);rw[AX];exact AA (AE b c) λv _=>Ao.next ⟨by dsimp only;split<;>omega,d!⟩ d!
def AF3{x:Int×List Ak}(h:HL x.2):Ao (Hn x) λr=>r<=x.1:=by
 have f:=h.1;unfold Hn;refine AA (P:=λr=>r<=x.1) ?_ λr hr=>AB hr;refine CE (λ(s:Int×Int)=>s.1<=x.1/\0<=s.2/\s.2<=θ x.2) (λs=>((θ x.2:Int)-s.2).toNat) ⟨AY _,AY _,d!⟩ ?_;rintro⟨m,i⟩ ⟨b,c,o⟩;dsimp only at b c o;unfold Rz;dsimp only[len];refine AC (λa=>?_) (λ_=>Ao.done b);rw[AX];have⟨t,k,_,g⟩:=AE c a;have q:=h.2 t g;refine AA (P:=λr=>r<=x.1) ?_ λv l=>Ao.next ⟨l,d!⟩ d!
 refine CE (λ(s:Int×Int)=>s.1<=x.1/\0<=s.2/\s.2<=θ t.2.2.2.2.1) (λs=>((θ t.2.2.2.2.1:Int)-s.2).toNat) ⟨b,AY _,d!⟩ ?_;rintro⟨n,j⟩ ⟨d,e,p⟩;dsimp only at d e p;unfold R0;dsimp only[len];rw[k,AD];refine AC (λa=>?_) (λ_=>Ao.done d);rw[AX,AD];exact AA (AE e a) λv _=>Ao.next ⟨by dsimp only;split<;>omega,d!⟩ d!
def AGr{x:AQ×AL}(z:SB x.1)(i:Dg x.1.2.2.1)(y:∀e∈x.1.2.2.1.2.1,e.2.1≠8)(A_:HL x.1.2.2.2.2.2.1)(w:Z x.1.2.2.2.2.2.2.2<=1000000):Ao (Kr x) λr=>r.2=0->x.1.2.2.1.1<=r.1/\r.1<=x.1.2.2.1.2.2+1:=by have⟨l1,l2,K,L,M,N⟩:=id i;unfold Kr;refine AA (B3 z) λQ _=>AP (y? n!) (λ_=>AA ND λR _=>AP (y? n!) (λ_=>AA (AGn i) λS o=>?_));obtain⟨H,I,v,rfl,n,l⟩:=o;refine AA (AIu v n λe h=>i.ent (l e h)) λG p=>?_;have m:∀e∈G.1.2.1,e.2.1≠8:=λe h=>y e (l e (p e h));refine AA ADP λT q=>AK (λj=>AB λa=>O! a j) (λk=>?_);have⟨B,O⟩:=q k;rw[AX];refine AA (P:=λr=>r<=x.1.2.2.1.2.2+1) (AT (y? ?_) (y? ?_)) λU J=>?_;split<;>split at* <;>omega;split<;>split at* <;>omega;refine AA (ACB d!) λV s=>AA (ACB w) λW t=>AA Uv λX_ g=>AA (ACB (by have:=g.1;dsimp only;omega)) λY_ u=>AA (AF3 B) λC b=>AA (AF3 A_) λD_ c=>AA (ABD m) λE d=>?_;dsimp only at s t u b c;rw[d,A!];refine AA (ABE m) λF f=>?_;rw[f,A!];refine AB λ_=>?_;dsimp only;split<;>omega
def yJ(h:θ l.1<=1000000):Ao (E4 l) λr=>θ r<=θ l.1+1/\(∀y∈l.1,y∈r)/\l.2∈r:=by
 unfold E4;refine AA (P:=λ(r:Int)=>0<=r/\r<=θ l.1) ?_ λc B=>?_
 ·refine CE (λ(s:Int)=>0<=s/\s<=θ l.1) (λs=>((θ l.1:Int)-s).toNat) ⟨AY _,o!⟩ (λs D_=>?_);have⟨x,t⟩:=D_;unfold QA;dsimp[len];refine AC (λk=>?_) (λ_=>Ao.done ⟨x,t⟩);rw[AX];exact AA (AE x k) λv _=>AC (λ_=>Ao.next o! o!) (λ_=>Ao.done ⟨x,t⟩)
 have⟨g,a1⟩:=B;have d:Ao (σ (WB l.1 0 c) λG=>σ (WB l.1 c (len l.1)) λH=>σ (app [] G) λu=>σ (app u ([l.2]:List Int)) λw=>σ (app w H) λm=>δ m) λr=>θ r<=θ l.1+1/\(∀y∈l.1,y∈r)/\l.2∈r:=by
  refine AA (Bs (AY _) g a1) λa o=>AA (Bs g i! i!) λb p=>?_;have I:=o.2;have F:=p.2;simp only[len]at F;refine AA (Ac w!) λu j=>AA (Ac (by rw[j.1];simp;omega)) λw n=>AA (Ac (by rw[n.1,j.1];simp;omega)) λm C=>AB ?_;have z:a=l.1.take c.toNat:=by rw[o.1];simp
  have A_:b=l.1.drop c.toNat:=by rw[p.1];exact BG (by rw[Dr];simp only[len];omega)
  have i:m=l.1.take c.toNat++[l.2]++l.1.drop c.toNat:=by rw[C.1,n.1,j.1,z,A_];rfl
  refine⟨by rw[i];simp;omega,λy f=>?_,by rw[i];simp⟩;rw[i];rw[<-Cr c.toNat l.1,Al]at f;rcases f with q|q;exact FA _ (FA _ q);exact La _ q
 exact AC (λk=>AA (AE g k) λv E=>AT (λe=>AB ⟨o!,λy f=>f,by rw[<-e];exact E.2⟩) (λ_=>d)) (λ_=>d)
def ACH(p:U)(z:Ai):BP:=(TD z p,z.1,TD z p)
theorem AJn{x:AQ×AL×List AS×Int}{s4:Int×Int×Bx}{L:List EN}{V:List Ai}{d:Int}{m:Nat}{p:Int}(hN:GF L)(W:L.length≤1099511627776)(hn:1≤m∧m≤64)(v8:V.length≤8)(hP: ∀z∈V,PI L d m z)(hu:(V.map (·.1)).Nodup)(Y_:0≤p∧p<m)(e4:s4.2.1=p)(hk:x.1.2.2.1.2.2=L.length):
  Ao (Ad (OJ x s4 V) ([],wi (len V-1))) λr=>r.length=V.length/\r.Pairwise (λa b=>b.1<=a.1)/\(∀y,y∈r↔ ∃z∈V,y=ACH p z)/\(r.map (·.2.1)).Nodup:=by
 have hV:wi (len V-1)=(V.length:Int)-1:=by simp only[len];rw[AX (by omega)]
 rw[hV];refine CE (λ(s:List BP×Int)=> -1<=s.2/\s.2<V.length/\(s.1.length:Int)=V.length-(s.2+1)/\s.1.Pairwise (λa b=>b.1<=a.1)/\(∀y,y∈s.1↔ ∃z∈V.drop (s.2+1).toNat,y=ACH p z)/\(s.1.map (·.2.1)).Nodup) (λs=>(s.2+1).toNat) ⟨by dsimp only;omega,by dsimp only;omega,by simp,List.Pairwise.nil,λy=>?_,List.Pairwise.nil⟩ ?_
 ·dsimp only;rw[M9 (by omega)];simp
 rintro⟨R,i⟩ ⟨i0,i1,i2,J,K,M⟩;dsimp only at i0 i1 i2 J K M;unfold OJ;dsimp only;refine AC (λhc=>?_) (λhc=>Ao.done ⟨by omega,J,by rw[show(i+1).toNat=0 by omega]at K;exact K,M⟩);have⟨z,hz,B,hm⟩:=AE (l:=V) hc i1;have⟨j,hj,x1,x2,xe⟩:=hP z hm;have H:=ABY hN W (s:=z.1) (k:=j) ⟨x1,x2⟩ hn Y_;rw[c!,<-xe]at H;have G:(Xc (st (L.take j) p)).2.1=TD z p:=by rw[xe,sT Y_];exact Kh _ _
 have ao:TD z p<=L.length:=by have:=WA (hN.take j) p;rw[BK]at this;rw[xe,sT Y_];omega
 rw[hz,AD,e4,H,AD,Ce,cond_false,hk,AX (x:=i-1) (by omega)];dsimp only;rw[G];refine AC (λc=>absurd c (by omega)) (λ_=>?_);refine AA (P:=λ(r:Int)=>0<=r/\r<=R.length/\(∀y∈R.take r.toNat,TD z p<=y.1)/\ ∀y∈R.drop r.toNat,y.1<=TD z p) ?_ λo Q=>?_
 ·dsimp only[len];refine CE (λ(t:Int)=>0<=t/\t<=R.length/\ ∀y∈R.drop t.toNat,y.1<=TD z p) (λt=>t.toNat) ⟨by omega,by omega,λy f=>?_⟩ (λt hI=>?_)
  ·rw[M9 (by omega)]at f;cases f
  have⟨t0,t1,Z⟩:=hI;unfold Tq;dsimp only;rw[G];refine AC (λU=>?_) (λU=>Ao.done ⟨t0,t1,λy f=>(by rw[show t.toNat=0 by omega]at f;cases f),Z⟩);rw[AX (by omega)];refine AA (AE (by omega) (by omega)) λad O=>?_;have h:=O.1;have hd:R.drop (t-1).toNat=ad::R.drop t.toNat:=by have g:=CZ h;rw[J4 g,show(t-1).toNat+1=t.toNat by omega];rw[Ar g]at h;rw[BL h]
  refine AC (λW=>Ao.next ⟨by omega,by omega,λy f=>?_⟩ (by omega)) (λW=>Ao.done ⟨t0,t1,λy f=>?_,Z⟩)
  ·rw[hd]at f;rcases A3.1 f with q|q
   ·rw[q];omega
   ·exact Z y q
  ·obtain⟨a,n⟩:=Cu f;have T:=CZ n;rw[BK]at T;rw[JO (by omega)]at n;by_cases e:a=(t-1).toNat
   ·rw[e,h]at n;rw[<-BL n];omega
   ·have:=(Ek.1 J) a (t-1).toNat (by omega) (by omega) (by omega)
    rw[Ar (by omega)]at n h;rw[BL n,BL h]at this;omega
 ·have⟨r0,r1,r2,r3⟩:=Q;refine AA (Bs (AY _) r0 r1) λag C=>?_;rw[AD];refine AA (Bs r0 (by simp only[len];omega) (by simp only[len];omega)) λal D_=>?_;have la:=C.2;have lb:=D_.2;simp only[len]at lb;have ea:ag=R.take o.toNat:=by rw[C.1];simp
  have eb:al=R.drop o.toNat:=by rw[D_.1];exact BG (by rw[Dr];simp only[len];omega)
  refine AA (Ac (by simp;omega)) λap A_=>AA (Ac (by rw[A_.1];simp;omega)) λar E=>AA (Ac (by rw[E.1,A_.1];simp;omega)) λN S=>?_;have v:N=R.take o.toNat++[ACH p z]++R.drop o.toNat:=by rw[S.1,E.1,A_.1,ea,eb];rfl
  have gB:V.drop (i-1+1).toNat=z::V.drop (i+1).toNat:=by have g:=CZ B;rw[show(i-1+1).toNat=i.toNat by omega,J4 g,show(i+1).toNat=i.toNat+1 by omega];rw[Ar g]at B;rw[BL B]
  have X_: ∀y,y∈N↔y=ACH p z\/y∈R:=λy=>by
   rw[v];conv=>rhs;rw[<-Cr o.toNat R]
   simp only[Al,A7];grind
  refine Ao.next ⟨by dsimp only;omega,by dsimp only;omega,by dsimp only;rw[v];simp;omega,?_,λy=>?_,?_⟩ (by dsimp only;omega)
  ·dsimp only;rw[v,A5,List.pairwise_append,oQ,List.pairwise_cons];refine⟨J.sublist (List.take_sublist _ _),⟨λy f=>r3 y f,J.sublist (qt _ _)⟩,λa n b u=>?_⟩;rcases A3.1 u with q|q
   ·rw[q];exact r2 a n
   ·exact dR (r3 b q) (r2 a n)
  ·dsimp only;rw[X_,gB,K];simp only[A3,exists_eq_or_imp]
  ·dsimp only;have I: ∀y∈R,y.2.1≠z.1:=λy f he=>by
    obtain⟨w,hw,rfl⟩:=(K y).1 f;have g:=CZ B;obtain⟨b,u⟩:=Cu hw;rw[IW]at u;have F:=CZ u;have:=(Ek.1 (H7.1 hu)) i.toNat ((i+1).toNat+b) (by rw[BY];exact g) (by rw[BY];exact F) (by omega)
    rw[List.getElem_map,List.getElem_map]at this;rw[Ar g]at B;rw[Ar F]at u;rw[BL B,BL u]at this;exact this he.symm
   rw[v];conv at M=>arg 1;rw[<-Cr o.toNat R]
   rw[Gt,H6]at M;obtain⟨n1,n2,n3⟩:=M;rw[Gt,Gt,H6,H6];refine⟨⟨n1,by simp,λa n b u=>?_⟩,n2,λa n b u=>?_⟩
   ·obtain⟨y,f,rfl⟩:=Bo.1 n;rw[List.map_singleton,A7]at u;rw[u];exact I y (Fv f)
   ·rcases Al.1 n with q|q
    ·exact n3 a q b u
    ·obtain⟨y,f,rfl⟩:=Bo.1 u;rw[List.map_singleton,A7]at q;rw[q];exact λw=>I y (RV f) w.symm
def wJ(V:E Ai)(p:U)(I:E U)(F:U):Prop:=∃x0∈V,∃x1∈V,x0.1≠x1.1/\x0.1∈I/\x1.1∈I/\F<=TD x0 p/\F<=TD x1 p/\∀z∈V,TD z p<=TD x0 p/\(z.1≠x0.1->TD z p<=TD x1 p)
def wJ.mono{p}{J:E U}{F G:U}(V:wJ f p h F)(g:∀y∈h,y∈J)(m:G<=F):wJ f p J G:=by obtain⟨k,i,l,j,a,b,c,d,e,I⟩:=V;exact⟨k,i,l,j,a,g _ b,g _ c,o!,o!,I⟩
def AG4{R:Ψ BP}{t j:BP}(o:R.Pairwise (λa I=>I.1<=a.1))(q:∀y,y∈R↔∃z∈f,y=ACH b z)(v:(R.map (·.2.1)).Nodup)(p:R[0]?=δ t)(V:R[1]?=δ j)(x:t.2.1∈h)(A:j.2.1∈h):wJ f b h j.1:=by have i:=CZ p;have l1:=CZ V;have d:=(Ek.1 (H7.1 v)) 0 1 (by rw[BY];exact i) (by rw[BY];exact l1) g!;have g:=(Ek.1 o) 0 1 i l1 g!;rw[List.getElem_map,List.getElem_map]at d;have B:=BQ p;have C:=BQ V;have l:=p;have m:=V;rw[Ar i]at l;rw[Ar l1]at m;rw[BL l,BL m]at d g;obtain⟨F,D,rfl⟩:=(q t).1 B;obtain⟨G,E,rfl⟩:=(q j).1 C;refine⟨F,D,G,E,d,x,A,g,AY _,λz w=>?_⟩;obtain⟨k,c⟩:=Cu ((q _).2 ⟨z,w,rfl⟩);have s:=CZ c;have n:=c;rw[Ar s]at n;constructor;by_cases e:k=0;subst e;rw[p]at c;rw[show TD z b=(ACH b z).1 from rfl,<-BL c];exact AY _;have:=(Ek.1 o) 0 k i s o!;rw[BL l,BL n]at this;exact this;intro r;by_cases e:k=0;subst e;rw[p]at c;exact O! (E! (·.2.1) (BL c)).symm r;by_cases u:k=1;subst u;rw[V]at c;rw[show TD z b=(ACH b z).1 from rfl,<-BL c];exact AY _;have:=(Ek.1 o) 1 k l1 s o!;rw[BL m,BL n]at this;exact this
def bare(l:Aa)(W:E NE)(lo F q:U):Prop:=F<q/\l.1<=q/\q<=l.1+Z l.2.1-1/\∀e∈W,e.1.2.2.1=lo->¬(e.1.1<=q/\q<=e.1.2.1)
theorem AHS{l:Aa}{W:List NE}{lo F:Int}(E:Dg l)(T:W.length<=256)(S: -1<=F/\F<=1099511627776):Ao (Oa (l,(W.map (·.1),(lo,F)))) λr=>(r.2=true->l.1<=r.1)/\ ∀q,bare l W lo F q->r.2=true/\r.1<=q:=by
 have⟨l1,l2,l3,l4,l5,l6⟩:=id E;have G:(W.map (·.1)).length=W.length:=BY _;unfold Oa;dsimp only;rw[AX (x:=F+1) (by omega)];generalize H:(if l.1>F+1 then l.1 else F+1)=s0;have L:l.1<=s0/\F+1<=s0/\(s0=l.1\/s0=F+1):=by rw[<-H];split<;>omega
 refine AA (P:=λ(r:(Int×Bool)⊕ Unit)=>(∃v:Int,r= .inl (v,true)/\l.1<=v/\ ∀q,bare l W lo F q->v<=q)\/(r= .inr ()/\ ∀q,¬bare l W lo F q)) ?_ λr hr=>?_
 ·refine CE (λ(s:Int)=>l.1<=s/\s0<=s/\s<=2199023255552/\ ∀q,bare l W lo F q->s<=q) (λs=>(l.1+l.2.1.length-s).toNat) ⟨L.1,AY _,by omega,λq a=>by have:=a.1;have:=a.2.1;omega⟩ (λs D_=>?_);have⟨J,Y_,Z,y⟩:=D_;unfold V2;dsimp only[len];rw[AX (x:=l.1+(l.2.1.length:Int)) (by omega)];refine AC (λn=>?_) (λn=>Ao.done (.inr ⟨rfl,λq a=>by have:=y q a;have:=a.2.2.1;omega⟩));rw[AX (x:=s+1) (by omega)];refine AA (P:=λb=>b=true↔ ∃e∈W,e.1.2.2.1=lo/\e.1.1<=s/\s<=e.1.2.1) ?_ λb f=>AP (λV=>Ao.done (.inl ⟨s,rfl,J,y⟩)) (λu=>Ao.next ⟨by omega,by omega,by omega,λq a=>?_⟩ (by omega))
  ·refine CE (λ(t:Bool×Int)=>0<=t.2/\t.2<=W.length/\(t.1=true↔ ∃e∈W.take t.2.toNat,e.1.2.2.1=lo/\e.1.1<=s/\s<=e.1.2.1)) (λt=>((W.length:Int)-t.2).toNat) ⟨AY _,by dsimp only;omega,by simp⟩ ?_;rintro⟨b,j⟩ ⟨z,K,g⟩;dsimp only at z K g;unfold V3;dsimp only[len];refine AC (λo=>?_) (λo=>Ao.done (by rw[BG (by omega)]at g;exact g));have⟨e,U,a,X_⟩:=AE (l:=W) z (by omega);have I:ix (W.map (·.1)) j=some e.1:=by have⟨v,C,B,_⟩:=AE (l:=W.map (·.1)) z (by omega);rw[C];rw[B9,a]at B;exact B.symm
   have u:W.take (j+1).toNat=W.take j.toNat++[e]:=by rw[show(j+1).toNat=j.toNat+1 by omega,CC,a];rfl
   rw[AX (x:=j+1) (by omega)];have i: ∀c:Bool,(c=true↔ ∃e∈W.take (j+1).toNat,e.1.2.2.1=lo/\e.1.1<=s/\s<=e.1.2.1)->Ao (some (Step.next (c,j+1)):Option (Step (Bool×Int) Bool)) (Kj (λ(t:Bool×Int)=>0<=t.2/\t.2<=W.length/\(t.1=true↔ ∃e∈W.take t.2.toNat,e.1.2.2.1=lo/\e.1.1<=s/\s<=e.1.2.1)) (λt=>((W.length:Int)-t.2).toNat) ((W.length:Int)-j).toNat λb=>b=true↔ ∃e∈W,e.1.2.2.1=lo/\e.1.1<=s/\s<=e.1.2.1):=λc n=>Ao.next ⟨by dsimp only;omega,by dsimp only;omega,n⟩ (by dsimp only;omega)
   have d:(∃e∈W.take (j+1).toNat,e.1.2.2.1=lo/\e.1.1<=s/\s<=e.1.2.1)↔b=true\/(e.1.2.2.1=lo/\e.1.1<=s/\s<=e.1.2.1):=by
    rw[u,g];simp only[Al,A7];constructor
    ·rintro⟨x,q|q,h⟩
     ·exact .inl ⟨x,q,h⟩
     ·rw[q]at h;exact .inr h
    ·rintro(⟨x,q,h⟩|h)
     ·exact⟨x,.inl q,h⟩
     ·exact⟨e,.inr rfl,h⟩
   refine AJ (λf=>i true (by rw[d,f];simp)) (λf=>?_);rw[I,AD];refine AT (λk=>?_) (λk=>i false (by rw[d,f];simp[k]));simp only[AD];refine AC (λm=>i _ ?_) (λm=>i false (by rw[d,f];simp[m]));rw[d,f];simp[k,m]
  ·by_cases e:q=s
   ·subst e;obtain⟨w,O,Q,R⟩:=f.1 u;exact absurd R (a.2.2.2 w O Q)
   ·have:=y q a;omega
 ·rcases hr with⟨v,rfl,M,N⟩|⟨rfl,p⟩
  ·exact BB (AB ⟨λ_=>M,λq a=>⟨rfl,N q a⟩⟩)
  ·exact Au (AB ⟨λh=>(by cases h),λq a=>absurd a (p q)⟩)
theorem AD7{x:AQ×AL×List AS×Int}{N:Bx}{L:List EN}{V:List Ai}{d c l:Int}{m:Nat}(T:GF L)(hl:L.length≤1099511627776)(hn:1≤m∧m≤64)(hV:C1 x.2.2.1=some V)(v8:V.length≤8)(v2:2≤V.length)(hP: ∀z∈V,PI L d m z)(hu:(V.map (·.1)).Nodup)(h0:0≤c∧c≤l+1∧l<m)(hk:x.1.2.2.1.2.2=L.length)(h2:x.2.2.2=2)(hI:N.2.2.length≤100000):
  Ao (Ad (OI x (c,l)) (-1,(c,N))) λr=> -1<=r.1/\r.1<=L.length/\r.2.1=N.1/\r.2.2.1=N.2.1/\(∀y∈N.2.2,y∈r.2.2.2)/\(r.2.2.2.length:Int)<=N.2.2.length+2*(l+1-c)/\ ∀p,c<=p->p<=l->wJ V p r.2.2.2 r.1:=by
 refine CE (λ(s:Int×Int×Bx)=>c<=s.2.1/\s.2.1<=l+1/\ -1<=s.1/\s.1<=L.length/\(c<s.2.1->0<=s.1)/\(s.2.1=c->s.1= -1)/\s.2.2.1=N.1/\s.2.2.2.1=N.2.1/\(∀y∈N.2.2,y∈s.2.2.2.2)/\(s.2.2.2.2.length:Int)<=N.2.2.length+2*(s.2.1-c)/\ ∀p,c<=p->p<s.2.1->wJ V p s.2.2.2.2 s.1) (λs=>(l+1-s.2.1).toNat) ⟨AY _,h0.2.1,AY _,by dsimp only;omega,λh=>absurd h (by dsimp only;omega),λ_=>rfl,rfl,rfl,λy o=>o,by dsimp only;omega,λp I J=>absurd J (by dsimp only;omega)⟩ ?_;rintro⟨f,pg,M1,M2,u⟩ ⟨i0,i1,i2,i3,i4,i5,i6,i7,i8,i9,t⟩;dsimp only at i0 i1 i2 i3 i4 i5 i6 i7 i8 i9 t;subst i6 i7;unfold OI;dsimp only;refine AC (λhc=>?_) (λhc=>Ao.done ⟨i2,i3,rfl,rfl,i8,by dsimp only;omega,λp I J=>t p I (by omega)⟩);rw[hV,AD];refine AA (AJn (x:=x) (s4:=(f,(pg,(N.1,(N.2.1,u))))) (p:=pg) T hl hn v8 hP hu ⟨by omega,by omega⟩ rfl hk) λR hR=>?_;obtain⟨r1,r2,r3,r4⟩:=hR;rw[h2];have lR:R.length<=8:=by omega
 have w:R[0]? =some R[0]:=Ar (by omega);have q:R[1]? =some R[1]:=Ar (by omega);generalize ag:R[0]=A_ at w;generalize al:R[1]=i at q;refine AA (P:=λ(v:List BP×Int)=>v=([A_,i],i.1)) ?_ λao O=>?_
 ·refine AC (λ_=>?_) (λn=>absurd n (by simp only[len];omega));refine AA (Bs (AY _) (by decide) (by omega)) λad M=>?_;have K:ad=[A_,i]:=by
   rw[M.1];show List.take 2 (List.drop 0 R)=_;rw[Wz];match R,w,q with
   |a::b::R',w,q=>simp at w q;rw[w,q];rfl
  rw[K,(by decide+kernel:wi ((2:Int)-1)=1)];exact AB rfl
 subst O;dsimp only;have E:=(r3 i).1 (BQ q);have U:0<=i.1/\i.1<=L.length:=by obtain⟨z,hz,rfl⟩:=E;obtain⟨j,hj,x1,x2,xe⟩:=hP z hz;show 0<=TD z pg/\TD z pg<=L.length;rw[xe,sT ⟨by omega,by omega⟩];have a:=T1 T pg j;have b:=WA (T.take j) pg;rw[BK]at b;omega
 have l5:Ao (Ad (OK ([A_,i],i.1)) (0,(N.1,(N.2.1,u)))) λr=>r.1=N.1/\r.2.1=N.2.1/\(∀y∈u,y∈r.2.2)/\r.2.2.length<=u.length+2/\A_.2.1∈r.2.2/\i.2.1∈r.2.2:=by
  refine CE (λ(s:Int×Bx)=>0<=s.1/\s.1<=2/\s.2.1=N.1/\s.2.2.1=N.2.1/\(∀y∈u,y∈s.2.2.2)/\(s.2.2.2.length:Int)<=u.length+s.1/\(1<=s.1->A_.2.1∈s.2.2.2)/\(2<=s.1->i.2.1∈s.2.2.2)) (λs=>(2-s.1).toNat) ⟨AY _,by dsimp only;decide,rfl,rfl,λy o=>o,by dsimp only;omega,λh=>absurd h (by dsimp only;decide),λh=>absurd h (by dsimp only;decide)⟩ ?_;rintro⟨k,K1,K2,K3⟩ ⟨k0,k1,X_,Y_,Z,k5,k6,k7⟩;dsimp only at k0 k1 X_ Y_ Z k5 k6 k7;unfold OK;dsimp only;refine AC (λn=>?_) (λn=>Ao.done ?_)
  ·simp only[len,CY,CO]at n;refine AA (AE k0 (by simp only[CY,CO];omega)) λF C=>AA (yJ (by dsimp only;omega)) λap Q=>?_;obtain⟨a1,a2,a3⟩:=Q;dsimp only at a1 a2 a3;rw[AX (by omega)];refine Ao.next ⟨by dsimp only;omega,by dsimp only;omega,X_,Y_,λy o=>a2 y (Z y o),by dsimp only;omega,λ_=>?_,λh=>?_⟩ (by dsimp only;omega)
   ·by_cases e:k=0
    ·have:=C.1;rw[e]at this;rw[show A_=F by simpa using this];exact a3
    ·exact a2 _ (k6 (by omega))
   ·have e:k=1:=by dsimp only at h;omega
    have:=C.1;rw[e]at this;rw[show i=F by simpa using this];exact a3
  ·simp only[len,CY,CO]at n;exact⟨X_,Y_,Z,by dsimp only;omega,k6 (by omega),k7 (by omega)⟩
 refine AA l5 λH S=>?_;obtain⟨b1,b2,b3,b4,b5,b6⟩:=S;have hB: ∀G:Int,G<=i.1->wJ V pg H.2.2 G:=λG hG=>(AG4 r2 r3 r4 w q b5 b6).mono (λy o=>o) hG;rw[AX (x:=pg+1) (by omega)];have B: ∀g:Int,0<=g->g<=i.1->(c<pg->g<=f)->Ao (some (Step.next (g,(pg+1,H))):Option (Step (Int×Int×Bx) (Int×Bx))) (Kj (λ(s:Int×Int×Bx)=>c<=s.2.1/\s.2.1<=l+1/\ -1<=s.1/\s.1<=L.length/\(c<s.2.1->0<=s.1)/\(s.2.1=c->s.1= -1)/\s.2.2.1=N.1/\s.2.2.2.1=N.2.1/\(∀y∈N.2.2,y∈s.2.2.2.2)/\(s.2.2.2.2.length:Int)<=N.2.2.length+2*(s.2.1-c)/\ ∀p,c<=p->p<s.2.1->wJ V p s.2.2.2.2 s.1) (λs=>(l+1-s.2.1).toNat) (l+1-pg).toNat λr=> -1<=r.1/\r.1<=L.length/\r.2.1=N.1/\r.2.2.1=N.2.1/\(∀y∈N.2.2,y∈r.2.2.2)/\(r.2.2.2.length:Int)<=N.2.2.length+2*(l+1-c)/\ ∀p,c<=p->p<=l->wJ V p r.2.2.2 r.1):=λg g0 g1 g2=>
  Ao.next ⟨by dsimp only;omega,by dsimp only;omega,by dsimp only;omega,by dsimp only;omega,λ_=>g0,λh=>absurd h (by dsimp only;omega),b1,b2,λy o=>b3 y (i8 y o),by dsimp only;omega,λp I J=>by
   dsimp only at J⊢;by_cases e:p=pg
   ·rw[e];exact hB g g1
   ·exact(t p I (by omega)).mono b3 (g2 (by omega))⟩ (by dsimp only;omega)
 refine AC (λD_=>B i.1 U.1 (AY _) λh=>?_) (λD_=>?_)
 ·have:=i4 h;omega
 ·refine AA (P:=λ(g:Int)=>0<=g/\g<=i.1/\g<=f) (AC (λ_=>AB (by omega)) (λ_=>AB (by omega))) λg W=>B g W.1 W.2.1 λ_=>W.2.2
theorem AGL{W:List NE}{b T F:Int}{N M:Bx}(hW:W.length<=256)(hR:N.2.1.length<=100000):Ao (Ad (OL (W.map (·.1),W.map (·.2)) (b,T) (F,M)) (-1,(0,N))) λr=> -1<=r.1/\r.1<W.length/\r.2.1=N.1/\r.2.2.2=N.2.2/\(∀y∈N.2.1,y∈r.2.2.1)/\r.2.2.1.length<=N.2.1.length+W.length/\ ∀e∈W,e.1.2.2.1=b->F<e.1.2.1->e.2∈r.2.2.1:=by
 have U:(W.map (·.1)).length=W.length:=BY _;have V:(W.map (·.2)).length=W.length:=BY _;refine CE (λ(s:Int×Int×Bx)=> -1<=s.1/\s.1<s.2.1/\s.2.1<=W.length/\0<=s.2.1/\s.2.2.1=N.1/\s.2.2.2.2=N.2.2/\(∀y∈N.2.1,y∈s.2.2.2.1)/\(s.2.2.2.1.length:Int)<=N.2.1.length+s.2.1/\ ∀e∈W.take s.2.1.toNat,e.1.2.2.1=b->F<e.1.2.1->e.2∈s.2.2.2.1) (λs=>((W.length:Int)-s.2.1).toNat) ⟨AY _,by dsimp only;decide,by dsimp only;omega,AY _,rfl,rfl,λy a=>a,by dsimp only;omega,λe I=>by simp at I⟩ ?_;rintro⟨tp,j,M1,g,M3⟩ ⟨B,Z,i2,i,J,L,C,i7,i8⟩;dsimp only at B Z i2 i J L C i7 i8;subst J L;unfold OL;dsimp only[len];refine AC (λQ=>?_) (λQ=>Ao.done ⟨B,by dsimp only;omega,rfl,rfl,C,by dsimp only;omega,by rw[BG (by omega)]at i8;exact i8⟩);have⟨e,I,u,hm⟩:=AE (l:=W) i (by omega);have Y_:ix (W.map (·.1)) j=some e.1:=by have⟨v,n,c,_⟩:=AE (l:=W.map (·.1)) i (by omega);rw[n];rw[B9,u]at c;exact c.symm
 have A_:ix (W.map (·.2)) j=some e.2:=by have⟨v,n,c,_⟩:=AE (l:=W.map (·.2)) i (by omega);rw[n];rw[B9,u]at c;exact c.symm
 have X_:W.take (j+1).toNat=W.take j.toNat++[e]:=by rw[show(j+1).toNat=j.toNat+1 by omega,CC,u];rfl
 rw[AX (x:=j+1) (by omega),Y_,AD];have E: ∀(t:Int) (K:Bx),-1<=t->t<=j->K.1=N.1->K.2.2=N.2.2->(∀y∈g,y∈K.2.1)->K.2.1.length<=g.length+1->(e.1.2.2.1=b->F<e.1.2.1->e.2∈K.2.1)->Ao (some (Step.next (t,(j+1,K))):Option (Step (Int×Int×Bx) (Int×Bx))) (Kj (λ(s:Int×Int×Bx)=> -1<=s.1/\s.1<s.2.1/\s.2.1<=W.length/\0<=s.2.1/\s.2.2.1=N.1/\s.2.2.2.2=N.2.2/\(∀y∈N.2.1,y∈s.2.2.2.1)/\(s.2.2.2.1.length:Int)<=N.2.1.length+s.2.1/\ ∀e∈W.take s.2.1.toNat,e.1.2.2.1=b->F<e.1.2.1->e.2∈s.2.2.2.1) (λs=>((W.length:Int)-s.2.1).toNat) ((W.length:Int)-j).toNat λr=> -1<=r.1/\r.1<W.length/\r.2.1=N.1/\r.2.2.2=N.2.2/\(∀y∈N.2.1,y∈r.2.2.1)/\r.2.2.1.length<=N.2.1.length+W.length/\ ∀e∈W,e.1.2.2.1=b->F<e.1.2.1->e.2∈r.2.2.1):=λt K t0 t1 k1 k f D_ m=>
  Ao.next ⟨t0,by dsimp only;omega,by dsimp only;omega,by dsimp only;omega,k1,k,λy a=>f y (C y a),by dsimp only;omega,λw z G H=>by
   dsimp only at z⊢;rw[X_,Al,A7]at z;rcases z with q|q
   ·exact f _ (i8 w q G H)
   ·rw[q]at G H⊢;exact m G H⟩ (by dsimp only;omega)
 refine AK (λp=>E tp _ B (by omega) rfl rfl (λy a=>a) (Nat.le_succ _) λh=>absurd h p) (λR=>?_);rw[AD,A_];refine AA (P:=λ(K:Bx)=>K.1=N.1/\K.2.2=N.2.2/\(∀y∈g,y∈K.2.1)/\K.2.1.length<=g.length+1/\(F<e.1.2.1->e.2∈K.2.1)) ?_ λK O=>?_
 ·refine AC (λo=>?_) (λo=>AB ⟨rfl,rfl,λy a=>a,Nat.le_succ _,λh=>absurd h (by omega)⟩);rw[AD];exact AA (yJ (by dsimp only;omega)) λv h=>AB ⟨rfl,rfl,h.2.1,h.1,λ_=>h.2.2⟩
 obtain⟨k1,k,f,D_,m⟩:=O;refine AC (λ_=>E j K (by omega) (AY _) k1 k f D_ λ_=>m) (λS=>?_);rw[AD];refine AA (AE (by omega) (by omega)) λad _=>AA (P:=λ(t:Int)=> -1<=t/\t<=j) (AC (λ_=>AB (by omega)) (λ_=>AB (by omega))) λt d=>E t K d.1 d.2 k1 k f D_ λ_=>m
def Kept(a:AL)(l:Aa)(V:E Ai)(W:E NE)(i:U)(N:Bx):Prop:=∀(j:Nat)(lo:U),(j:U)<i->a.1[j]?=D lo->∃F,(∀p,lo<=p->p<=ou a j->wJ V p N.2.2 F)/\(∀e∈W,e.1.2.2.1=lo->F<e.1.2.1->e.2∈N.2.1)/\∀q,bare l W lo F q->N.1<=q
def AHj(h:BD j.2.1 j.1)(c:j.1[d]?=D b):0<=b/\b<=ou j d/\ou j d<j.2.1:=by have f:=h.mem c;unfold ou;split;rename_i w a;have e:=h.mem a;have:=h.2.2.2.2.2.1 d b w (by have:=CZ a;omega) c a;omega;have:=h.mem c;omega
theorem ADR{x:AQ×AL×List AS×Int}{L:List EN}{V:List Ai}{W:List NE}{d:Int}{m:Nat}(hN:GF L)(hl:L.length≤1099511627776)(hn:1≤m∧m≤64)(hV:C1 x.2.2.1=some V)(v8:V.length≤8)(v2:2≤V.length)(hP: ∀z∈V,PI L d m z)(hu:(V.map (·.1)).Nodup)(hk:x.1.2.2.1.2.2=L.length)(h2:x.2.2.2=2)(hm:(m:Int)=x.2.1.2.1)(H:VB x.2.1)
  (hW:Jw x.2.1=some (W.map (·.1),W.map (·.2))) (l:W.length<=256) (hL:Ao (Kr (x.1,x.2.1)) λr=>r.2=0->x.1.2.2.1.1<=r.1/\r.1<=x.1.2.2.1.2.2+1) (Q:Dg x.1.2.2.1):
  Ao (JF x) λr=>r.2=0->x.1.2.2.1.1<=r.1.1/\r.1.1<=x.1.2.2.1.2.2+1/\r.1.2.1.length<=100000/\r.1.2.2.length<=100000/\Kept x.2.1 x.1.2.2.1 V W x.2.1.1.length r.1:=by
 have al:(W.map (·.1)).length=W.length:=BY _;have ao:(W.map (·.2)).length=W.length:=BY _;have ag:=H.1.2.2.2.1;unfold JF;refine AA hL λv0 h0=>AK (λO=>AB λt=>absurd t O) (λT=>?_);have⟨n1,n2⟩:=h0 T;refine AC (λ_=>AB λt=>absurd t (by decide)) (λ_=>AC (λ_=>AB λt=>absurd t (by decide)) (λ_=>?_));rw[hW,AD];refine AA (P:=λ(r:Bx)=>x.1.2.2.1.1<=r.1/\r.1<=x.1.2.2.1.2.2+1/\r.2.1.length<=100000/\r.2.2.length<=100000/\Kept x.2.1 x.1.2.2.1 V W x.2.1.1.length r) ?_ λr hr=>AB λ_=>hr;refine CE (λ(s:Int×Bx)=>0<=s.1/\s.1<=x.2.1.1.length/\x.1.2.2.1.1<=s.2.1/\s.2.1<=x.1.2.2.1.2.2+1/\(s.2.2.1.length:Int)<=300*s.1/\(s.2.2.2.length:Int)<=300*s.1/\Kept x.2.1 x.1.2.2.1 V W s.1 s.2) (λs=>((x.2.1.1.length:Int)-s.1).toNat) ⟨AY _,by dsimp only;omega,n1,n2,by simp,by simp,λj A_ h=>absurd h (by dsimp only;omega)⟩ ?_;rintro⟨i,N⟩ ⟨i0,i1,i2,i3,i4,i5,U⟩;dsimp only at i0 i1 i2 i3 i4 i5 U;unfold Tp;dsimp only[len];refine AC (λhc=>?_) (λhc=>Ao.done ⟨i2,i3,by omega,by omega,by rw[show(x.2.1.1.length:Int)=i by omega];exact U⟩);have M:i.toNat<x.2.1.1.length:=by omega
 have c:x.2.1.1[i.toNat]? =some x.2.1.1[i.toNat]:=Ar M;generalize x.2.1.1[i.toNat]=A_ at c;have o:=lF H.1 c;rw[IU i0]at o;have⟨b1,b2,b3⟩:=AHj H.1 c;rw[o,AD,AX (x:=i+1) (by omega)];refine AA (AD7 (x:=x) (N:=N) hN hl hn hV v8 v2 hP hu ⟨b1,by omega,by omega⟩ hk h2 (by omega)) λa D_=>?_;obtain⟨c1,c2,c3,B,c5,c6,c7⟩:=D_;have ad:a.2.2.1.length=N.2.1.length:=by rw[B]
 refine AA (AGL (N:=a.2) l (by omega)) λu E=>?_;obtain⟨d1,d2,d3,d4,d5,d6,d7⟩:=E;refine AA (P:=λ(K:Bx)=>K.1=N.1/\K.2.2=a.2.2.2/\(∀y∈u.2.2.1,y∈K.2.1)/\K.2.1.length<=u.2.2.1.length+1) ?_ λv G=>?_
 ·refine AC (λJ=>?_) (λ_=>AB ⟨d3.trans c3,d4,λy S=>S,Nat.le_succ _⟩);exact AA (AE J (by omega)) λap _=>AA (yJ (by dsimp only;omega)) λar k=>AB ⟨d3.trans c3,d4,k.2.1,k.1⟩
 obtain⟨e1,C,e3,e4⟩:=G;refine AA (AHS (F:=a.1) (lo:=A_) Q l ⟨c1,by omega⟩) λax f=>?_;refine AA (P:=λ(K:Bx)=>K.2=v.2/\K.1<=v.1/\x.1.2.2.1.1<=K.1/\ ∀q,bare x.1.2.2.1 W A_ a.1 q->K.1<=q) ?_ λK hK=>?_
 ·refine AJ (λI=>AB ?_) (λI=>AB ⟨rfl,AY _,by omega,λq n=>?_⟩)
  ·have g1:=f.1 I;refine⟨rfl,by dsimp only;split<;>omega,by dsimp only;split<;>omega,λq n=>?_⟩;have:=(f.2 q n).2;dsimp only;split<;>omega
  ·have:=(f.2 q n).1;rw[I]at this;cases this
 obtain⟨g,f2,f3,f4⟩:=hK;have l1:K.2.1.length<=N.2.1.length+257:=by rw[g,<-B];omega
 have l2:(K.2.2.length:Int)<=N.2.2.length+130:=by rw[g,C];omega
 refine Ao.next ⟨by dsimp only;omega,by dsimp only;omega,f3,by dsimp only;omega,by dsimp only;omega,by dsimp only;omega,λj X_ hj b=>?_⟩ (by dsimp only;omega)
 dsimp only at hj;by_cases e:j=i.toNat
 ·subst e;rw[c]at b;cases b;refine⟨a.1,λp Y_ Z=>?_,λw R w1 w2=>?_,f4⟩
  ·rw[g,C];exact c7 p Y_ Z
  ·rw[g];exact e3 _ (d7 w R w1 w2)
 ·obtain⟨F,g1,g2,g3⟩:=U j X_ (by omega) b;refine⟨F,λp Y_ Z=>(g1 p Y_ Z).mono (λy S=>?_) (AY _),λw R w1 w2=>?_,λq n=>by have:=g3 q n;dsimp only;omega⟩
  ·rw[g,C];exact c5 y S
  ·rw[g];exact e3 _ (d5 _ (by rw[B];exact g2 w R w1 w2))
def ACV(h:θ l.1<=1000000):Ct l=δ (τ (l.2∈l.1)):=by
 suffices f:Ao (Ct l) λr=>r=τ (l.2∈l.1) by obtain⟨r,hr,rfl⟩:=f;exact hr
 unfold Ct;refine AA (P:=λr=>(r=.inl ζ/\l.2∈l.1)\/(r=.inr ()/\l.2∉l.1)) ?_ λr hr=>?_
 ·refine CE (λ(s:Int)=>0<=s/\s<=θ l.1/\l.2∉l.1.take s.toNat) (λs=>((θ l.1:Int)-s).toNat) ⟨AY _,o!,k!⟩ (λs c=>?_);have⟨g,i,a⟩:=c;unfold K0;dsimp[len];refine AC (λd=>?_) (λ_=>Ao.done (.inr ⟨rfl,by rw[BG o!]at a;exact a⟩));rw[AX];refine AA (AE g d) λv b=>AT (λe=>Ao.done (.inl ⟨rfl,by rw[<-e];exact b.2⟩)) (λe=>Ao.next ⟨o!,o!,?_⟩ o!);rw[show(s+1).toNat=s.toNat+1 by omega,CC,b.1];simp only[Option.toList,Al,A7];rintro(q|q);exact a q;exact e q.symm
 rcases hr with⟨rfl,h⟩|⟨rfl,h⟩;exact BB (AB (G! h).symm);exact Au (AB (F! h).symm)
def ADp(h:θ c.2.1.2.2.1<=256)(hr:θ p.1.2.1<=1000000):Ao (Ad (PF c p) (0,[])) λr=>r=c.2.1.2.2.1.filter λf=>decide (f.2.1∈p.1.2.1):=by
 refine CE (λ(s:Int×List AS)=>0<=s.1/\s.1<=θ c.2.1.2.2.1/\s.2=(c.2.1.2.2.1.take s.1.toNat).filter λf=>decide (f.2.1∈p.1.2.1)) (λs=>((θ c.2.1.2.2.1:Int)-s.1).toNat) ⟨AY _,d!,rfl⟩ ?_;rintro⟨i,o⟩ ⟨e,m,x⟩;dsimp only at e m x;unfold PF;dsimp only[len];refine AC (λg=>?_) (λ_=>Ao.done (by rw[x,BG o!]));have⟨v,k,j,_⟩:=AE e g;have n:θ o<=i.toNat:=by rw[x];apply Cs (EV _ _);rw[BK];omega
 rw[k,AD,ACV hr,AD,AX];refine AA (P:=λr=>r=(c.2.1.2.2.1.take (i+1).toNat).filter λf=>decide (f.2.1∈p.1.2.1)) ?_ λr hr=>Ao.next ⟨d!,d!,hr⟩ d!
 have d:(c.2.1.2.2.1.take (i+1).toNat).filter (λf=>decide (f.2.1∈p.1.2.1))=o++if τ (v.2.1∈p.1.2.1)then [v]else []:=by rw[show(i+1).toNat=i.toNat+1 by omega,CC,j,F7,x];simp[LR]
 refine AJ (λb=>?_) (λb=>AB (by rw[d];dsimp only at b;rw[b];simp));rw[AD];refine AA (Ac w!) λw l=>AB ?_;dsimp only at b;rw[d,b,l.1];rfl
def UQ(y:U)(g:AS):Bool:=g.1==2&&g.2.1==y
def AHf{f:AS}{i:Bool}(p:ix c.2.2.1 b=δ f)(h:θ g<=256):Ao (Ad (GB c (b,g)) (i,0)) λr=>r=ζ↔i=ζ/\∀o∈g,o.2.1≠f.2.1:=by
 refine CE (λ(s:Bool×Int)=>0<=s.2/\s.2<=θ g/\(s.1=ζ↔i=ζ/\∀o∈g.take s.2.toNat,o.2.1≠f.2.1)) (λs=>((θ g:Int)-s.2).toNat) ⟨AY _,d!,k!⟩ ?_;rintro⟨x,j⟩ ⟨n,u,a⟩;dsimp only at n u a;unfold GB;dsimp only[len];refine AC (λl=>?_) (λl=>Ao.done (by rw[BG o!]at a;exact a));have⟨v,t,q,_⟩:=AE n l;have m:g.take (j+1).toNat=g.take j.toNat++[v]:=by rw[show(j+1).toNat=j.toNat+1 by omega,CC,q];rfl
 rw[AX];refine AJ (λd=>?_) (λd=>Ao.next ⟨d!,d!,?_⟩ d!)
 ·rw[t,AD,AD,p,AD];refine Ao.next ⟨d!,d!,?_⟩ d!
  have:=a.1 d;dsimp only;rw[m,M!];simp only[Al,A7];exact⟨λh=>⟨this.1,λo k=>k.elim (this.2 o) λe=>by rw[e];exact h⟩,λh=>h.2 v (.inr rfl)⟩
 dsimp only;refine⟨λh=>(by cases h),λh=>?_⟩;have:=a.2 ⟨h.1,λo k=>h.2 o (by rw[m];exact FA _ k)⟩;rw[d]at this;cases this
def AHe{a:Int×List AS}(h:θ a.2<=256):Ao (Ad (GB c a) (η,0)) λr=>r=η:=by refine CE (λ(s:Bool×Int)=>s.1=η/\0<=s.2/\s.2<=θ a.2) (λs=>((θ a.2:Int)-s.2).toNat) ⟨rfl,AY _,d!⟩ ?_;rintro⟨x,j⟩ ⟨rfl,b,d⟩;dsimp only at b d;unfold GB;dsimp only[len];refine AC (λe=>?_) (λ_=>Ao.done rfl);rw[AX,A!];exact Ao.next ⟨rfl,d!⟩ d!
def ABd(h:θ c.2.2.1<=8)(hr:θ p.1.2.2<=1000000):Ao (Ad (PG c p) (0,[])) λr=>r.Sublist c.2.2.1/\∀y∈p.1.2.2,r.find? (UQ y)=c.2.2.1.find? (UQ y):=by
 refine CE (λ(s:Int×List AS)=>0<=s.1/\s.1<=θ c.2.2.1/\s.2.Sublist (c.2.2.1.take s.1.toNat)/\(∀y∈p.1.2.2,s.2.find? (UQ y)=(c.2.2.1.take s.1.toNat).find? (UQ y))/\∀g∈s.2,g.1=2) (λs=>((θ c.2.2.1:Int)-s.1).toNat) ⟨AY _,d!,k!,λy _=>k!,λg x=>by cases x⟩ ?_;rintro⟨i,o⟩ ⟨E,I,l,m,j⟩;dsimp only at E I l m j;unfold PG;dsimp only[len];refine AC (λF=>?_) (λ_=>Ao.done (by rw[BG o!]at l m;exact⟨l,m⟩));have⟨v,D_,G,_⟩:=AE E F;have n:c.2.2.1.take (i+1).toNat=c.2.2.1.take i.toNat++[v]:=by rw[show(i+1).toNat=i.toNat+1 by omega,CC,G];rfl
 have L:θ o<=8:=by have:=l.length_le;rw[BK]at this;omega
 rw[D_,AD,AX];have d:(∀y∈p.1.2.2,UQ y v=ζ->∃g∈o,UQ y g=ζ)->Ao (δ (Step.next (i+1,o)):Option (Step (Int×List AS) (List AS))) (Kj (λ(s:Int×List AS)=>0<=s.1/\s.1<=θ c.2.2.1/\s.2.Sublist (c.2.2.1.take s.1.toNat)/\(∀y∈p.1.2.2,s.2.find? (UQ y)=(c.2.2.1.take s.1.toNat).find? (UQ y))/\∀g∈s.2,g.1=2) (λs=>((θ c.2.2.1:Int)-s.1).toNat) ((θ c.2.2.1:Int)-i).toNat λr=>r.Sublist c.2.2.1/\∀y∈p.1.2.2,r.find? (UQ y)=c.2.2.1.find? (UQ y)):=λH=>
  Ao.next ⟨d!,d!,by dsimp only;rw[n];exact l.trans (List.sublist_append_left _ _),λy f=>by
   dsimp only;rw[n,List.find?_append,<-m y f];cases a:UQ y v with
   |false=>simp[List.find?_cons,a]
   |true=>
    obtain⟨g,x,z⟩:=H y f a;cases t:o.find? (UQ y)with
    |some w=>rfl
    |none=>exact O! z (List.find?_eq_none.1 t g x),j⟩ d!
 apply AT<;>intro C
 ·rw[AD,ACV hr,AD];refine AA (AHf D_ o!) λb k=>?_;dsimp only at k;rw[K!]at k;cases b with
  |true=>
   have⟨J,K⟩:=k.1 rfl;rw[B!,AD];refine AA (P:=λw=>w=o++[v]) (AA (Ac w!) λw B=>AB B.1) λw B=>?_;subst B;refine Ao.next ⟨d!,d!,by dsimp only;rw[n];exact l.append (List.Sublist.refl _),λy f=>?_,λg x=>?_⟩ d!
   dsimp only;rw[n,List.find?_append,List.find?_append,m y f];rcases Al.1 x with q|q;exact j g q;rw[A7.1 q];exact C
  |false=>
   rw[A!,AD];refine d λy f a=>?_;have e:v.2.1=y:=by unfold UQ at a;simp at a;exact a.2
   refine R5 λA_=>?_;have:=k.2 ⟨by rw[e];exact f,λg x u=>A_ ⟨g,x,by unfold UQ;simp[j g x,u,e]⟩⟩;cases this
 refine AA (AHe d!) λb k=>?_;rw[k,A!,AD];refine d λy f a=>?_;unfold UQ at a;simp at a;exact O! a.1 C
def AIn(L:QH a e)(u:GF a)(E:e.2.2=Z a)(s:e.1<=b)(t:b<=e.2.2+1):Ao (Gx (e,b)) λr=>QH a r.1/\r.1.1=b/\r.1.2.2=e.2.2/\∀q,b<=q->q<=e.1+Z e.2.1-1->q<=r.1.1+Z r.1.2.1-1:=by
 have⟨a1,a2,a3,a4,a5,a6⟩:=id L.vl;have m:=L.len;have v:e.2.2=e.1+Z e.2.1-1:=by by_cases p:Z e.2.1=0;omega;have d:e.2.1[Z e.2.1-1]?=D (e.2.1[Z e.2.1-1]' o!):=Ar o!;have c:=(a6 _ _ d).1;have h:=((L.tail _).1 (BQ d)).1;obtain⟨j,l⟩:=Cu h;have o:=(u j _ l).1;have:=CZ l;omega
 refine(AIM L.vl v s t o!).mono λr hr=>?_;obtain⟨f,x,y⟩:=hr;have⟨z,A_,B,C,D_,n⟩:=id f.vl;have g:r.1.1+Z r.1.2.1-1<=e.1+Z e.2.1-1:=by by_cases p:Z r.1.2.1=0;omega;have d:r.1.2.1[Z r.1.2.1-1]?=D (r.1.2.1[Z r.1.2.1-1]' o!):=Ar o!;have c:=(n _ _ d).1;have h:=((f.tail _).1 (BQ d)).1;obtain⟨j,l⟩:=Cu h;have o:=(a6 j _ l).1;have:=CZ l;omega
 refine⟨⟨f.vl,L.sorted,λc=>?_,L.len⟩,x,y,λq F G=>o!⟩;rw[f.tail,L.tail];constructor;rintro⟨⟨i,_⟩,k⟩;exact⟨i,k⟩;rintro⟨i,k,w⟩;exact⟨⟨i,o!⟩,k,w⟩
def AEa{x:AQ×AL×List AS×Int}{V:List Ai}{W:List NE}(u:GF a)(w:QH a x.1.2.2.1)(i:x.1.2.2.1.2.2=θ a)(t:θ x.2.2.1≤8)(L:θ x.2.1.2.2.1≤256)
  (v:Ao (JF x) λr=>r.2=0->x.1.2.2.1.1<=r.1.1/\r.1.1<=x.1.2.2.1.2.2+1/\θ r.1.2.1<=100000/\θ r.1.2.2<=100000/\Kept x.2.1 x.1.2.2.1 V W (θ x.2.1.1) r.1):
  Ao (Nb x) λr=>r.2.2.2=0->∃(N:Bx)(l:Aa)(k g:List AS),r=((x.1.1,x.1.2.1,l,x.1.2.2.2),(x.2.1.1,x.2.1.2.1,k,x.2.1.2.2.2),g,0)/\Kept x.2.1 x.1.2.2.1 V W (θ x.2.1.1) N/\QH a l/\l.1=N.1/\l.2.2=θ a/\(∀q,N.1<=q->q<=x.1.2.2.1.1+θ x.1.2.2.1.2.1-1->q<=l.1+θ l.2.1-1)/\k=x.2.1.2.2.1.filter (λf=>decide (f.2.1∈N.2.1))/\g.Sublist x.2.2.1/\∀y∈N.2.2,g.find? (UQ y)=x.2.2.1.find? (UQ y):=by
 unfold Nb;refine AA v λD p=>AK (λd=>AB λz=>O! z d) (λe=>?_);obtain⟨A,B,G,H,C⟩:=p e;refine AA (AIn w u i A B) λE s=>AA (ADp L o!) λF c=>AA (ABd t o!) λh b=>AB λ_=>?_;obtain⟨j,m,n,o⟩:=s;exact⟨D.1,E.1,F,h,rfl,C,j,m,n.trans i,o,c,b.1,b.2⟩
def AIW(v:E AS):Eg [] v=v:=List.filter_eq_self.2 λf _=>rfl
def AGM{e}{x}{m}(h:Ql a b d e (Z e) x)(k:g.find? (UQ x.1)=e.find? (UQ x.1))(l:∀f,UQ x.1 f=Y->KZ m f=X):Ql a b d (Eg m g) (Eg m g).length x:=by
 obtain⟨n,f,j,c⟩:=mZ.1 h;refine mZ.2 ⟨n,f,?_,c⟩;unfold Eg;rw[aw,<-j];rw[show(λg:AS=>g.1==2&&g.2.1==x.1)=UQ x.1 from rfl,<-k];congr 1;funext L;show(!KZ m L&&UQ x.1 L)=UQ x.1 L;cases i:UQ x.1 L with
 |false=>rw[Bool.and_false]
 |true=>rw[l L i];rfl
def zQ{x:List Int}(h:∀c∈x,0<=c/\c<256):Ao (Mp x) λr=>r=ζ:=by
 unfold Mp;rw[AG3,AD,Ce,A!];refine AA (AE9 h) λv2 a5=>AA (AEJ a5) λu h3=>?_;obtain⟨c3,⟨n,d,L,m,t⟩,hK⟩:=h3;have b3:=t.log.len;have b8:=t.pn;have Y_:=t.ar.vb.2.2.2.2.2.1;have⟨V,hV,v8,hu,hS⟩:=uJ t.num o! t.pn t.i8 (λf q=>.inl (t.fi f q));have hP:∀z∈V,PI L d m z:=λz D_=>by have⟨i,f,_,_,q⟩:=(hS z).1 D_;exact q.2.2.1
 have bz:∀p:Int,p<m->p<u.1.2.2.1.2.1:=λp hp=>by have:=t.pg;omega
 have gl:∀f∈u.1.2.2.1.2.2.1,f.1=1:=λf v=>by obtain⟨r,hr⟩:=t.ag f v;exact hr.1
 have fC:∀y:Int,Eg [((2,y,[]):AS)] u.1.2.2.1.2.2.1=u.1.2.2.1.2.2.1:=λy=>List.filter_eq_self.2 λf v=>by have:=gl f v;simp[KZ,this]
 have R:∀z∈V,∀p:Int,0<=p->p<m->0<=TD z p/\TD z p<=θ L:=λz D_ p K M=>by obtain⟨j,hj,C,x2,xe⟩:=hP z D_;rw[xe,sT ⟨K,M⟩];have a:=T1 t.num p j;have b:=WA (t.num.take j) p;rw[BK]at b;omega
 rw[hV,AD];refine AC (λ_=>AB rfl) (λa9=>?_);simp only[len]at a9;refine AA (P:=λr=>r=.inl ζ\/(r=.inr ()/\∀z∈V,∀p:Int,0<=p->p<m->OKp L d m u.1.2.2.1 u.1.1.2.2.1 (Eg [(2,z.1,[])] u.1.2.2.2.1) (θ L) p)) ?_ λr hr=>?_
 ·refine CE (λ(s:Int)=>0<=s/\s<=θ V/\∀z∈V.take s.toNat,∀p:Int,0<=p->p<m->OKp L d m u.1.2.2.1 u.1.1.2.2.1 (Eg [(2,z.1,[])] u.1.2.2.2.1) (θ L) p) (λs=>((θ V:Int)-s).toNat) ⟨AY _,o!,λz D_=>by simp at D_⟩ (λs hI=>?_);have⟨i0,i1,i2⟩:=hI;unfold QY;dsimp only[len];refine AC (λZ=>?_) (λZ=>Ao.done (.inr ⟨rfl,by rw[BG o!]at i2;exact i2⟩));rw[AX];refine AA (AE i0 Z) λz D_=>AA (AEr (x:=(u.1,[(2,z.1,[])])) t.li t.num t.ar t.log t.rc (Am _) t.dur t.pg t.pn t.i8 t.fi (by dsimp only;exact(by decide:1<=16777216))) λb J=>AP (λ_=>Ao.done (.inl rfl)) (λa8=>Ao.next ⟨o!,o!,λw hw=>?_⟩ o!);rw[show(s+1).toNat=s.toNat+1 by omega,CC,D_.1,Al]at hw;rcases hw with q|q;exact i2 w q;have e:w=z:=by simpa using q
  subst e;have:=J.1 a8;dsimp only at this;rw[fC]at this;exact this
 rcases hr with rfl|⟨rfl,ap⟩;exact BB (AB rfl);apply Au;obtain⟨r,hr,W,a7,_,w2,w3⟩:=AEo t.ar;subst a7;have Q:=ADR (x:=(u.1.1,u.1.2.2.1,u.1.2.2.2.1,2)) (V:=V) (W:=W) (d:=d) (m:=m) t.num o! t.pn hV v8 o! hP hu t.dur rfl t.pg t.ar.vb hr w2 (AGr hK.1 t.log.vl hK.2.2.2 hK.2.1 hK.2.2.1) t.log.vl;refine AA (AEa (x:=(u.1.1,u.1.2.2.1,u.1.2.2.2.1,2)) t.num t.log t.dur t.i8 Y_ Q) λca a4=>AK (λ_=>AB rfl) (λD_=>?_);obtain⟨N,l,k,g,rfl,E,ao,l1,l2,l3,hk,hg,H⟩:=a4 D_;dsimp only at E l3 hk hg H⊢;have O:k.Sublist u.1.2.2.1.2.2.1:=by rw[hk];exact List.filter_sublist
 have⟨a1,a2,a3⟩:=t.ar.less O t.rc;have g8:θ g<=8:=Cs hg.length_le t.i8;have gF:∀f∈g,FI L d m f:=λf v=>t.fi f (hg.subset v);have gk:∀y:Int,Eg [((2,y,[]):AS)] k=k:=λy=>List.filter_eq_self.2 λf v=>by have:=gl f (O.subset v);simp[KZ,this]
 have ax:∀(o:List AS)(p:Int),0<=p->p<m->(∀B∈V,∀C∈V,B.1≠C.1->(∀f,UQ B.1 f=ζ->KZ o f=η)\/(∀f,UQ C.1 f=ζ->KZ o f=η))->OKp L d m (u.1.2.2.1.1,u.1.2.2.1.2.1,k,u.1.2.2.1.2.2.2) l (Eg o g) (θ L) p:=λo p K M T=>by
  obtain⟨b0,a',A_,q1,q2,_,_⟩:=uH (p:=p) (i:=0) (j:=(θ L:Int)) (CPa 4096) g! t.li o! (AY _) o! o! a1 ao ⟨K,bz p M⟩;have⟨i,i1,i2,i3,i4⟩:=id q1;dsimp only at i1;obtain⟨F,k1,k2,k3⟩:=E i b0 (by have:=CZ i1;omega) i1;obtain⟨B,m0,C,m1,U,bG,bN,f0,f1,G⟩:=k1 p i3 (by rw[i2]at i4;exact i4);obtain⟨lo,hi,fl,e1,e2,e3⟩:=ap B m0 p K M;have bm:=e1.uniq t.ar.vb.1 rfl rfl q1;subst bm;have⟨b4,b5,a0,b6⟩:=id e2;have c0:=R B m0 p K M;have c1:=R C m1 p K M;have al:fl<=TD C p/\fl<=TD B p:=by
   have b7:=(G C m1).1;rcases e3 with e|⟨w,w1,w2,cc⟩;omega;have wV:w∈V:=(hS w).2 (by have:=AGN (l:=[]) (more:=[(2,B.1,[])]) (λf v=>by simp[KZ]at v) w1;rwa [AIW]at this);have b2:w.1≠B.1:=by obtain⟨_,f,v,_⟩:=mZ.1 w1;have hp:=List.find?_some v;have hm:=List.mem_of_find?_eq_some v;have:=(BZ.1 hm).2;simp at hp;intro I;simp[KZ,hp.1,hp.2,I]at this
   have:=(G w wV).2 b2;omega
  have main:∀z∈V,z.1∈N.2.2->F<=TD z p->fl<=TD z p->(∀f,UQ z.1 f=ζ->KZ o f=η)->OKp L d m (u.1.2.2.1.1,u.1.2.2.1.2.1,k,u.1.2.2.1.2.2.2) l (Eg o g) (θ L) p:=λz D_ zi zF zf zl=>by
   have cz:=R z D_ p K M;refine⟨lo,a',A_,q1,q2,.inr ⟨z,AGM ((hS z).1 D_) (H _ zi) zl,cz.2,?_⟩⟩;refine R5 λb'=>?_;have⟨g0,g1,g2,g3⟩:=q2;have ad:=a0 A_ o! g1;rcases g3 with e|bt;omega;apply bt;have b1:∀e∈GP u.1.2.2.1,e.1.2.2.1=lo->e.1.1<=A_->A_<=e.1.2.1->ka (u.1.2.2.1.1,u.1.2.2.1.2.1,k,u.1.2.2.1.2.2.2) l lo A_:=λe I X_ r2 r3=>by have bb:=k2 e ((w3 e).2 I) X_ o!;obtain⟨f,u1,u2,u3⟩:=(tu t.ar e).1 I;exact .inr ⟨e,(a3 e).2 ⟨f,by rw[hk];exact BZ.2 ⟨u1,by rw[<-u3];exact G! bb⟩,u2,u3⟩,X_,r2,r3⟩
   by_cases S:∃e∈GP u.1.2.2.1,e.1.2.2.1=lo/\e.1.1<=A_/\A_<=e.1.2.1;obtain⟨e,I,X_,r2,r3⟩:=S;exact b1 e I X_ r2 r3;rcases ad with q|⟨e,I,r⟩;have J:bare u.1.1.2.2.1 W lo F A_:=⟨o!,q.1,q.2,λe I X_ r2=>S ⟨e,(w3 e).1 I,X_,r2⟩⟩
   have:=k3 A_ J;exact .inl ⟨o!,l3 A_ this q.2⟩;exact O! ⟨e,I,r⟩ S
  rcases T B m0 C m1 U with q|q;exact main B m0 bG f0 al.2 q;exact main C m1 bN f1 al.1 q
 have sv:∀o:List AS,θ o<=1->Eg o k=k->(∀B∈V,∀C∈V,B.1≠C.1->(∀f,UQ B.1 f=ζ->KZ o f=η)\/(∀f,UQ C.1 f=ζ->KZ o f=η))->Ao (Fo (((u.1.1.1,u.1.1.2.1,l,u.1.1.2.2.2),u.1.2.1,(u.1.2.2.1.1,u.1.2.2.1.2.1,k,u.1.2.2.1.2.2.2),g,u.1.2.2.2.2),o)) λb=>b=ζ:=λo h1 bl hx=>(AEs (x:=(((u.1.1.1,u.1.1.2.1,l,u.1.1.2.2.2),u.1.2.1,(u.1.2.2.1.1,u.1.2.2.1.2.1,k,u.1.2.2.1.2.2.2),g,u.1.2.2.2.2),o)) t.li t.num a1 ao a2 g! (Am _) l2 t.pg t.pn g8 gF d!).mono λb J=>J.2 λp K M=>by dsimp only;rw[bl];exact ax o p K M hx
 have⟨V',a6,cb,b9⟩:=uI t.num o! t.pn g8 (λf q=>.inl (gF f q));rw[a6,AD];refine AA (P:=λr=>r=.inr ()) ?_ λr hr=>?_
 ·refine CE (λ(s:Int)=>0<=s/\s<=θ V') (λs=>((θ V':Int)-s).toNat) ⟨AY _,o!⟩ (λs hI=>?_);have⟨i0,i1⟩:=hI;unfold QZ;dsimp only[len];refine AC (λZ=>?_) (λZ=>Ao.done rfl);rw[AX];refine AA (AE i0 Z) λz D_=>AA (sv [(2,z.1,[])] (Am _) (gk _) λB _ C _ U=>?_) λb J=>?_;by_cases e:B.1=z.1;refine .inr λf v=>?_;unfold UQ at v;simp at v;simp[KZ,v.1,v.2];exact λw=>U (e.trans w);refine .inl λf v=>?_;unfold UQ at v;simp at v;simp[KZ,v.1,v.2];exact λw=>e w.symm
  ·rw[J];exact Ao.next o! o!
 rw[hr];apply Au;refine AA (sv [] (Bh _) (AIW _) λB _ C _ _=>.inl λf _=>rfl) λb J=>AB J
end Go.Pm
namespace Go.Proofs.YtkgodfhnofpglaaGreatDoor
open Go.RowKit Go.Ab Go.Pm
def ACf:∃j,Tryz.prog.info? 389=D j/\j.size=2:=by
 have h:(Tryz.prog.info? 389).map (·.size)=D 2:=h!
 exact Wx.1 h
def AG8:liesAt Tryz.prog Tryz.prog.depth 389 (2/Tryz.prog.cellsOf 389) 0 389 1=Y:=h!
def wO(b:Nat)(w:World)(d:w.cell? ⟨b,0,A⟩=D (.pointer (D ⟨b,0,A⟩))):
  Calls Tryz.prog 341 #[.pointer (D ⟨b,0,A⟩)] w λe c=>e=.returned (.tuple #[])/\c=w:=by
 obtain⟨j,a,_⟩:=ACf;go_enter Tryz.func341,Tryz.ntmps341;go_wp2;rw[Lib.run_neq_ptr_same w _ Tryz.underlying387 a];go_wp2;go_end0;exact⟨rfl,rfl⟩
def lJ(b:Nat)(w:World)(h:w.cell? ⟨b,0,A⟩=D (.pointer A))(a:w.shape? b=D (389,2))(f:w.frozen? ⟨b,0,A⟩=X):
  Calls Tryz.prog 341 #[.pointer (D ⟨b,0,A⟩)] w λe g=>e=.returned (.tuple #[])/\g=w.setCell ⟨b,0,A⟩ (.pointer (D ⟨b,0,A⟩)):=by
 obtain⟨j,d,c⟩:=ACf;go_enter Tryz.func341,Tryz.ntmps341;go_wp2;rw[Lib.run_to_unsafe w ⟨b,0,A⟩ Tryz.underlying387 Tryz.underlying494 d (by rw[c];decide) a (Nat.zero_lt_succ 1)];simp only[Result.andThen];rw[Oper.upon_value];go_wp2;rw[run_callFunc_extern Tryz.func388 h! h! h! (e:=Extern.AbiNoEscape.same) h!];rw[Lib.run_noEscape];simp only[Result.andThen];rw[Oper.upon_value];go_wp2;rw[Lib.run_from_unsafe w ⟨b,0,A⟩ Tryz.underlying494 Tryz.underlying387 d a AG8];simp only[Result.andThen];rw[Oper.upon_value];go_wp2;go_end0;exact⟨rfl,rfl⟩
def zr(B b:Nat)(bs:E Value)(w:World)(h:Lib.IsBuilderF 389 5 B b bs w):
  Calls Tryz.prog 341 #[.pointer (D ⟨b,0,A⟩)] w λe a=>e=.returned (.tuple #[])/\Lib.BuilderAtF 389 5 B b (.pointer (D ⟨b,0,A⟩)) bs a/\Below B w a:=by
 rcases h with h|h;apply (lJ b w h.cell0 h.shape h.frozen0).mono;rintro e a ⟨rfl,rfl⟩;exact⟨rfl,h.used _,(Below.refl B w).setCell (p:=⟨b,0,A⟩) h.1 _⟩;apply (wO b w h.cell0).mono;rintro e a ⟨rfl,rfl⟩;exact⟨rfl,h,Below.refl B _⟩
def ACe:∃i,Tryz.prog.info? 5=D i/\i.zero=D (.int .u8 0)/\i.size=1/\i.bytes=1:=by
 have h:(Tryz.prog.info? 5).map (λi=>(i.zero,i.size,i.bytes))=D (D (.int .u8 0),1,1):=h!
 obtain⟨i,b,a⟩:=Wx.1 h;simp only[EW]at a;exact⟨i,b,a.1,a.2.1,a.2.2⟩
variable {d:Nat}
def uW{b}{p}{bs}{w}(h:Lib.BuilderAtF 389 5 d b p bs w):∃v,w.heap[b]?=D (.cells #[p,v] 389 (0,0))/\w.cell? ⟨b,1,A⟩=D v/\w.ownsRowF d 5 1 v (Z bs) bs/\v.ownBlock≠D b:=by obtain⟨e,v,a,c,B⟩:=h;exact⟨v,a,by rw[Lib.cell_of_heap a];rfl,c,B⟩
def AI6(B b:Nat)(bs:E Value)(w:World)(h:Lib.IsBuilderF 389 5 B b bs w):
  Calls Tryz.prog 267 #[.pointer (D ⟨b,0,A⟩)] w λe l=>e=.returned (.int .i64 (Z bs))/\l=w:=by
 obtain⟨p,j⟩:∃p,Lib.BuilderAtF 389 5 B b p bs w:=h.elim (λh=>⟨_,h⟩) (λh=>⟨_,h⟩);obtain⟨v,k,m,a,_⟩:=uW j;obtain⟨d,cap,rfl⟩:∃d cap,v=.slice d (Z bs) cap:=by rcases a.2 with⟨c,i⟩|⟨g,cap,f,n,c,_⟩;exact⟨A,0,by rw[c,i]⟩;exact⟨_,_,c⟩
 go_enter Tryz.func267,Tryz.ntmps267
 go_wp2
 go_ret
 exact⟨rfl,rfl⟩
def yN(B b:Nat)(bs:Ψ Value)(c:U)(w:World)(h:Lib.IsBuilderF 389 5 B b bs w)(C:Z bs+1≤140737488355328)(H:B≤w.heap.size):
  Calls Tryz.prog 263 #[.pointer (D ⟨b,0,A⟩),.int .u8 c] w λe E=>e=.returned .nilIface/\Lib.BuilderAtF 389 5 B b (.pointer (D ⟨b,0,A⟩)) (bs++[.int .u8 c]) E/\Below B w E:=by
 obtain⟨M,I,t,x,y⟩:=ACe;go_enter Tryz.func263,Tryz.ntmps263;go_wp2_with (go_at_call 341;apply (zr B b bs _ h).mono)
 rintro e F ⟨rfl,m,l⟩;have A_:=m.1;have r:=m.lt;have c0:=m.cell0;obtain⟨v,q,z,i,s⟩:=uW m;have K:=l.size;go_wp2_with (at_builtin;apply wpList_append_ownF _ rfl _ _ 22 rfl B 5 M (.int .u8 0) 1 1 Tryz.underlying22 I t x y rfl g! _ _ _ rfl (i.alloc _) ⟨F.heap.size,0,A⟩ 1 1 [.int .u8 c] rfl rfl ?z ?c2 ?c3 ?c4 ?c5)
 case z=>
  intro j u n;match j,n with
  |0,n=>simp at n;subst n;simp[Addr.add]
 case c2=>intro u D_;simp at D_;subst D_;rfl
 case c3=>unfold maxLen;omega
 case c4=>omega
 case c5=>simp;omega
 intro N o d a _;have f:o.heap[b]?=D (.cells #[.pointer (D ⟨b,0,A⟩),v] 389 (0,0)):=by rw[a.block b w! (s ·.symm),Lib.alloc_old F _ b r];exact q
 have O:o.cell? ⟨b,0,A⟩=D (.pointer (D ⟨b,0,A⟩)):=by rw[Lib.cell_of_heap f];rfl
 have P:o.cell? ⟨b,1,A⟩=D v:=by rw[Lib.cell_of_heap f];rfl
 have Q:o.frozen? ⟨b,1,A⟩=X:=Lib.frozen_of_heap f 1;obtain⟨g,cap,rfl⟩:∃g cap,N=.slice (D ⟨g,0,A⟩) (Z bs+1) cap:=by rcases d.2 with⟨_,S⟩|⟨g,cap,G,R,L,_⟩;omega;exact⟨g,cap,L⟩
 go_wp2
 go_ret
 refine⟨rfl,?_,?_⟩;exact Lib.BuilderAtF.put (T:=389) (e:=5) A_ f (bs':=bs++[.int .u8 c]) (by simpa using d) g!;exact((l.alloc o! _).grown a w! (λk J=>(i.lt k J).1)).setCell (p:=⟨b,1,A⟩) A_ _
def ZG(B b:Nat)(bs:Ψ Value)(s:ByteArray)(w:World)(h:Lib.IsBuilderF 389 5 B b bs w)(z:Z bs+s.size≤140737488355328)(E:B≤w.heap.size):
  Calls Tryz.prog 262 #[.pointer (D ⟨b,0,A⟩),.string s] w λe C=>e=.returned (.tuple #[.int .i64 s.size,.nilIface])/\Lib.BuilderAtF 389 5 B b (.pointer (D ⟨b,0,A⟩)) (bs++Lib.strCells s) C/\Below B w C:=by
 obtain⟨I,F,r,t,u⟩:=ACe;go_enter Tryz.func262,Tryz.ntmps262;go_wp2_with (go_at_call 341;apply (zr B b bs _ h).mono)
 rintro e P ⟨rfl,j,i⟩;have y:=j.1;have n:=j.lt;have c0:=j.cell0;obtain⟨v,m,K,f,o⟩:=uW j;have H:=i.size;go_wp2_with (at_builtin;apply Lib.wpList_append_own_stringF _ rfl _ _ 22 9 rfl B 5 I Tryz.underlying22 Tryz.underlying9 F r t u _ _ _ rfl f s rfl ?c3 ?c4 ?c5)
 case c3=>unfold maxLen;omega
 case c4=>omega
 case c5=>omega
 intro J l c a _;have d:l.heap[b]?=D (.cells #[.pointer (D ⟨b,0,A⟩),v] 389 (0,0)):=by rw[a.block b n (o ·.symm)];exact m
 have L:l.cell? ⟨b,0,A⟩=D (.pointer (D ⟨b,0,A⟩)):=by rw[Lib.cell_of_heap d];rfl
 have M:l.cell? ⟨b,1,A⟩=D v:=by rw[Lib.cell_of_heap d];rfl
 have N:l.frozen? ⟨b,1,A⟩=X:=Lib.frozen_of_heap d 1;obtain⟨x,A_,cap,rfl⟩:∃x A_ cap,J=.slice x A_ cap:=by rcases c.2 with⟨q,_⟩|⟨g,cap,D_,O,q,_⟩;exact⟨_,_,_,q⟩;exact⟨_,_,_,q⟩
 go_wp2
 go_ret2
 refine⟨rfl,?_,?_⟩;exact Lib.BuilderAtF.put (T:=389) (e:=5) y d (bs':=bs++Lib.strCells s) (by simpa[Lib.strCells_length]using c) g!;exact(i.grown a o! (λk G=>(f.lt k G).1)).setCell (p:=⟨b,1,A⟩) y _
def wy(B b:Nat)(l:Ψ UInt8)(w:World)(h:Lib.IsBuilderF 389 5 B b (Lib.byteCells l) w)(y:l≠ []):
  Calls Tryz.prog 264 #[.pointer (D ⟨b,0,A⟩)] w λe z=>e=.returned (.string ⟨l.toArray⟩)/\Lib.IsBuilderF 389 5 B b (Lib.byteCells l) z/\Below B w z:=by
 obtain⟨p,K,k⟩:∃p,(p=.pointer A\/p=.pointer (D ⟨b,0,A⟩))/\Lib.BuilderAtF 389 5 B b p (Lib.byteCells l) w:=h.elim (λh=>⟨_,.inl rfl,h⟩) (λh=>⟨_,.inr rfl,h⟩);obtain⟨D_,v,i,c,t⟩:=k;have s:Z l≠0:=by simpa using y
 rw[Lib.byteCells_length]at c;obtain⟨g,cap,a,f,rfl,n,I,H,J,o,G,u⟩:∃g cap a f,v=.slice (D ⟨g,0,A⟩) (Z l) cap/\B<=g/\w.heap[g]?=D (.cells a 5 f)/\f.2<=Z l*1/\Z l<=cap/\cap<=maxLen/\a.size=cap*1/\a.toList.take (Z l*1)=Lib.byteCells l:=by rcases c.2 with⟨_,N⟩|⟨g,cap,a,f,L,r⟩;exact O! N s;exact⟨g,cap,a,f,L,r⟩
 have A_:w.drew.cell? ⟨b,1,A⟩=D (.slice (D ⟨g,0,A⟩) (Z l) cap):=by have:w.drew.heap[b]?=D (.cells #[p,.slice (D ⟨g,0,A⟩) (Z l) cap] 389 (0,0)):=i;rw[Lib.cell_of_heap this];rfl
 have E:(Builtin.unsafeSliceData_ #[22] 451 #[.slice (D ⟨g,0,A⟩) (Z l) cap]).run Tryz.prog w.drew=.ok (.pointer (D ⟨g,0,A⟩)) w.drew:=Lib.run_unsafeSliceData_row _ _ _ _ _ _ o!;have F:(Builtin.unsafeString_ #[451,3] 9 #[.pointer (D ⟨g,0,A⟩),.int .i64 (Z l)]).run Tryz.prog w.drew=.ok (.string ⟨l.toArray⟩) (w.drew.freeze ⟨g,0,A⟩ (Z l)):=by apply Lib.run_unsafeString_row w.drew 451 3 9 5 Tryz.underlying451 h! g a.size (by have q:w.drew.heap[g]?=D (.cells a 5 f):=I;simp[World.shape?,q]) l y o! (by unfold maxLen at o;omega);intro j x M;exact c.cells (g:=g) rfl j (.int .u8 x.toNat) (by simp[Lib.byteCells,M])
 have d:Lib.IsBuilderF 389 5 B b (Lib.byteCells l) (w.drew.freeze ⟨g,0,A⟩ (Z l)):=by
  have C:Lib.BuilderAtF 389 5 B b p (Lib.byteCells l) w.drew:=⟨D_,_,i,by rw[Lib.byteCells_length];exact c,t⟩
  have m:=C.froze (g:=g) (cap:=cap) (by rw[Lib.byteCells_length];exact A_);rw[Lib.byteCells_length]at m;rcases K with rfl|rfl;exact .inl m;exact .inr m
 go_enter Tryz.func264,Tryz.ntmps264
 go_wp2
 go_region
 all_goals (go_wp2;go_ret;exact⟨rfl,d,Lib.below_freeze (Below.drew (Below.refl B w)) (p:=⟨g,0,A⟩) n _⟩)
set_option maxRecDepth 1000000 in
def AE5(B b n:Nat)(w:World)(p:B≤b)(a:w.heap[b]?=D (.cells #[.pointer (D ⟨b,0,A⟩),.slice A 0 0] 389 (0,0)))(j:B≤w.heap.size)(hn:n≤281474976710656):
  Calls Tryz.prog 344 #[.pointer (D ⟨b,0,A⟩),.int .i64 n] w λe o=>e=.returned (.tuple #[])/\Lib.BuilderAt 389 5 B b (.pointer (D ⟨b,0,A⟩)) [] o/\Below B w o:=by
 obtain⟨c,h,q,g⟩:=Lib.run_makeNoZero (P:=Tryz.prog) w.drew #[3] 22 5 Tryz.underlying22 n hn;have m:IntKind.i64.wrap (IntKind.i64.wrap 0+(n:U))=n:=by rw[IntKind.wrap_i64,IntKind.wrap_i64];omega
 have k:(callFunc 389 #[.int .i64 (IntKind.i64.wrap (IntKind.i64.wrap 0+(n:U)))]).run Tryz.prog w.drew=.ok (.value (.slice (D ⟨w.drew.heap.size,0,A⟩) n c.size)) (w.drew.drew.drew.alloc (.cells c 5)):=by rw[m,run_callFunc_extern Tryz.func389 h! h! h! (e:=Extern.BytealgMakeNoZero.makeNoZero #[3] #[22]) h!,h];rfl
 have f:b<w.heap.size:=by rcases Aw b w.heap.size with i|i;exact i;simp[uS i]at a
 have r:w.drew.cell? ⟨b,1,A⟩=D (.slice A 0 0):=by have:w.drew.heap[b]?=_:=a;rw[Lib.cell_of_heap this];rfl
 have s:(w.alloc (.cells c 5)).cell? ⟨b,1,A⟩=D (.slice A 0 0):=by have:(w.alloc (.cells c 5)).heap[b]?=_:=(Lib.alloc_old w _ b f).trans a;rw[Lib.cell_of_heap this];rfl
 have t:(w.alloc (.cells c 5)).frozen? ⟨b,1,A⟩=X:=Lib.frozen_of_heap ((Lib.alloc_old w _ b f).trans a) 1;have l:∀W:World,(Builtin.copy_ #[22,22] 3 #[.slice (D ⟨w.heap.size,0,A⟩) 0 c.size,.slice A 0 0]).run Tryz.prog W=.ok (goInt 0) W:=λW=>run_copy_none W 22 22 3 5 _ _ 0 c.size 0 0 Tryz.underlying22 h! rfl;clear m;have d:=Lib.grown_fresh (T:=389) (e:=5) (cs:=c) p a j (g (by unfold maxLen;omega)) g!;rw[World.setCell_alloc_past _ _ _ _ f]at d;go_enter Tryz.func344,Tryz.ntmps344;go_wp2;go_region;all_goals (go_wp2;go_end0;exact⟨rfl,d⟩)
set_option maxRecDepth 1000000 in
def AG7(B b n:Nat)(w:World)(g:B≤b)(c:w.heap[b]?=D (.cells #[.pointer A,.slice A 0 0] 389 (0,0)))(h:B≤w.heap.size)(hn:n≤281474976710656):
  Calls Tryz.prog 266 #[.pointer (D ⟨b,0,A⟩),.int .i64 n] w λe f=>e=.returned (.tuple #[])/\Lib.BuilderAt 389 5 B b (.pointer (D ⟨b,0,A⟩)) [] f/\Below B w f:=by
 have a:(w.setCell ⟨b,0,A⟩ (.pointer (D ⟨b,0,A⟩))).heap[b]?=D (.cells #[.pointer (D ⟨b,0,A⟩),.slice A 0 0] 389 (0,0)):=by simp[World.setCell,dQ,c]
 have i:(w.setCell ⟨b,0,A⟩ (.pointer (D ⟨b,0,A⟩))).cell? ⟨b,1,A⟩=D (.slice A 0 0):=by rw[Lib.cell_of_heap a];rfl
 have d:Below B w (w.setCell ⟨b,0,A⟩ (.pointer (D ⟨b,0,A⟩))):=(Below.refl B w).setCell (p:=⟨b,0,A⟩) g _;have m:Lib.BuilderAt 389 5 B b (.pointer (D ⟨b,0,A⟩)) [] (w.setCell ⟨b,0,A⟩ (.pointer (D ⟨b,0,A⟩))):=⟨g,.slice A 0 0,a,World.ownsRow_nil _ _ _ _,by simp[Value.ownBlock]⟩
 have j:(w.setCell ⟨b,0,A⟩ (.pointer (D ⟨b,0,A⟩))).drew.cell? ⟨b,1,A⟩=D (.slice A 0 0):=i;go_enter Tryz.func266,Tryz.ntmps266;go_wp2_with (go_at_call 341;apply (lJ b w (by rw[Lib.cell_of_heap c];rfl) (by simp[World.shape?,c]) (Lib.frozen_of_heap c 0)).mono;rintro e f ⟨rfl,rfl⟩)
 go_region
 all_goals go_wp2_with (go_at_call 344;apply (AE5 B b n (w.setCell ⟨b,0,A⟩ (.pointer (D ⟨b,0,A⟩))).drew g a (by simpa[World.setCell,World.drew,-World.drew_eq]using h) hn).mono;rintro e f ⟨rfl,k,l⟩)
 all_goals first
  |(go_end0;exact⟨rfl,k,d.drew.trans l⟩)
  |(go_end0;exact⟨rfl,m.drew,d.drew⟩)
end Go.Proofs.YtkgodfhnofpglaaGreatDoor
