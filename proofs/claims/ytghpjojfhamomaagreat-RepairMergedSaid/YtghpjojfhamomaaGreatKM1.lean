/- Texts of wip, joined and shortened by wip/tools/pack.py; nothing is assumed. -/
import Derived.Test.YtghpjojfhamomaaGreatK14
noncomputable section
set_option linter.all false
namespace Go.Pm
open Go Go.Ab
set_option maxRecDepth 100000
noncomputable section
def NH(a:(Int×Ae×AQ))(b:(AJ×AQ))(c:((List Av)×AQ))(d:(AJ×Int))(e:(Ae×Int)):Lp (Int×AQ) (Bool ⊕ AQ):=λf=>bif f.1<a.1 then(Dl a.2.1).bind λg=>(Ah f.2 (wi (g+1))).bind λh=>(CG (c.1,b.1,a.2.1,f.1,h.1)).bind λi=>(CG (c.1,d.1,e.1,f.1,h.1)).bind λj=>(CG ([],b.1,a.2.1,f.1,h.1)).bind λk=>bif i.2.2 !=0 then some (.done (.inl false))else bif j.2.2 !=0 then some (.done (.inl false))else bif k.2.2 !=0 then some (.done (.inl false))else bif !(ABG i.1 j.1)then some (.done (.inl false))else bif !(ABG i.1 k.1)then some (.done (.inl false))else some (.next (wi (f.1+1),h.2))else some (.done (.inr f.2))
def Jr(x:((List Int)×Int)):Option Bool:=(F3 ()).bind λa=>bif !a then some false else((bif len x.1>500 then(aX x.1 0 500).bind λb=>some b else some x.1):(Option (List Int))).bind λc=>(Iw (c,0) 25).bind λd=>(J5 d.2.2 (d.1,d.2.1)).bind λe=>(IV e.2 (d.1,e.1,d.2.1)).bind λf=>(Ah f.2 3).bind λg=>(HX (e.1,(wi (2+g.1)))).bind λh=>bif e.1.2.2.2.1==0 then none else(H8 (d.2.1,(wi (1+(Int.tmod (wi x.2) e.1.2.2.2.1))))).bind λi=>(Ai (NH d e f h i) (0,g.2)).bind λj=>Sum.elim some (λk=>some true) j
theorem qU{x:List Int×Int}(h: ∀c∈x.1,0<=c/\c<256)(h2:0<=x.2/\x.2<256):Ap (Jr x) λr=>r=true:=by
 unfold Jr;rw[u6,AD,Cg,cond_false];refine AA (qz h) λv2 A=>?_;refine AA ((V3 A (x:=25) (by omega)).and (qS A (x:=25) (by omega))) λo h3=>?_;obtain⟨⟨c0,n1,n2,b,n,D⟩,f1,Q⟩:=h3;refine AA (qM (x:=(o.1,o.2.1)) c0 ⟨n1,by dsimp only;omega⟩ b) λj h4=>?_;obtain⟨c1,l,b2,⟨c,F,ad⟩,N,p1,d1,C⟩:=h4;dsimp only at l p1 N d1 C;have R:=b.2.2.1;have B:=b.num Q;obtain⟨m,S⟩:=D6 (show 0<=o.1 by omega);have ed:o.2.1.2.2=o.2.1.2.1.length:=by omega
 rw[S];refine AA (wK c1 D B l (Lx b) ⟨by omega,by omega⟩ (by omega) ⟨by omega,by omega⟩) λv5 h5=>?_;obtain⟨c5,T,U⟩:=h5;refine AA (Ad c5 (by decide)) λZ h6=>?_;obtain⟨c6,m6,n6⟩:=h6;rw[AY (x:=2+Z.1) (by omega)];refine AA (ABs (x:=(j.1,2+Z.1)) b.uq l ⟨by dsimp only;omega,by dsimp only;omega⟩ N (by decide)) λv7 h7=>?_;obtain⟨t0,t1,W,t3,Y,t4,X,t6,t7⟩:=h7;dsimp only at W Y X t6 t7;have al:=l.vb.2.1;have y1:0<=Int.tmod x.2 j.1.2.2.2.1:=jL _ h2.1;have y2:Int.tmod x.2 j.1.2.2.2.1<j.1.2.2.2.1:=jK _ (by omega);rw[beq_eq_false_iff_ne.2 (by omega),cond_false,AY (x:=x.2) (by omega),AY (x:=1+Int.tmod x.2 j.1.2.2.2.1) (by omega)];refine AA (AFH b f1 (f:=1+Int.tmod x.2 j.1.2.2.2.1) (by omega) (by omega) (by omega)) λv8 h8=>?_;obtain⟨w1,w2,w3⟩:=h8;refine AA (P:=λr=> ∃z,r= .inr z) ?_ λr hr=>by obtain⟨z,rfl⟩:=hr;exact A7 (AB rfl)
 refine Cu (λ(s:Int×AQ)=>0<=s.1/\s.1<=m/\CX s.2) (λs=>((m:Int)-s.1).toNat) ⟨Af _,by dsimp only;omega,c6⟩ ?_;rintro⟨p,z⟩ ⟨E,p2,O⟩;dsimp only at E p2 O;unfold NH;dsimp only;rw[S];refine AC (λhc=>?_) (λ_=>Ap.done ⟨_,rfl⟩);refine AA EA λM u=>?_;have u:=u b;rw[AY (x:=M+1) (by omega)];refine AA (Ad O (by omega)) λao H=>?_;obtain⟨G,J,K⟩:=H;obtain⟨k,hk⟩:=D6 J;rw[hk]at K⊢;have g:k<=o.2.1.2.1.length:=by omega
 have e:=wc (L:=[]) (a:=j.1) (k:=k) Q (by omega);have t:Cov v7.1 v8.1 k:=λq q1 q2 p V I hp=>by
  by_cases hq:v8.1.1<=q
  ·exact .inl ⟨hq,by have:=w1.vl.2.2.2.2.1;omega⟩
  ·obtain⟨i,I,_⟩:=hp;rw[X]at I;exact .inr ((W V q).1 (C B V (BN I) q q1 (by omega)))
 refine AA (jF (m:=m) D B l (Lx b) e F (by omega) g (by omega) ⟨by omega,by omega⟩ T U ⟨E,by omega⟩) λap v=>?_;refine AA (jF (m:=m) D B t1 w1 t (Y _ F) (by omega) g (by omega) ⟨by omega,by omega⟩ T U ⟨E,by omega⟩) λar w=>?_;refine AA (jF (m:=m) (d:=0) (fs:=[]) D B l (Lx b) e F (by omega) g (by omega) ⟨by omega,by omega⟩ (by decide) (λf hf=>by simp at hf) ⟨E,by omega⟩) λax y=>?_;rw[v.1,w.1,y.1,v.2,w.2,y.2,oZ,bne_self_eq_false,cond_false,cond_false,cond_false,Cg,cond_false,cond_false,AY (x:=p+1) (by omega)];exact Ap.next ⟨by dsimp only;omega,by dsimp only;omega,G⟩ (by dsimp only;omega)
end
end Go.Pm
