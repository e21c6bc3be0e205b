/- Texts of wip, joined and shortened by wip/tools/pack.py; nothing is assumed. -/
import Derived.Test.YtghpjojfhamomaaGreatK14
noncomputable section
set_option linter.all false
namespace Go.Pm
open Go Go.Ab
set_option maxRecDepth 100000
noncomputable section
def Nl(a:(Int×AJ×Ae×Ae×(List Av)×AQ))(b:(Int×AQ))(c:Int):Lp Int (Bool ⊕ Unit):=λd=>bif d<=c then(CG (a.2.2.2.2.1,a.2.1,a.2.2.1,b.1,d)).bind λe=>bif e.2.2==0 then some (.done (.inl false))else some (.next (wi (d+1)))else some (.done (.inr ()))
def J4(x:(List Int)):Option Bool:=(F3 ()).bind λa=>bif !a then some false else((bif len x>500 then(aX x 0 500).bind λb=>some b else some x):(Option (List Int))).bind λc=>(IU (c,0) ()).bind λd=>(Ah d.2.2.2.2.2 d.1).bind λe=>(JO (d.2.2.2.2.1,d.2.1,d.2.2.1,e.1)).bind λf=>(Dl d.2.2.1).bind λg=>bif f<(-1)then some false else bif f>g then some false else((bif f>=0 then(CG (d.2.2.2.2.1,d.2.1,d.2.2.1,e.1,f)).bind λh=>bif h.2.2 !=0 then some (.inl false)else some (.inr ())else some (.inr ())):(Option (Bool ⊕ Unit))).bind λi=>Sum.elim some (λj=>(Ai (Nl d e g) (wi (f+1))).bind λk=>Sum.elim some (λm=>some true) k) i
end
set_option maxHeartbeats 400000
theorem tB{x:List Int}(h: ∀c∈x,0<=c/\c<256):Ap (J4 x) λr=>r=true:=by
 unfold J4;rw[u6,AD,Cg,cond_false];refine AA (qz h) λv2 i=>AA (uk i) λa E=>?_;obtain⟨s1,s2,U,V,W,e,z,s8,s9,o,t,⟨m,K,u⟩,S,T,n,Q⟩:=E;refine AA (Ad o (by omega)) λA F=>?_;obtain⟨Y,R,p1⟩:=F;have w:=e.len;have j: ∀f∈a.2.2.2.2.1,FB FG a.2.2.2.1.2.1 a.2.2.2.1.2.2 m f:=λf j=>by
  rcases u f j with q|⟨g,⟨y,b,J⟩,C,D⟩
  ·exact .inl q
  ·exact .inr (uo z (by omega) (by omega) b D (by rw[<-J];exact C))
 have I: ∀k:Nat,(k:Int)<=a.2.2.1.1+a.2.2.1.2.1.length-1->Ap (CG (a.2.2.2.2.1,(a.2.1,(a.2.2.1,(A.1,(k:Int)))))) λr=>r.2.2=0\/r.2.2=49:=λk Z=>by obtain⟨_,_,_,_,_,L⟩:=nM Q z V e W (by decide) (by omega:k<=a.2.2.2.1.2.1.length) (K.trans U.symm) ⟨by omega,by omega⟩ t j (p:=A.1) ⟨R,by omega⟩;exact L.mono λr q=>q.elim (λq=>.inr q.1) λq=>.inl q.1
 refine AA (ADl e.vl I) λX G=>?_;obtain⟨k0,k1,N,O⟩:=G;refine AA EA λB v=>?_;have v:=v e.vl;rw[decide_eq_false (by omega),cond_false,decide_eq_false (by omega),cond_false];refine AA (P:=λr=>r= .inr ()) ?_ λr hr=>?_
 ·refine AC (λd=>?_) (λ_=>AB rfl);obtain⟨y,b,l⟩:=N d;rw[b,AD,l,bne_self_eq_false,cond_false];exact AB rfl
 rw[hr];refine A7 (AA (P:=λr=>r= .inr ()) ?_ λr hr=>by rw[hr];exact A7 (AB rfl));rw[AY (by omega)];refine Cu (λ(s:Int)=>X<s/\s<=B+1) (λs=>(B+1-s).toNat) ⟨by omega,by omega⟩ (λs H=>?_);obtain⟨M,i1⟩:=H;unfold Nl;refine AC (λd=>?_) (λ_=>Ap.done rfl);obtain⟨y,b,l⟩:=O s M (by omega);rw[b,AD,AY (by omega)];exact AP (λd=>absurd d l) (λ_=>Ap.next ⟨by omega,by omega⟩ (by omega))
end Go.Pm
