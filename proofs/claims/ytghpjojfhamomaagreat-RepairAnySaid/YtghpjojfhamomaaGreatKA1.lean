/- Texts of wip, joined and shortened by wip/tools/pack.py; nothing is assumed. -/
import Derived.Test.YtghpjojfhamomaaGreatK14
noncomputable section
set_option linter.all false
namespace Go.Pm
open Go Go.Ab
set_option maxRecDepth 100000
noncomputable section
def PP(x:((List Int)×Int))(a:(Int×AJ×Ae×Ae×(List Av)×AQ))(b:Int)(c:Int)(d:(AU×Mf×Int)):Lp Int (Bool ⊕ Unit):=λe=>bif e<len a.2.2.2.1.2.1 then(ix a.2.2.2.1.2.1 e).bind λf=>bif f.2.1==1 then bif f.2.2.2.2.2.2.1.1==c then bif f.1>d.1.2.1 then bif f.1<=(Int.tmod (wi x.2) (wi (b+1)))then some (.done (.inl false))else some (.next (wi (e+1)))else some (.next (wi (e+1)))else some (.next (wi (e+1)))else bif f.2.1==2 then bif f.2.2.2.2.2.2.1.1==c then bif f.1>d.1.2.1 then bif f.1<=(Int.tmod (wi x.2) (wi (b+1)))then some (.done (.inl false))else some (.next (wi (e+1)))else some (.next (wi (e+1)))else some (.next (wi (e+1)))else some (.next (wi (e+1)))else some (.done (.inr ()))
def PO(x:((List Int)×Int))(a:(Int×AJ×Ae×Ae×(List Av)×AQ))(b:Int):Lp Int (Bool ⊕ Unit):=λc=>bif c<a.1 then(CG (a.2.2.2.2.1,a.2.1,a.2.2.1,c,(Int.tmod (wi x.2) (wi (b+1))))).bind λd=>bif d.2.2==49 then some (.next (wi (c+1)))else(DG c).bind λe=>(MN (a.2.2.2.1,e,d.1.2.1)).bind λf=>bif d.2.2 !=0 then some (.done (.inl false))else bif f.2 !=0 then some (.done (.inl false))else bif !(ABG d.1 f.1)then some (.done (.inl false))else bif d.1.2.1>(Int.tmod (wi x.2) (wi (b+1)))then some (.done (.inl false))else bif d.2.1.1 !=c then some (.done (.inl false))else bif d.2.1.2.2.2.1 !=(Int.tmod (wi x.2) (wi (b+1)))then some (.done (.inl false))else(Ai (PP x a b c d) 0).bind λg=>Sum.elim (λh=>some (.done (.inl h))) (λi=>some (.next (wi (c+1)))) g else some (.done (.inr ()))
def Lf(x:((List Int)×Int)):Option Bool:=(F3 ()).bind λa=>bif !a then some false else((bif len x.1>500 then(aX x.1 0 500).bind λb=>some b else some x.1):(Option (List Int))).bind λc=>(IU (c,0) ()).bind λd=>(Dl d.2.2.2.1).bind λe=>bif wi (e+1)==0 then none else(Ai (PO x d e) 0).bind λf=>Sum.elim some (λg=>some true) f
end
set_option maxHeartbeats 400000
theorem wL{x:List Int×Int}(h: ∀c∈x.1,0<=c/\c<256)(hx:0<=x.2/\x.2<256):Ap (Lf x) λr=>r=true:=by
 unfold Lf;rw[u6,AD,Cg,cond_false];refine AA (qz h) λv2 C=>AA (uk C) λe Y=>?_;obtain⟨s1,s2,s3,s4,s5,S,o,s8,s9,al,H,⟨m,hm,I⟩,A,J,n,Q⟩:=Y;have N:=S.len;have E: ∀f∈e.2.2.2.2.1,FB FG e.2.2.2.1.2.1 e.2.2.2.1.2.2 m f:=λf E=>by
  rcases I f E with q|⟨g,⟨y,hy,he⟩,W,X⟩
  ·exact .inl q
  ·exact .inr (uo o (by omega) (by omega) hy X (by rw[<-he];exact W))
 refine AA EA λB L=>?_;have L:=L A;rw[AY (x:=B+1) (by omega),beq_eq_false_iff_ne.2 (by omega),cond_false];refine AA (P:=λr=>r= .inr ()) ?_ λr hr=>by rw[hr];exact A7 (AB rfl)
 refine Cu (λ(s:Int)=>0<=s/\s<=e.1) (λs=>(e.1-s).toNat) ⟨Af _,by omega⟩ (λs hI=>?_);obtain⟨O,i1⟩:=hI;unfold PO;refine AC (λM=>?_) (λ_=>Ap.done rfl);rw[AY (x:=x.2) (by omega),AY (x:=B+1) (by omega),AY (x:=s+1) (by omega)];obtain⟨k,F⟩: ∃k:Nat,Int.tmod x.2 (B+1)=k:=⟨_,(HJ (jL _ hx.1)).symm⟩
 have ad:(k:Int)<B+1:=by rw[<-F];exact jK _ (by omega)
 rw[F];have R:Ap (some (Step.next (s+1)):Option (Step Int (Bool ⊕ Unit))) (LW (λ(s:Int)=>0<=s/\s<=e.1) (λs=>(e.1-s).toNat) (e.1-s).toNat λr=>r= .inr ()):=Ap.next ⟨by omega,by omega⟩ (by omega)
 obtain⟨_,_,_,_,_,z⟩:=nM Q o s4 S s5 (by decide) (by omega:k<=e.2.2.2.1.2.1.length) (hm.trans s3.symm) ⟨by omega,by omega⟩ H E (p:=s) ⟨O,by omega⟩;refine AA z λv6 Z=>?_;refine AP (λ_=>R) (λG=>?_);obtain⟨T,K,U,V,_⟩:=Z.resolve_left λq=>G q.1;have v:DG s=some (st (e.2.2.2.1.2.1.take 0) s):=rfl;have l1:=ZL (o.take k) s;have l2:=Vo o s k;rw[BQ]at l1;rw[v,AD,K,KJ];obtain⟨r,hr,rfl⟩:=ABo A J Q (p:=s) ⟨O,by omega⟩ (j:=0) (k:=k);rw[hr,AD,if_pos (show Ba (e.2.2.2.1.2.1.take 0) s<=Ba (e.2.2.2.1.2.1.take k) s from l2),T];dsimp only;rw[bne_self_eq_false,cond_false,cond_false,oZ,Cg,cond_false,decide_eq_false (by omega),cond_false,U,V,bne_self_eq_false,cond_false,bne_self_eq_false,cond_false];refine AA (P:=λr=>r= .inr ()) ?_ λr hr=>by rw[hr];exact A7 R
 refine Cu (λ(t:Int)=>0<=t/\t<=e.2.2.2.1.2.1.length) (λt=>((e.2.2.2.1.2.1.length:Int)-t).toNat) ⟨Af _,by omega⟩ (λt hJ=>?_);obtain⟨j0,j1⟩:=hJ;unfold PP;dsimp only[len];refine AC (λM=>?_) (λ_=>Ap.done rfl);rw[AY (x:=t+1) (by omega),AY (x:=x.2) (by omega),AY (x:=B+1) (by omega),F,K,KJ];have l:Ap (some (Step.next (t+1)):Option (Step Int (Bool ⊕ Unit))) (LW (λ(t:Int)=>0<=t/\t<=e.2.2.2.1.2.1.length) (λt=>((e.2.2.2.1.2.1.length:Int)-t).toNat) ((e.2.2.2.1.2.1.length:Int)-t).toNat λr=>r= .inr ()):=Ap.next ⟨by omega,by omega⟩ (by omega)
 refine AA (AI j0 M) λi u=>?_;have w:(i.2.1=1\/i.2.1=2)->i.2.2.2.2.2.2.1.1=s->i.1>Ba (e.2.2.2.1.2.1.take k) s->i.1<=k->False:=λa b c d=>by
  have hn:=(o _ _ u.1).1;have D:Zx s i=true:=by unfold Zx;rw[b];rcases a with a|a<;>rw[a]<;>simp
  have:=qD o u.1 D (k:=k) (by omega);omega
 refine AP (λa=>AP (λb=>AC (λc=>AC (λd=>(w (.inl a) b c d).elim) (λ_=>l)) (λ_=>l)) (λ_=>l)) (λ_=>?_);exact AP (λa=>AP (λb=>AC (λc=>AC (λd=>(w (.inr a) b c d).elim) (λ_=>l)) (λ_=>l)) (λ_=>l)) (λ_=>l)
end Go.Pm
