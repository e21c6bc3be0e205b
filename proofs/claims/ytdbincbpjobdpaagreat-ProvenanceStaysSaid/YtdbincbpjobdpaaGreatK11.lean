/- Texts of wip, joined and shortened by wip/tools/pack.py; nothing is assumed. -/
import Derived.Test.YtdbincbpjobdpaaGreatK10
import Derived.KernelRfl
noncomputable section
set_option linter.all false
set_option maxHeartbeats 400000
open Option renaming some->Z
open List renaming length->U
open Go renaming Ψ->S
open Bool renaming false->Y
open Bool renaming true->V
open Option renaming none->W
open Go renaming Ω->T
open Option renaming some->δ,none->ε,bind->σ
open Bool renaming true->ζ,false->η
open List renaming length->θ
open Go.IntKind renaming wrap->ι
open BitVec renaming ofInt->κ,toNat->π
open Sum renaming elim->ν
namespace Go.Pm
open Go Go.Ab
variable {A B:pR}
def KL(B:pR)(k m:AQ):Prop:=m.1=k.1/\LX k.2.2.1 m.2.2.1/\SK B m/\De m.2.2.1
theorem KL.refl{k}(h:SK B k)(a:De k.2.2.1):KL B k k:=⟨rfl,LX.refl _,h,a⟩
def KL.trans{a b c}(h:KL A a b)(g:KL B b c):KL B a c:=⟨g.1.trans h.1,h.2.1.trans g.2.1,g.2.2⟩
theorem KS.kl{a b}(h:KS B a b):KL B a b:=⟨h.1,h.2.1,h.2.2.2.2.2,h.2.2.1⟩
theorem tD.kl{a b}{z}{v}(h:tD a z b)(c:SK B a)(d:z.2.1≠1/\z.2.1≠2/\z.2.1≠6/\z.2.1≠7)(hr:RM v b):KL (B.1,v) a b:=⟨h.1,h.2.1,h.sk c d hr,h.2.2.1⟩
theorem KL.up{a b}{v:Nat×Nat}(h:KL B a b)(c:B.2.1<=v.1)(d:B.2.2<=v.2):KL (B.1,v) a b:=⟨h.1,h.2.1,h.2.2.1.up c d,h.2.2.2⟩
theorem SK.txs{k}{l:S Ai}{n:Int}{v:Nat×Nat}(h:SK B k)(b:U l<=16777216)(a:B.2.1<=v.1)(c:TW l+B.2.2<=TW k.2.2.2.2.2.1+v.2):SK (B.1,v) (k.1,n,k.2.2.1,k.2.2.2.1,k.2.2.2.2.1,l,k.2.2.2.2.2.2):=⟨h.1,b,h.2.2.1,h.ki.1,h.ki.2.1,h.ki.fd,CK h.ki.rm.1 a,by have:=h.ki.rm.2;unfold PH at*;dsimp only;omega⟩
theorem SK.locks{k}{l}(h:SK B k)(a:GV l):SK B (k.1,k.2.1,k.2.2.1,k.2.2.2.1,l,k.2.2.2.2.2):=⟨a,h.2⟩
theorem Pg.idx{p}(h:Pg p){i j:Nat}{f g:BE}(a:p.2.1[i]?=Z f)(b:p.2.1[j]?=Z g)(e:g.1.1=f.1.1):j=i:=by have l1:=Cp a;have l2:=Cp b;rcases Qr i j with q|q|q;exact N! e.symm (h.2.2.2.2.2.2 i j f g q o! a b);exact q.symm;exact N! e (h.2.2.2.2.2.2 j i g f q o! b a)
theorem jT{x}:Ap (Ns x) λr=>(∀g∈r.2.1,∃f∈x.1.2.1,f.1.1=g.1.1/\f.1=g.1)/\(∀f∈x.1.2.1,f.2.1=V->∃g∈r.2.1,g.1.1=f.1.1/\g.2.1=V)/\DN r.2.1<=DN x.1.2.1:=by unfold Ns;refine AA Fq λv d=>AC (y? ⟨λg l=>⟨g,l,rfl,rfl⟩,λf b h=>⟨f,b,rfl,h⟩,Al _⟩) (λm=>?_);have j:=d.2.2.1 o!;have o:=j.1.2.1;have p:=j.1.2.2.1;refine AA (AJ o! d.2.1) λa c=>AA (Lv d! ⟨d!,d.2.1⟩) λr hr=>AB ?_;subst hr;refine⟨ACT c.1 rfl,λf b k=>?_,?_⟩;rotate_left 1;have q:(x.1.2.1.set v.toNat (a.1,a.2.1,a.2.2.1,V)).countP (λf:BE=>f.2.1)+(if a.2.1=V then 1 else 0)=x.1.2.1.countP (λf:BE=>f.2.1)+(if a.2.1=V then 1 else 0):=nV c.1;exact Nat.le_of_eq (Nat.add_right_cancel q);by_cases e:f.1.1=a.1.1;have⟨i,n⟩:=C2 b;grind[Option.some.inj,List.mem_of_getElem?,List.getElem?_set_self,Cp];exact⟨f,yY c.1 f b e,rfl,k⟩
theorem bW{x}:Ap (Kt x) λr=>r.2=0->Pg x.1/\∃(i:Nat)(f g:BE),x.1.2.1[i]?=Z f/\f.1.1=x.2.1/\r.1.2.1=x.1.2.1.set i g/\g.1=x.2/\g.2.1=V:=by unfold Kt;refine AA D4 λv c=>AO (y? n!) (λb=>?_);have h:=(c.1 b).2.1;have j:=(c.1 b).2.2.1;refine AA OF λ_ _=>AL (λb=>AB λa=>N! a b) (λ_=>AA (Gr d!) λi d=>AC (y? n!) (λb=>AA (AJ o! d.2.1) λk e=>AC (y? n!) (λ_=>AA (P:=λ_=>True) (AO (y? trivial) (y? trivial)) λl _=>?_)));grind[AA,Lv,AB,Option.some.inj]
theorem MI.cell{e}(h:MI e):0<=e.2.2.2.2.2.2.1.2.1/\e.2.2.2.2.2.2.1.2.1<16:=by have a:=h.2.2.2.2.2.2.2.2;grind[Va,Ow,QL]
theorem KI.same{k}(h:KI B k){f g:BE}(a:f∈k.2.2.2.1.2.1)(b:g∈k.2.2.2.1.2.1)(e:g.1.1=f.1.1):g.1=f.1:=by have hr:=h.fd f a;rw[(h.2.1 f.1.1 hr.1 hr.2.1).1 g b e];exact((h.2.1 f.1.1 hr.1 hr.2.1).1 f a rfl).symm
theorem Vs{x:AQ×AE}{u:Nat×Nat}(G:B.2.1+(if x.2.2.1=1 then 1 else 0)<=u.1/\B.2.2+(if x.2.2.1=1 then 4 else 0)<=u.2)(Q:x.2.2.2.1≠0)(h:SK B x.1)(Y_:De x.1.2.2.1)(d:0<=x.2.2.2.2.2.2.2.1.2.1/\x.2.2.2.2.2.2.2.1.2.1<16)(t:x.2.2.1=1\/x.2.2.1=2)(hp:Pg x.1.2.2.2.1)(al:ny x.1.2.2.2.1 x.2.2.2.2.2.2.2.1.1)(L:∀f∈x.1.2.2.2.1.2.1,f.1.1=x.2.2.2.2.2.2.2.1.1->G1 f.1.2.2 x.2.2.2.2.2.2.2.1.2.1=δ x.2.2.2.2.2.2.2.1.2.2.1):Ap (Kk x) λr=>KL (B.1,u) x.1 r.1/\(r.2=0->yp x.1.2.2.2.2.2.1 x.2.2.1 x.2.2.2.1 r.1.2.2.2.2.2.1):=by
 unfold Kk;have Z_:KL (B.1,u) x.1 x.1:=(KL.refl h Y_).up (CK (Nat.le_add_right _ _) G.1) (CK (Nat.le_add_right _ _) G.2);refine AA (GH h.sb) λv hv=>AL (λd=>AB ⟨Z_,λt=>N! t d⟩) (λS=>?_);have⟨_,c,l⟩:=hv S;refine AA I9 λI X=>AA (Dc d.1 d.2) λ_ _=>AA (Dc d.1 d.2) λ_ _=>AA bW λv4 h4=>AL (λd=>AB ⟨Z_,λt=>N! t d⟩) (λT=>AB ⟨⟨c.1,c.2.1,?_,c.2.2.1⟩,λ_=>c.2.2.2.2.2.1⟩);have K:=c.2.2.2.2.2.2.2.1;have⟨_,i,f,g,o,a,b,s,O⟩:=h4 T;have J:∀n,RM u (n,v.1.2.1,v.1.2.2.1,v4.1,v.1.2.2.2.2):=λn=>by
  obtain⟨y,p2⟩:=c.ph;have nw:=c.2.2.2.2.2.1.w;have r1:=h.ki.rm.1;have r2:=h.ki.rm.2;have m:=nV (n:=g) (q:=λf:BE=>f.2.1) o;have ad:DN v4.1.2.1<=DN x.1.2.2.2.1.2.1+1:=by unfold DN;rw[b];dsimp only at m⊢;split at m<;>(try split at m)<;>omega
  have A:DN v.1.2.2.2.1.2.1=DN x.1.2.2.2.1.2.1:=by rw[c.2.2.2.1]
  unfold RM;unfold PH at*;dsimp only at*;rcases t with q|q;have:=nw.2.1 q;simp[q]at G p2;exact o!;have:=nw.2.2.1 Q q;simp[q]at G p2;exact o!
 have⟨_,_,_,_,_,_,a7,_,e,e1,U,e3,F,e5,e6,e7⟩:=c;have E:I.2=ζ:=by cases q:I.2<;>grind
 have y:I.1.1=x.2.2.2.2.2.2.2.1.1:=(X.1 E).2.2.2.1;have A:e.2.2.2.2.2.2.1.1=x.2.2.2.2.2.2.2.1.1:=E! (·.2.1.1) F;have hr:=h.ki.fd f (BN o);dsimp only at o a b s l;refine⟨K.1,K.2.1,K.2.2,?_⟩;have C:e.2.1=1\/e.2.1=2:=by rw[e3];exact t
 have D:∀n:Int,n≠1->n≠2->e.2.1≠n:=λn n1 n2 q=>by rcases C with H|H<;>rw[q]at H;exact n1 H;exact n2 H
 unfold KI;dsimp only;rw[c.1,a7,e1,e6 (by rcases t with q|q<;>rw[q]<;>decide),b];have P:g.1.1=f.1.1:=by rw[s,a]
 have p:=BN o;have N:=(h.ki.2.1 f.1.1 hr.1 hr.2.1).1 f p rfl;have R:I.1=f.1:=by have⟨_,_,_,_,f',M,V_⟩:=X.1 E;rw[<-V_];exact h.ki.same p M (by rw[V_,a])
 have W_:e.2.2.2.2.2.2.1.2.1=x.2.2.2.2.2.2.2.1.2.1:=E! (·.2.1.2.1) F;have eb:e.2.2.2.2.2.2.1.2.2.1=x.2.2.2.2.2.2.2.1.2.2.1:=E! (·.2.1.2.2.1) F;have ea:e.2.2.2.2.2.2.1.2.2.2=x.2.2.2.2.2.2.2.1.2.2.2:=E! (·.2.1.2.2.2) F;refine⟨h.ki.1.app ⟨λq=>⟨e5 h.ki.2.1 q (by rw[A,<-y,<-a];exact hr.1) (by rw[A,<-y,<-a];exact hr.2.1),by rw[W_,eb,A,<-y,<-a,<-N];exact L f p (by rw[a,y])⟩,λq=>N! q (D 7 g! g!),λq=>N! q (D 6 g! g!)⟩,?_,h.ki.fd.set o P,J _⟩;refine h.ki.2.1.change h.ki.fd C o (by rw[a,y,A]) (by rw[s,R,l,<-U];unfold upd;rw[W_,ea]) O (λj k hj q=>hp.idx o hj q) ?_;rw[U];exact lj Y_ _
theorem B0{x}:Ap (BM x) λr=>r.1=5:=by grind[BM,AB]
theorem je{x}:Ap (BM x) λr=>r.1=5/\r.2.2.2.2=x:=by grind[BM,AB]
theorem AEg{l:List Ai}{id:Int}(h:l.length<=16777216)(m:ic l id):Ap (Ep (l,id)) λr=>0<=r/\r<l.length:=by
 unfold Ep;refine AA (P:=λr=> ∃u:Int,r= .inl u/\0<=u/\u<l.length) ?_ λr hr=>?_;refine AW (λ(s:Int)=>0<=s/\s<=l.length/\ ∀(j:Nat) (t:Ai),j<s->l[j]? =some t->t.1≠id) (λ(s:Int)=>((l.length:Int)-s).toNat) ⟨Ae _,o!,λj t b=>absurd b o!⟩ (λs k=>?_);obtain⟨g,p,i⟩:=k;unfold KG;have e:=AY (x:=s+1);apply AC<;>intro d;simp only[len]at d;refine AA (AJ g d) λq a=>AP (λ_=>AB ⟨s,rfl,g,d⟩) (λc=>AB ?_);dsimp only at c;rw[e];refine⟨⟨o!,o!,λj t b f=>?_⟩,o!⟩;by_cases n:(j:Int)=s;have:s.toNat=j:=o!
 rw[this]at a;rw[f]at a;have:=Ba a.1;rw[this];exact c;exact i j t o! f;obtain⟨j,t,b,f⟩:=m;have:=Cp b;simp only[len]at d;exact absurd f (i j t o! b);obtain⟨u,rfl,o⟩:=hr;exact BB (AB o)
theorem tG{l:S Ai}{id}(h:U l<=16777216)(a:ic l id):Ap (Cd (l,id)) λr=>0<=r/\r<U l:=by grind[Cd,AA,AEg,AB]
theorem bc{x:AQ×Int}(h:SK B x.1)(m:De x.1.2.2.1)(o:x.2≠0)(k:ic x.1.2.2.2.2.2.1 x.2):Ap (K0 x) λr=>KL B x.1 r.1/\(r.2.1=1\/r.2.1=5):=by unfold K0;refine AA (tG h.2.1 k) λz d=>AA (AJ d.1 d.2) λA _=>AA (P:=λs=>(∃u,s=.inl u/\KL B x.1 u.1)\/∃u,s=.inr u/\KL B x.1 u.1/\(u.2.1=1\/u.2.1=5)) ?_ λs n=>?_;refine AP (λ_=>?_) (λ_=>?_);refine AA (HS h.2.1) λC e=>AB (.inl ⟨_,rfl,rfl,LX.refl _,h.txs (v:=B.2) ?_ (Al _) ?_,m⟩);have:=pM x.1.2.2.2.2.2.1 x.2;have f:=h.2.1;dsimp only at*;rw[e];omega;have:=pS (l:=x.1.2.2.2.2.2.1) (id:=x.2);rw[e];unfold yV;dsimp only;omega;refine AA (GH h.sb) λt g=>AL (λy=>?_) (λp=>?_);grind[AA,B0,AB,KL.refl];have a:=(g p).2.1;have q:=a.2.2.2.2.2.1.w.2.2.2 o (by show(3:Int)≠1;decide) (by show(3:Int)≠2;decide) (by show(3:Int)≠4;decide);have c:KL B x.1 t.1:=a.kl (v:=B.2) h u! (a.rm h.ki.rm (by show _+(if(3:Int)=1 then 1 else 0)<=_;simp) (by dsimp only at q⊢;omega));refine AA (KH c.2.2.1 c.2.2.2) λ_ i=>AB (.inl ⟨_,rfl,c.trans i.1.kl⟩);rcases n with⟨u,rfl,b⟩|⟨u,rfl,b⟩;apply BB;refine AA (MN b.2.2.1.1) λ_ j=>AB ⟨⟨b.1,b.2.1,b.2.2.1.locks j,b.2.2.2⟩,.inl rfl⟩;exact Ax (AB b)
theorem Xa{x:AQ×Int×Cu}{a:Ai}{s:Int}(h:0<=s/\s<=θ a.2.2.2.2.1/\(θ a.2.2.2.2.1:Int)<=16777216):Ap (Aj (LQ x a) s) λr=>True:=by
 refine AW (λ(s:Int)=>0<=s/\s<=θ a.2.2.2.2.1/\(θ a.2.2.2.2.1:Int)<=16777216) (λ(s:Int)=>((θ a.2.2.2.2.1:Int)-s).toNat) h (λs c=>?_);unfold LQ;exact x!
theorem AIi{l:S Ai}{i:Nat}{t:Ai}(h:l[i]?=Z t):U t.2.2.2.2.1<TP l:=by
 induction l generalizing i with
 |nil=>simp at h
 |cons a r b=>
  unfold TP;rw[CQ,List.sum_cons];cases i with
  |zero=>simp at h;rw[h];omega
  |succ i=>have:=b (i:=i) (by simpa using h);unfold TP at this;omega
theorem AJz{l:S Ai}(h:∀(i:Nat)(t:Ai),l[i]?=Z t->U t.2.2.2.2.1<=4096):TP l<=U l*4097:=by
 induction l with
 |nil=>simp[TP]
 |cons a r c=>have d:=h 0 a q!;have e:=c (λi t b=>h (i+1) t (by simpa using b));unfold TP at*;grind[List.length_cons]
theorem cI.tp{l}(h:cI l):TP l<=262208:=by have:=AJz (l:=l) (λi t a=>(h.2 i t a).1);have:=h.1;omega
theorem Zv{x:AQ×Int×Cu}(h:U x.1.2.2.2.2.2.1<=16777216)(d:TP x.1.2.2.2.2.2.1<=262208)(c:ic x.1.2.2.2.2.2.1 x.2.1):Ap (KM x) λr=>True:=by unfold KM;refine AA (tG h c) λe a=>AA (AJ a.1 a.2) λf b=>?_;have:=AIi b.1;refine AA (Xa ⟨Ae _,o!⟩) λr _=>?_;grind[BG,AB]
theorem UJ{x:AQ×Int×Int}(h:SK B x.1)(t:De x.1.2.2.1)(G:cI x.1.2.2.2.2.2.1)(y:x.2.1≠0)(F:ic x.1.2.2.2.2.2.1 x.2.1):Ap (JC x) λr=>KL (B.up 0 1) x.1 r.1/\(r.2.1=x.2.2\/r.2.1=5):=by
 unfold JC;have I:KL (B.up 0 1) x.1 x.1:=(KL.refl h t).up (Al _) (Nat.le_add_right _ _);refine AA (bS h.1) λS c=>AA (tG h.2.1 F) λT p=>AA (AJ p.1 p.2) λU _=>AP (λ_=>?_) (λ_=>?_);refine AA (HS h.2.1) λV q=>AA (MN c) λW A=>AB ⟨⟨rfl,LX.refl _,(h.locks A).txs (v:=(B.2.1,B.2.2+1)) ?_ (Al _) ?_,t⟩,.inl rfl⟩;have:=pM x.1.2.2.2.2.2.1 x.2.1;have z:=h.2.1;dsimp only at*;rw[q];omega;have:=pS (l:=x.1.2.2.2.2.2.1) (id:=x.2.1);rw[q];unfold yV;dsimp only;omega;refine AA (GH (h.locks c).sb) λd C=>AL (λj=>?_) (λH=>?_);exact AA B0 λX D=>AB ⟨I,.inr D⟩;have f:=(C H).2.1;have n:RM (B.2.1,B.2.2+1) d.1:=f.rm h.ki.rm (by show _+(if(4:Int)=1 then 1 else 0)<=_;simp) (by have:=f.2.2.2.2.2.1.w.1 (by show(4:Int)≠1;decide);dsimp only at this⊢;omega);have u:=f.2.2.2.2.2.1;have R:=(u.2.2.1 y (by show(4:Int)≠1;decide)).2;have J:=G.tp;have b:KL (B.up 0 1) x.1 d.1:=⟨f.1,f.2.1,(f.kl (h.locks c) u! n).2.2⟩
 refine AA (P:=λr=>KL (B.up 0 1) x.1 r) ?_ λr hr=>AB ⟨hr,.inl rfl⟩;refine AW (λ(s:Int×AQ)=>0<=s.1/\s.1<=d.1.2.2.2.2.1.1.length/\KL (B.up 0 1) x.1 s.2/\s.2.2.2.2.2.2.1=d.1.2.2.2.2.2.1) (λs=>((d.1.2.2.2.2.1.1.length:Int)-s.1).toNat) (s:=((0:Int),d.1)) ⟨Ae _,d!,b,rfl⟩ (λs E=>?_);have⟨o,Q,a,g⟩:=E;unfold Sy;have O:=b.2.2.1.1.1;refine AC (λj=>?_) (λ_=>AB a);simp[len]at j;have e:=AY (x:=s.1+1);refine AA (AJ o j) λY _=>AP (λ_=>?_) (λ_=>AB ⟨⟨d!,d!,a,g⟩,d!⟩);refine AA (AJ o j) λZ _=>AA (Zv (by dsimp only;rw[g];exact b.2.2.1.2.1) (by dsimp only at*;rw[g];omega) (by dsimp only;rw[g];exact(u.2.2.2.1 y rfl))) λK _=>AA (P:=λk=>KL (B.up 0 1) x.1 k/\k.2.2.2.2.2.1=d.1.2.2.2.2.2.1) ?_ λN i=>AB ⟨⟨d!,d!,i.1,i.2⟩,d!⟩;refine AO (λ_=>?_) (λ_=>AB ⟨a,g⟩);refine AA (AJ o j) λL _=>AA (U6 a.2.2.1.1) λM m=>AB ⟨⟨a.1,a.2.1,a.2.2.1.locks m,a.2.2.2⟩,g⟩
end Go.Pm
namespace Go.Pm
open Go Go.Ab
variable {B:pR}
theorem bY{x}:Ap (Kw x) λr=>r=0->x.2.1=4\/x.2.1=5\/x.2.1=6\/x.2.1=7\/(0<=x.2.2.2.1/\x.2.2.2.1<16):=by unfold Kw;refine AA (P:=λv=>True) (AK (y? trivial) (λ_=>AA (P:=λ_=>True) (AK (y? trivial) (y? trivial)) λ_ _=>AB trivial)) λi _=>AA (P:=λs=>(∃u,s=.inl u/\u=1)\/∃u,s=.inr u/\(x.2.1=4\/x.2.1=5\/x.2.1=6\/x.2.1=7\/(0<=x.2.2.2.1/\x.2.2.2.1<16))) ?_ λs c=>?_;refine AK (λ_=>?_) (λ_=>?_);refine AC (y? (.inl ⟨_,rfl,rfl⟩)) (λ_=>AC (y? (.inl ⟨_,rfl,rfl⟩)) (λ_=>AC (y? (.inl ⟨_,rfl,rfl⟩)) (λe=>AC (y? (.inl ⟨_,rfl,rfl⟩)) (λf=>AA (P:=λ_=>True) (AK (y? trivial) (y? trivial)) λj _=>AB (.inr ⟨_,rfl,?_⟩)))));omega;refine AA (P:=λs=>(∃u,s=.inl u/\u=1)\/∃u,s=.inr u/\(x.2.1=4\/x.2.1=5\/x.2.1=6\/x.2.1=7)) ?_ λs c=>?_;refine AP (λh=>?_) (λ_=>?_);refine AC (y? (.inl ⟨_,rfl,rfl⟩)) (λ_=>AC (y? (.inl ⟨_,rfl,rfl⟩)) (y? (.inr ⟨_,rfl,o!⟩)));refine AA (P:=λb=>b=V->x.2.1=4\/x.2.1=5\/x.2.1=6) ?_ λk g=>?_;grind[AP,AB,AA];simp_all[AK,AB];grind[BB,AB,Ax];rcases c with⟨u,rfl,d⟩|⟨u,rfl,d⟩;grind[BB,AB];apply Ax;refine AO (y? n!) (λ_=>AC (y? n!) (y? λ_=>d))
theorem VC{x}:Ap (Jv x) λr=>True:=by unfold Jv;refine AP (y? trivial) (λ_=>AA (P:=λ_=>True) (AK (y? trivial) (y? trivial)) λv _=>AK (y? trivial) (y? trivial))
theorem Zw{x:AQ×Int×Cy}(h:SK B x.1):Ap (KO x) λr=>r=0->VK x.1/\ic x.1.2.2.2.2.2.1 x.2.1/\(x.2.2.1=4\/x.2.2.1=5\/x.2.2.1=6\/x.2.2.1=7\/(0<=x.2.2.2.2.1/\x.2.2.2.2.1<16)):=by
 unfold KO;refine AA (Bz h.sb) λv j=>AO (y? n!) (λb=>AA (Fs h.2.1) λk e=>AC (y? n!) (λg=>AA (AJ o! e.2.1) λl _=>AL (y? n!) (λ_=>AA bY λm f=>AL (λb=>AB λa=>N! a b) (λc=>AA (Iv h.1) λn _=>AA VC λo _=>?_))));have q:(0:Int)=0->VK x.1/\ic x.1.2.2.2.2.2.1 x.2.1/\(x.2.2.1=4\/x.2.2.1=5\/x.2.2.1=6\/x.2.2.1=7\/(0<=x.2.2.2.2.1/\x.2.2.2.2.1<16)):=λ_=>by have⟨t,i,d⟩:=e.2.2 o!;exact⟨j b,⟨_,t,i,d⟩,f c⟩
 refine AK (λ_=>?_) (y? q);refine AL (λ_=>?_) (y? q);refine AO (y? n!) (λ_=>AO (y? n!) (y? q))
theorem ba{x:AQ×Int×Cy}(z:x.2.1≠0)(h:SK B x.1)(m:De x.1.2.2.1)(p:Pg x.1.2.2.2.1)(a:0<=x.2.2.2.2.1/\x.2.2.2.2.1<16):Ap (Kz x) λr=>KL (B.up 1 4) x.1 r.1/\(r.2.1=1\/r.2.1=3\/r.2.1=5)/\(r.2.1=3->r.2.2.2.1=x.2.2.2.1/\¬ny x.1.2.2.2.1 x.2.2.2.1/\r.1=x.1):=by unfold Kz;have q:KL (B.up 1 4) x.1 x.1:=(KL.refl h m).up (Nat.le_add_right _ _) (Nat.le_add_right _ _);refine AA I9 λ_ n=>AO (λa=>AB ⟨q,.inr (.inl rfl),λ_=>⟨rfl,n.2 a p,rfl⟩⟩) (λj=>AP (λ_=>?_) (λ_=>?_));refine AA jT λ_ i=>AA (Dc a.1 a.2) λ_ _=>AA (Dc a.1 a.2) λ_ _=>AB ⟨⟨rfl,LX.refl _,⟨h.1,h.2.1,h.2.2.1,h.ki.1,h.ki.2.1.frames i.1 i.2.1,h.ki.fd.sub i.1,CK h.ki.rm.1 (Nat.le_add_right _ _),by have:=h.ki.rm.2;have C:=i.2.2;unfold pR.up;unfold PH at*;dsimp only at*;omega⟩,m⟩,(.inl rfl),λd=>N! d (by show(1:Int)≠3;decide)⟩;refine AA (Dc a.1 a.2) λ_ _=>EA (Dc a.1 a.2) λA s _=>AA (P:=λv:Dz=>v.1=x.2.2.2.1/\v.2.1=x.2.2.2.2.1/\v.2.2.1=A) (AK (y? ⟨rfl,rfl,rfl⟩) (y? ⟨rfl,rfl,rfl⟩)) λF b=>?_;have⟨_,_,l,k,f,w,c⟩:=n.1 j;refine AA (Vs (u:=(B.2.1+1,B.2.2+4)) ⟨q!,q!⟩ z h m (by dsimp only;rw[b.2.1];exact a) (.inl rfl) p (by dsimp only;rw[b.1];exact l) λg y e=>?_) λG t=>?_;dsimp only at e⊢;rw[b.2.1,b.2.2,h.ki.same w y (by rw[e,b.1,c,k]),c];exact s;exact AL (λ_=>AA B0 λH o=>AB ⟨q,.inr (.inr o),λd=>N! d (by dsimp only;rw[o];decide)⟩) (y? ⟨t.1,.inl rfl,λd=>N! d (by show(1:Int)≠3;decide)⟩)
theorem eM{x}:Ap (L3 x) λr=>True:=by unfold L3;refine AP (y? trivial) (λa=>?_);simp only[len]at a;exact AA (AJ (Ae _)) λ_ _=>AB trivial
theorem jW{x:AQ×Int}(h:SK B x.1):Ap (Nv x) λr=>True:=by unfold Nv;refine AA (Ls h.1) λa _=>?_;grind[AA,eM,AB]
theorem kU{x:AQ×Int×Cy}(h:SK B x.1)(i:De x.1.2.2.1):Ap (PP x) λr=>KL (B.up 1 4) x.1 r.1/\(r.2.1=3->r.2.2.2.1=x.2.2.2.1/\¬ny x.1.2.2.2.1 x.2.2.2.1/\r.1.2.2.2.1=x.1.2.2.2.1)/\(r.2.1=2\/r.2.1=3->r.1.2.2.2.2.2.1=x.1.2.2.2.2.2.1/\SK B r.1):=by
 unfold PP;have q:KL (B.up 1 4) x.1 x.1:=(KL.refl h i).up (Nat.le_add_right _ _) (Nat.le_add_right _ _);refine AA (Zw h) λ_ K=>AL (λ_=>?_) (λd=>?_);exact AA B0 λ_ W=>AB ⟨q,λd=>by dsimp only at d;omega,λ_=>⟨rfl,h⟩⟩;obtain⟨u,s,I⟩:=K d;have w:x.2.1≠0:=by obtain⟨j,t,N,X⟩:=s;have:=(u.2.2.2.2.2.1.2 j t N).2.2;omega
 refine AP (λ_=>?_) (λ_=>?_);exact AA (bc h i w s) λv2 y=>AB ⟨y.1.up (Nat.le_add_right _ _) (Nat.le_add_right _ _),λd=>by have:=y.2;omega,λd=>by have:=y.2;omega⟩;refine AP (λ_=>?_) (λ_=>?_);refine AA (UJ h i u.2.2.2.2.2.1 w s) λv3 G=>AB ?_;have z:=G.2;dsimp only at z;exact⟨KL.up (B:=B.up 0 1) G.1 (Nat.le_add_right _ _) (fN g! _),λd=>o!,λd=>o!⟩;refine AA (P:=λb=>b=V↔x.2.2.1=6\/x.2.2.1=7) ?_ λv4 L=>?_;refine AP (λp=>AB (by simp[p])) (λp=>AB (by simp[p]));refine AK (λ_=>?_) (λk=>?_);refine AA AIh λv5 C=>AA (P:=λv=>v.2=0->U v.1<=64/\TW v.1=TW x.1.2.2.2.2.2.1) ?_ λv7 H=>?_;exact AK (λ_=>AA AIO λv6 p=>AB p) (λ_=>AB C);refine AL (λ_=>?_) (λd=>AB ⟨⟨rfl,LX.refl _,h.txs (v:=(B.2.1+1,B.2.2+4)) ?_ (Nat.le_add_right _ _) ?_,i⟩,λd=>N! d (by show(1:Int)≠3;decide),λd=>N! d (by show¬((1:Int)=2\/(1:Int)=3);decide)⟩);exact AA B0 λ_ M=>AB ⟨q,λd=>by dsimp only at d;omega,λ_=>⟨rfl,h⟩⟩;have:=(H d).1;omega;have:=(H d).2;dsimp only;omega;have g:0<=x.2.2.2.2.1/\x.2.2.2.2.1<16:=by
  have:¬(x.2.2.1=6\/x.2.2.1=7):=λh=>by rw[L.2 h]at k;cases k
  omega
 refine AA VC λv9 _=>AA (Zj h.1) λE l=>AL (λ_=>?_) (λ_=>?_);exact AA B0 λ_ M=>AB ⟨q,λd=>by dsimp only at d;omega,λ_=>⟨rfl,h⟩⟩;have e:=h.locks l;have J:∀(A:pR) m,KL A (x.1.1,x.1.2.1,x.1.2.2.1,x.1.2.2.2.1,E.1,x.1.2.2.2.2.2) m->KL A x.1 m:=λA m D=>⟨D.1,D.2.1,D.2.2⟩
 refine AK (λ_=>?_) (λ_=>?_);refine AA (ba w e i u.2.2.2.1 g) λO f=>AP (λC=>AB ⟨q,λd=>by dsimp only at d;omega,λ_=>⟨rfl,h⟩⟩) (λ_=>AB ⟨J _ _ f.1,λd=>?_,λd=>?_⟩);obtain⟨a,b,c⟩:=f.2.2 d;exact⟨a,b,by rw[c]⟩;have F:=f.2.1;obtain⟨a,b,c⟩:=f.2.2 o!;rw[c];exact⟨rfl,e⟩;refine AA (eD l) λQ _=>AC (λ_=>?_) (λ_=>?_);refine AA (UJ e i u.2.2.2.2.2.1 w s) λR n=>?_;have o:=n.2;dsimp only at o;exact AP (λC=>AB ⟨q,λd=>by dsimp only at d;omega,λ_=>⟨rfl,h⟩⟩) (λ_=>AB ⟨J _ _ (KL.up (B:=B.up 0 1) n.1 (Nat.le_add_right _ _) (fN g! _)),λd=>o!,λd=>o!⟩);exact AA (jW e) λ_ _=>AB ⟨⟨rfl,LX.refl _,e.up (Nat.le_add_right _ _) (Nat.le_add_right _ _),i⟩,λd=>N! d (by show(2:Int)≠3;decide),λ_=>⟨rfl,e⟩⟩
end Go.Pm
namespace Go.Pm
open Go Go.Ab
variable {B:pR}
def RTx(l:S Ai)(id:Int)(t:Ai):Prop:=∃v,Cd (l,id)=Z v/\0<=v/\l[v.toNat]?=Z t/\t.1=id
theorem RTx.uniq{l}{id}{t u}(h:RTx l id t)(g:RTx l id u):u=t:=by have⟨v,e,f,i,j⟩:=h;have⟨w,a,b,c,d⟩:=g;grind[Option.some.inj]
def NX(k:AQ)(id:Int)(e:AE):Prop:=∃t lsn,RTx k.2.2.2.2.2.1 id t/\t.2.2.2.2.1[U t.2.2.2.2.1-1]?=Z lsn/\k.2.2.1.2.1[(lsn-k.2.2.1.1).toNat]?=Z e
theorem NX.uniq{k m}{id}{e f}(h:NX k id e)(g:NX m id f)(o:m.2.2.2.2.2.1=k.2.2.2.2.2.1)(c:LX k.2.2.1 m.2.2.1):f=e:=by have⟨t,n,i,j,l⟩:=h;have⟨u,w,a,b,d⟩:=g;rw[o]at a;have:=i.uniq a;subst this;rw[j]at b;cases b;have:=c.get l;rw[c.1]at d;grind[Option.some.inj]
theorem Iy{x:AQ×Int}(h:SK B x.1):Ap (FZ x) λr=>r.2=0->VK x.1/\RTx x.1.2.2.2.2.2.1 x.2 r.1/\U r.1.2.2.2.2.1<=4096/\r.1.1≠0:=by
 unfold FZ;refine AA (Bz h.sb) λv i=>AO (y? n!) (λf=>?_);have c:=i f;refine EA (Fs h.2.1) λj e d=>AC (y? n!) (λg=>AA (AJ o! d.2.1) λk _=>AP (y? n!) (λ_=>AA (AJ o! d.2.1) λl b=>AB λ_=>⟨c,⟨j,e,o!,b.1,?_⟩,(c.2.2.2.2.2.1.2 _ _ b.1).1,?_⟩))
 grind[Option.some.inj];have:=(c.2.2.2.2.2.1.2 _ _ b.1).2.2;dsimp only;omega
theorem gr{x:AQ×Int}(h:SK B x.1):Ap (H5 x) λr=>r.2=V->VK x.1/\NX x.1 x.2 r.1/\MI r.1:=by
 unfold H5;refine AA (Iy h) λc f=>AL (y? λa=>by cases a) (λa=>?_);have⟨k,hr,o,_⟩:=f a;refine AP (y? λa=>by cases a) (λj=>?_);simp only[len]at j;rw[(AY (x:=len c.1.2.2.2.2.1-1) b!)];refine AA (AJ b! b!) λp _=>AC (y? λa=>by cases a) (λ_=>AA (AJ b! b!) λl g=>AA HH λq i=>AB λa=>?_);have⟨d,m,e,n⟩:=i.1 (by simpa using a);refine⟨k,⟨c.1,l,hr,?_,e⟩,d⟩;have b:=g.1;have:(len c.1.2.2.2.2.1-1).toNat=U c.1.2.2.2.2.1-1:=i!
 rw[this]at b;exact b
theorem kV{x:AQ×Ai×Cu×Int}(h:x.2.1.2.2.2.2.1.length<=16777216)(c:0<=x.2.2.2/\x.2.2.2<=x.2.1.2.2.2.2.1.length):Ap (PQ x) λr=>r.2=true->MI r.1/\r.1.2.2.2.2.2.2.1.1=x.2.2.1.1:=by unfold PQ;rw[(AY (x:=x.2.2.2-1))];refine AA (P:=λr=> ∀u,r= .inl u->u.1=true->MI u.2/\u.2.2.2.2.2.2.2.1.1=x.2.2.1.1) ?_ λr hr=>BG (λu a=>AB (hr u a)) (λ_ _=>AB λb=>by cases b);refine AW (λ(s:Int×AE)=> -1<=s.1/\s.1<x.2.1.2.2.2.2.1.length) (λ(s:Int×AE)=>(s.1+1).toNat) d! (λs d=>?_);unfold Vt;rw[(AY (x:=s.1-1))];refine AC (λe=>?_) (λ_=>AB λu a=>by cases a);grind[AA,AJ,HH,AP,AB]
theorem Sz{x:AQ×Int×Cu}(h:SK B x.1):Ap (K1 x) λr=>r.2=V->VK x.1/\MI r.1/\r.1.2.2.2.2.2.2.1.1=x.2.2.1:=by refine AA (Iy h) λf b=>AL (y? λa=>by cases a) (λa=>AL (y? λa=>by cases a) (λ_=>?_));have⟨d,_,e,_⟩:=b a;exact AA (kV d! ⟨by simp[len],by simp[len]⟩) λg c=>AB λa=>⟨d,c a⟩
theorem Zi{x}:Ap (KE x) λr=>r=(x.1,x.2.1,x.2.2.2,x.2.2.1):=by grind[KE,AB]
theorem VE{x:AQ×Ai×AE}(h:SK B x.1)(v:De x.1.2.2.1)(w:Pg x.1.2.2.2.1)(C:MI x.2.2)(o:x.2.1.1≠0):Ap (Gc x) λr=>KL B x.1 r.1/\(r.2.1=3->r.2.2.2.1=x.2.2.2.2.2.2.2.2.1.1/\¬ny x.1.2.2.2.1 x.2.2.2.2.2.2.2.2.1.1/\r.1=x.1)/\(r.2.1≠3->r.2.1≠5->r.2.2.1≠0/\TP r.1.2.2.2.2.2.1<TP x.1.2.2.2.2.2.1)/\(r.2.1=5->r.2.2.2.2.2≠0):=by unfold Gc;have G:=KL.refl h v;refine AA I9 λH i=>AO (λl=>AB ⟨G,λ_=>⟨rfl,i.2 l w,rfl⟩,λa=>N! rfl a,λa=>N! a (by show(3:Int)≠5;decide)⟩) (λc=>AA Zi λI y=>?_);subst y;refine AA UD λJ j=>AL (λl=>?_) (λp=>?_);grind[AA,je,AB];refine AA (Vs (u:=B.2) ⟨q!,q!⟩ o h v C.cell (.inr rfl) w (i.1 c).2.2.1 λg E e=>by have⟨_,_,_,m,f,D,d⟩:=i.1 c;rw[h.ki.same D E (by rw[e,d,m]),d];exact(j.1 p).2) λq s=>AL (λl=>?_) (λa=>?_);grind[AA,je,AB];have F:=(s.2 a).2.2.1 o (by show(2:Int)≠1;decide);have n:=F.1 (by show(2:Int)≠4;decide);have b:KL B x.1 q.1:=s.1;refine AA (P:=λk=>KL B x.1 k/\k.2.2.2.2.2.1=q.1.2.2.2.2.2.1) ?_ λN t=>AB ⟨t.1,λa=>N! a (by show(1:Int)≠3;decide),λ_ _=>⟨o,by rw[t.2];exact n⟩,λa=>N! a (by show(1:Int)≠5;decide)⟩;refine AK (λ_=>?_) (y? ⟨b,rfl⟩);refine AA (Sz b.2.2.1) λK _=>AA (P:=λk=>KL B x.1 k/\k.2.2.2.2.2.1=q.1.2.2.2.2.2.1) ?_ λM A=>AB A;refine AO (λ_=>?_) (y? ⟨b,rfl⟩);exact AA (U6 b.2.2.1.1) λL z=>AB ⟨⟨b.1,b.2.1,b.2.2.1.locks z,b.2.2.2⟩,rfl⟩
theorem VD{x:AQ×Int}(h:SK B x.1)(o:De x.1.2.2.1):Ap (Jw x) λr=>KL B x.1 r.1/\(r.2.1=3->∃e,NX x.1 x.2 e/\r.2.2.2.1=e.2.2.2.2.2.2.1.1/\¬ny x.1.2.2.2.1 e.2.2.2.2.2.2.1.1)/\(r.2.1≠3->r.2.1≠5->TP r.1.2.2.2.2.2.1<TP x.1.2.2.2.2.2.1)/\(r.2.1=5->r.2.2.2.2.2≠0):=by
 unfold Jw;have H:=KL.refl h o;refine AA (Iy h) λE s=>AL (λk=>?_) (λd=>?_);grind[AA,je,AB];have⟨A,hr,p,m⟩:=s d;have g:Ap (σ (H5 x) λn=>
  bif (!n.2)then
   σ (BM 14) λG=>
   Z (x.1,G)
  else
  σ (Gc (x.1,E.1,n.1)) λq=>
  Z q) λr=>KL B x.1 r.1/\(r.2.1=3->∃e,NX x.1 x.2 e/\r.2.2.2.1=e.2.2.2.2.2.2.1.1/\¬ny x.1.2.2.2.1 e.2.2.2.2.2.2.1.1)/\(r.2.1≠3->r.2.1≠5->TP r.1.2.2.2.2.2.1<TP x.1.2.2.2.2.2.1)/\(r.2.1=5->r.2.2.2.2.2≠0):=by
  refine AA (gr h) λn y=>AO (λ_=>?_) (λk=>?_);grind[AA,je,AB];have⟨_,hn,z⟩:=y k;refine AA (VE h o A.2.2.2.1 z m) λq i=>AB ⟨i.1,λd=>?_,λa b=>(i.2.2.1 a b).2,i.2.2.2⟩;have⟨a,b,_⟩:=i.2.1 d;exact⟨_,hn,a,b⟩
 refine AP (λ_=>?_) (λ_=>g);refine AP (λ_=>?_) (λ_=>g);refine AA (GH h.sb) λF t=>AL (λk=>?_) (λd=>?_);grind[AA,je,AB];have j:=(t d).2.1;have C:=(j.2.2.2.2.2.1.2.2.1 (by have⟨v,_,_,_,f⟩:=hr;rw[<-f];exact m) (by show(5:Int)≠1;decide)).1 (by show(5:Int)≠4;decide);have l:x.2≠0:=by have⟨v,_,_,_,f⟩:=hr;rw[<-f];exact m
 have D:=j.2.2.2.2.2.1.w.2.2.2 l (by show(5:Int)≠1;decide) (by show(5:Int)≠2;decide) (by show(5:Int)≠4;decide);have c:KL B x.1 F.1:=j.kl (v:=B.2) h u! (j.rm h.ki.rm (by show _+(if(5:Int)=1 then 1 else 0)<=_;simp) (by dsimp only at D⊢;omega));exact AA (MN c.2.2.1.1) λI u=>AB ⟨⟨c.1,c.2.1,c.2.2.1.locks u,c.2.2.2⟩,λd=>N! d (by show(1:Int)≠3;decide),λ_ _=>C,λd=>N! d (by show(1:Int)≠5;decide)⟩
theorem gq{x:AQ×Int×Cu}(h:SK B x.1)(f:De x.1.2.2.1):Ap (Mv x) λr=>KL B x.1 r.1/\(r.2.1=3->r.2.2.2.1=x.2.2.1/\¬ny x.1.2.2.2.1 x.2.2.1/\r.1=x.1)/\(r.2.1≠3->r.2.1≠5->r.2.2.1≠0->TP r.1.2.2.2.2.2.1<TP x.1.2.2.2.2.2.1):=by unfold Mv;have o:=KL.refl h f;refine AA (Iy h) λp i=>AL (λ_=>?_) (λc=>?_);grind[AA,B0,AB];have⟨m,hr,g,n⟩:=i c;refine AL (λ_=>?_) (λ_=>?_);grind[AA,B0,AB];refine AA (Sz h) λq j=>AO (y? ⟨o,λc=>N! c (by show(1:Int)≠3;decide),λ_ _ c=>N! rfl c⟩) (λk=>?_);have⟨_,l,e⟩:=j k;refine AA (VE h f m.2.2.2.1 l n) λs d=>AB ⟨d.1,λc=>?_,λa b _=>(d.2.2.1 a b).2⟩;have:=d.2.1 c;dsimp only at this;rw[e]at this;exact this
theorem Ry{x:AU×Int}(h:SK B x.1.1):Ap (EX x) λr=>True:=by unfold EX;refine AA (Fs h.2.1) λc a=>AC (λb=>?_) (y? trivial);grind[AA,AJ,AB]
end Go.Pm
namespace Go.Pm
open Go Go.Ab
variable {A B:pR}
def SR(B:pR)(x s:AU):Prop:=KL B x.1 s.1/\DJ B s.1.2.2.1 s.2
theorem SR.up{a b}{v:Nat×Nat}(h:SR B a b)(c:B.2.1<=v.1)(d:B.2.2<=v.2):SR (B.1,v) a b:=⟨h.1.up c d,h.2⟩
def SR.trans{a b c}(h:SR A a b)(g:SR B b c):SR B a c:=⟨h.1.trans g.1,g.2⟩
theorem SvR.sr{a b}(h:SvR B a b):SR B a b:=⟨h.1.kl,h.2⟩
open Classical in
noncomputable def flag(p:Prop):Nat:=if p then 1 else 0
theorem AB6(p:Prop):flag p<=1:=by unfold flag;split<;>omega
theorem xq{p:Prop}(h:p):flag p=1:=by unfold flag;rw[C! h]
theorem xo{p:Prop}(h:¬p):flag p=0:=by grind[flag]
theorem ZE{x:AU×Int}(h:SK B x.1.1)(C:De x.1.1.2.2.1)(A:DJ B x.1.1.2.2.1 x.1.2):Ap (Ew x) λr=>r.2=0->SR B x.1 r.1:=by unfold Ew;refine AA (Bz h.sb) λv E=>AO (y? n!) (λm=>AA (Fs h.2.1) λH _=>AC (y? n!) (λ_=>AA (P:=λr=>(∀u,r=.inl u->u.1≠0)/\∀u,r=.inr u->SR B x.1 u.1) ?_ λr hr=>BG (λu a=>AB λb=>N! b (hr.1 u a)) (λu a=>AB λ_=>hr.2 u a)));refine AW (SR B x.1 ·.1) (λs=>2*TP s.1.1.2.2.2.2.2.1+flag (∃e,NX s.1.1 x.2 e/\¬ny s.1.1.2.2.2.1 e.2.2.2.2.2.2.1.1)) ⟨KL.refl h C,A⟩ (λs c=>?_);unfold QV;have d:=c.1.2.2;refine AA (Ry d.1) λI _=>AK (λ_=>?_) (y? ⟨λu a=>(by cases a),λu a=>(by cases a;exact c)⟩);refine AA (VD d.1 d.2) λJ z=>?_;have⟨k1,D,F,G⟩:=z;apply AP<;>intro i;grind[AB];refine AA (P:=λr=>(∃u,r=.inl u/\u.1≠0)\/∃u,r=.inr u/\SR B s.1 u.1/\2*TP u.1.1.2.2.2.2.2.1+flag (∃e,NX u.1.1 x.2 e/\¬ny u.1.1.2.2.2.1 e.2.2.2.2.2.2.1.1)<2*TP s.1.1.2.2.2.2.2.1+flag (∃e,NX s.1.1 x.2 e/\¬ny s.1.1.2.2.2.1 e.2.2.2.2.2.2.1.1)) ?_ λr hr=>?_;apply AP<;>intro o;have⟨e,k,p,q⟩:=D o;refine AA (H6 d.1 c.2) λK i=>AL (λm=>AB (.inl ⟨_,rfl,m⟩)) (λb=>AB (.inr ⟨_,rfl,(i b).1.sr,?_⟩));have⟨l,g⟩:=i b;have n:=l.1.2.2.2.2.1;rw[xq (⟨e,k,q⟩:∃e,NX s.1.1 x.2 e/\¬ny s.1.1.2.2.2.1 e.2.2.2.2.2.2.1.1),xo,n];dsimp only;omega;rintro⟨f,t,y⟩;have:=k.uniq t n l.1.2.1;subst this;dsimp only at g;rw[p]at g;exact y g;refine AB (.inr ⟨_,rfl,⟨k1,c.2.up k1.2.1⟩,?_⟩);grind[AB6,ny];rcases hr with⟨u,rfl,a⟩|⟨u,rfl,a⟩;refine BB (AB ⟨λw j=>?_,λw j=>(by cases j)⟩);cases j;exact a;exact Ax (AB ⟨c.trans a.1,a.2⟩)
theorem kX{x:AU×Int×Cy}(h:SK B x.1.1)(M:De x.1.1.2.2.1)(L:DJ B x.1.1.2.2.1 x.1.2):Ap (PU x) λr=>SR (B.up 1 4) x.1 r.1/\(r.2.1=2->r.1.1.2.2.2.2.2.1=x.1.1.2.2.2.2.2.1/\SK B r.1.1):=by
 unfold PU;refine AA (P:=λr=>SR (B.up 1 4) x.1 r.1/\(r.2.1=2->r.1.1.2.2.2.2.2.1=x.1.1.2.2.2.2.2.1/\SK B r.1.1)) ?_ λr hr=>AB hr;refine AW (λs=>SR B x.1 s.1/\s.1.1.2.2.2.2.2.1=x.1.1.2.2.2.2.2.1) (λs=>flag (¬ny s.1.1.2.2.2.1 x.2.2.2.1)) ⟨⟨KL.refl h M,L⟩,rfl⟩ (λs l=>?_);obtain⟨l,p⟩:=l;have A:=l.1.2.2;unfold Vx;refine AA (kU A.1 A.2) λe G=>?_;obtain⟨k1,N,q⟩:=G;have j:SR (B.up 1 4) x.1 (e.1,s.1.2):=⟨l.1.trans k1,l.2.up k1.2.1⟩
 have g:=k1.2.2;apply AP<;>intro v;obtain⟨a,b,c⟩:=N v;obtain⟨d,o⟩:=q (.inr v);have C:SR B x.1 (e.1,s.1.2):=⟨⟨j.1.1,j.1.2.1,o,g.2⟩,j.2⟩
 refine AA (H6 o C.2) λ_ H=>AL (λ_=>?_) (λi=>AB ?_);refine AA B0 λ_ T=>AB ⟨j,λ_=>⟨?_,o⟩⟩;dsimp only at*;rw[d,p];obtain⟨w,y⟩:=H i;refine⟨⟨C.trans w.sr,?_⟩,?_⟩;have:=w.1.2.2.2.2.1;dsimp only at*;rw[this,d,p];dsimp only at*;rw[xq b,xo];omega;intro hn;rw[a]at y;exact hn y;have k:∀(Q:Step (AU×(AU×Bc)) (AU×Bc)->Prop),(∀r:AU×Bc,SR (B.up 1 4) x.1 r.1/\(r.2.1=2->r.1.1.2.2.2.2.2.1=x.1.1.2.2.2.2.2.1/\SK B r.1.1)->Q (.done r))->∀c:Int,c≠2->e.2.1=c->Ap (σ (EX ((e.1,s.1.2),x.2.1)) λD=>
  σ ((
    bif D then
     σ (Ew ((e.1,s.1.2),x.2.1)) λn=>
     bif (n.2 !=0)then
      σ (BM n.2) λE=>
      Z (.inl ((e.1,s.1.2),E))
     else
     Z (.inr (n.1,s.2))
    else
    Z (.inr ((e.1,s.1.2),s.2))):(Ω ((AU×Bc)⊕(AU×(AU×Bc))))) λS=>
  ν (λO=>Z (Step.done O))
  (λR=>Z (.done (R.1,e.2))) S) Q:=by
  intro Q z c U K;refine AA (Ry g.1) λD _=>AA (P:=λr=>(∃u,r=.inl u/\SR (B.up 1 4) x.1 u.1/\u.2.1=5)\/∃u,r=.inr u/\SR (B.up 1 4) x.1 u.1) ?_ λr hr=>?_;refine AK (λ_=>?_) (λ_=>AB (.inr ⟨_,rfl,j⟩));refine AA (ZE g.1 g.2 j.2) λn I=>AL (λ_=>?_) (λi=>AB (.inr ⟨_,rfl,j.trans (I i)⟩));exact AA B0 λE J=>AB (.inl ⟨_,rfl,j,J⟩);rcases hr with⟨u,rfl,m⟩|⟨u,rfl,m⟩;exact BB (AB (z _ ⟨m.1,λi=>by have:=m.2;omega⟩));exact Ax (AB (z _ ⟨m,λi=>by dsimp only at i;omega⟩))
 have f:SR (B.up 1 4) x.1 (e.1,s.1.2)/\(e.2.1=2->e.1.2.2.2.2.2.1=x.1.1.2.2.2.2.2.1/\SK B e.1):=⟨j,λi=>⟨by rw[(q (.inl i)).1,p],(q (.inl i)).2⟩⟩
 refine AP (λF=>k _ (λr hr=>hr) 4 g! F) (λ_=>AP (λt=>?_) (λ_=>AB f));refine AP (λ_=>k _ (λr hr=>hr) 1 g! t) (λ_=>AP (λ_=>k _ (λr hr=>hr) 1 g! t) (λ_=>AB f))
theorem eK{x}(h:SK B x)(d:De x.2.2.1):Ap (Lx x) λr=>r.2.2=0->KL (B.up 0 1) x r.1:=by unfold Lx;refine AA (Bz h.sb) λv e=>AO (y? n!) (λc=>AC (y? n!) (λ_=>AA (UI.and AF5) λf b=>AL (λc=>AB λa=>N! a c) (λa=>AB λ_=>⟨rfl,LX.refl _,h.txs (v:=(B.2.1,B.2.2+1)) ?_ (Al _) ?_,d⟩)));have:=(b.1 a).2;omega;have:=b.2 a;dsimp only at this⊢;omega
theorem eS{x:AU}(h:SK B x.1)(e:De x.1.2.2.1)(d:DJ B x.1.2.2.1 x.2):Ap (L6 x) λr=>r.2.2=0->SR (B.up 0 1) x r.1:=by unfold L6;refine AA (eK h e) λf b=>AL (λc=>AB λa=>N! a c) (λa=>AB λ_=>⟨b a,d.up (b a).2.1⟩)
theorem eL{x:AQ×Int}(h:SK B x.1)(n:De x.1.2.2.1):Ap (Ly x) λr=>r.2.2=0->KL B x.1 r.1/\Pg x.1.2.2.2.1/\ny x.1.2.2.2.1 x.2/\(∃f∈x.1.2.2.2.1.2.1,f.1=r.2.1)/\r.2.1.1=x.2/\r.1.2.2.2.1=x.1.2.2.2.1/\r.2.1.2.1<=r.1.2.2.1.2.2:=by
 unfold Ly;refine AA (Bz h.sb) λv q=>AO (y? n!) (λp=>AA I9 λs o=>AO (y? n!) (λj=>?_));have⟨a,b,c,d,e⟩:=o.1 j;refine AA (KH h n) λt i=>AB λ_=>⟨i.1.kl,a,c,e,d,i.2.1,i.2.2 ?_⟩
 have⟨f,m,k⟩:=e;have g:=h.ki.fd f m;have:=E! (·.2.1) ((h.ki.2.1 f.1.1 g.1 g.2.1).1 f m rfl);have:=lj n f.1.1;rw[Kb,k]at*;dsimp only;omega
theorem eU{x:AU×Int}(h:SK B x.1.1)(q:De x.1.1.2.2.1)(o:DJ B x.1.1.2.2.1 x.1.2):Ap (L8 x) λr=>r.2=0->SR B x.1 r.1:=by unfold L8;refine AA (eL h q) λ_ z=>AL (λA=>AB λd=>N! d A) (λd=>?_);have⟨a,b,c,⟨f,p,e⟩,t,u,v⟩:=z d;refine AA Fq λF i=>AA (AJ (i.2.2.2 b c) i.2.1) λs m=>AO (y? λ_=>⟨KL.refl h q,o⟩) (λk=>?_);obtain⟨_,g,C,l⟩:=i.2.2.1 (i.2.2.2 b c);obtain⟨j,D⟩:=C2 p;have w:s=g:=Ba (m.1.symm.trans C);have y:s=f:=b.uniq m.1 D (by rw[w,l,e,t]);exact AA (UM a.2.2.1 a.2.2.2 (o.up a.2.1) ⟨f,by dsimp only;rw[u];exact p,e,by rw[<-y];exact k⟩ v) λG n=>AB λd=>⟨a.trans (n d).1.kl,(n d).2.1⟩
end Go.Pm
namespace Go.Pm
open Go Go.Ab
def VDs(l:S Ah)(p:Int):Prop:=∀(i:Nat)(d:Ah),l[i]?=Z d->((i:Int)<=d.1/\d.1<p/\1<=d.2.1/\d.2.1<=d.2.2/\d.2.2<=1099511627776)/\∀f,0<i->l[i-1]?=Z f->f.1<d.1
def VIs(x:Bt):Prop:=1<=U x/\U x<=64/\∀r∈x,(0<=r.1/\r.1<=1099511627776)/\(0<=r.2.1/\r.2.1<=1099511627776)/\0<=r.2.2/\r.2.2<=1099511627776
theorem VDs.len{l}{p}(h:VDs l p)(b:p<=64):U l<=64:=by refine Tp λa=>?_;have:=(h (U l-1) _ (As o!)).1;omega
theorem ALI{l:List Ah}{p:Int}(A:l.length<=16777216):Ap (Dx (l,p)) λr=>r=true->VDs l p:=by
 refine AA (P:=λr=>r= .inl false\/(r= .inr ()/\VDs l p)) ?_ λr hr=>?_
 ·refine Ce (λ(s:Int)=>0<=s/\s<=l.length/\ ∀(i:Nat) (d:Ah),(i:Int)<s->l[i]? =some d->((i:Int)<=d.1/\d.1<p/\1<=d.2.1/\d.2.1<=d.2.2/\d.2.2<=1099511627776)/\ ∀f,0<i->l[i-1]? =some f->f.1<d.1) (λs=>((l.length:Int)-s).toNat) ⟨Ae _,o!,λi d y=>o!⟩ (λs w=>?_);have⟨t,B,m⟩:=w;unfold Fh;dsimp[len];refine AC (λn=>?_) (λn=>Ap.done (.inr ⟨rfl,λi d a=>m i d (by have:=Cp a;omega) a⟩));obtain⟨k,rfl⟩:=Ef t;refine AA (AJ t n) λv g=>?_;have g:=g.1;rw[CA]at g;refine AC (λ_=>Ap.done (.inl rfl)) (λq1=>AC (λ_=>Ap.done (.inl rfl)) (λq2=>AC (λ_=>Ap.done (.inl rfl)) (λq3=>AC (λ_=>Ap.done (.inl rfl)) (λq4=>AC (λ_=>Ap.done (.inl rfl)) (λq5=>?_)))));rw[AY (x:=(k:Int)+1)];have b:((k:Int)<=v.1/\ ∀f,0<k->l[k-1]? =some f->f.1<v.1)-> ∀(i:Nat) (d:Ah),(i:Int)<(k:Int)+1->l[i]? =some d->((i:Int)<=d.1/\d.1<p/\1<=d.2.1/\d.2.1<=d.2.2/\d.2.2<=1099511627776)/\ ∀f,0<i->l[i-1]? =some f->f.1<d.1:=λq i d y a=>by by_cases h:i=k;subst h;rw[g]at a;cases a;exact⟨⟨q.1,o!⟩,q.2⟩;exact m i d o! a
  refine AC (λe=>?_) (λe=>Ap.next ⟨o!,o!,b ⟨o!,λf u=>absurd u o!⟩⟩ o!);rw[AY (x:=(k:Int)-1)];refine AA (AJ) λz c=>?_;have c:=c.1;rw[show((k:Int)-1).toNat=k-1 by omega]at c;refine AC (λ_=>Ap.done (.inl rfl)) (λq6=>?_);have j:=(m (k-1) z o! c).1.1;refine Ap.next ⟨o!,o!,b ⟨o!,λf _ o=>?_⟩⟩ o!
  rw[c]at o;cases o;omega
 grind[BB,AB,Ax]
theorem AE1{x}:Ap (G7 x) λr=>r=V->0<=x/\x<=1099511627776:=by refine AC (λh=>AB λa=>⟨o!,M! a⟩) (y? λa=>by cases a)
theorem AJi{x:Bt}:Ap (D8 x) λr=>r=true->VIs x:=by
 refine AC (λ_=>AB λa=>by cases a) (λd=>AC (λ_=>AB λa=>by cases a) (λe=>?_));simp[len]at d e;refine AA (P:=λr=>r= .inl false\/(r= .inr ()/\VIs x)) ?_ λr hr=>?_
 ·refine Ce (λ(s:Int)=>0<=s/\s<=x.length/\ ∀r∈x.take s.toNat,(0<=r.1/\r.1<=1099511627776)/\(0<=r.2.1/\r.2.1<=1099511627776)/\0<=r.2.2/\r.2.2<=1099511627776) (λs=>((x.length:Int)-s).toNat) ⟨Ae _,o!,λr hr=>by simp at hr⟩ (λs g=>?_);have⟨i,p,c⟩:=g;unfold Ji;dsimp[len];refine AC (λb=>?_) (λb=>Ap.done (.inr ⟨rfl,o!,o!,by rw[BO o!]at c;exact c⟩));refine AA (AJ i b) λv h=>AA AE1 λj m=>AO (λ_=>Ap.done (.inl rfl)) (λq=>AA AE1 λk n=>AO (λ_=>Ap.done (.inl rfl)) (λt=>AA AE1 λl o=>AO (λ_=>Ap.done (.inl rfl)) (λu=>?_)));rw[AY (x:=s+1)];have f: ∀r∈x.take (s+1).toNat,(0<=r.1/\r.1<=1099511627776)/\(0<=r.2.1/\r.2.1<=1099511627776)/\0<=r.2.2/\r.2.2<=1099511627776:=λr hr=>by rw[show(s+1).toNat=s.toNat+1 by omega,Cr,h.1]at hr;grind
  grind[AP,Ap.next,AL,Ap.done]
 grind[BB,AB,Ax]
def VCk(c:Cb):Prop:=1<=c.1/\c.1<=64/\1<=c.2.1/\c.2.1<=1073741825/\VDs c.2.2.2.1 c.1/\VIs c.2.2.2.2/\U c.2.2.2.2=c.1
theorem AKz{c:Cb}(d:U c.2.2.2.1<=16777216):Ap (HJ c) λr=>r=V->VCk c:=by refine AC (y? λa=>by cases a) (λf=>AC (y? λa=>by cases a) (λg=>AC (y? λa=>by cases a) (λh=>AC (y? λa=>by cases a) (λi=>AA C4 λo b=>AO (y? λa=>by cases a) (λe=>AA (ALI d) λp j=>AO (y? λa=>by cases a) (λl=>AA AJi λq k=>AO (y? λa=>by cases a) (λm=>AL (y? λa=>by cases a) (λn=>AA (Q5 ⟨Ae _,o!,by have:=(b e).1;omega⟩) λr hr=>?_))))))));grind[VCk,BG,AB]
def dB(d:Ah):BZ:=C9 d.1 1++(C9 d.2.1 8++C9 d.2.2 8)
def rB(r:Bk):BZ:=C9 r.1 8++(C9 r.2.1 8++C9 r.2.2 8)
def wN(l:S Ah):BZ:=(l.map dB).flatten
def sG(l:S Bk):BZ:=(l.map rB).flatten
theorem AIz(d:Ah):(dB d).length=17:=rfl
theorem AJY(r:Bk):(rB r).length=24:=rfl
theorem AEb(l:S Ah)(d:Ah):wN (l++[d])=wN l++dB d:=by grind[wN,List.flatten_append]
theorem AFb(l:S Bk)(d:Bk):sG (l++[d])=sG l++rB d:=by grind[sG,List.flatten_append]
theorem zJ(l:S Ah)(d:Ah):wN (d::l)=dB d++wN l:=rfl
theorem AAB(l:S Bk)(d:Bk):sG (d::l)=rB d++sG l:=rfl
theorem lf:∀l:S Ah,(wN l).length=17*U l
 |[]=>rfl
 |d::l=>by rw[zJ,Ac,AIz,lf l,BY];omega
theorem sq:∀l:S Bk,(sG l).length=24*U l
 |[]=>rfl
 |d::l=>by rw[AAB,Ac,AJY,sq l,BY];omega
theorem i8r{n:Int}(a:0<=n)(b:n<=1099511627776):cF 8 n:=⟨n!,o!⟩
theorem i1r{n:Int}(a:0<=n)(b:n<256):cF 1 n:=⟨λ_=>k!,o!⟩
theorem i2r{n:Int}(a:0<=n)(b:n<65536):cF 2 n:=⟨λ_=>k!,o!⟩
theorem i4r{n:Int}(a:0<=n)(b:n<4294967296):cF 4 n:=⟨λ_=>k!,o!⟩
theorem AGr{x}(h:VIs x):Ap (IY x) λr=>r.1=C9 (U x:Int) 2++sG x\/r.1=[]:=by
 have⟨c,d,e⟩:=h;refine AA AJi λi b=>AO (y? (.inr rfl)) (λ_=>?_);rw[IE q! g! g!,AD,CG];refine AA (P:=λr=>r=C9 (U x:Int) 2++sG x) (Ce (λs=>∃k:Nat,k<=U x/\s=(C9 (U x:Int) 2++sG (x.take k),(k:Int))) (U x-·.2.toNat) ⟨0,BR _,by simp[sG]⟩ ?_) λr hr=>AB (.inl hr);rintro s ⟨k,f,rfl⟩;unfold Ix;dsimp[len];refine AC (λa=>?_) (λa=>k? k!);have g:(C9 (U x:Int) 2++sG (x.take k)).length<=2000:=by grind[n?,A2,sq,r?]
 rw[(by unfold ix;rw[C! o!,s?,m? o!]:ix x (k:Int)=Z x[k]),p?,IE o! g! g!,p?,p?,IE (by rw[n?,A2];simp only[Int.reduceToNat];omega) g! g!,p?,p?,IE (by rw[n?,n?,A2,A2];simp only[Int.reduceToNat];omega) g! g!,p?,AY];refine y! ⟨k+1,o!,?_⟩ o!
 rw[(by simp_all:x.take (k+1)=x.take k++[x[k]]),AFb];simp only[A6];exact Da rfl o!
theorem AGm{x}(h:VIs x):Ap (En (C9 (U x:Int) 2++sG x)) λr=>r.2=0->r.1=x:=by
 have⟨t,u,i⟩:=h;have y:(C9 (U x:Int) 2++sG x).length=2+24*U x:=by rw[Ac,A2,sq]
 unfold En;have d:=(kZ (x:=C9 (U x:Int) 2++sG x) (p:=[]) (rest:=sG x) (at_:=0) (k:=2) (n:=(U x:Int)) rfl rfl o! g! g! (i2r o! o!)).1;rw[show(((2:Nat)):Int)=2 from rfl]at d;rw[d,AD];have m:wi (len (C9 (U x:Int) 2++sG x)-2)=24*(U x:Int):=by grind[AY]
 have o:wi (24*((U x:Int),(0:Int)).1)=24*(U x:Int):=AY k!;rw[show((((U x:Int),(0:Int)):Int×Int).2 !=0)=Y from rfl,A!,F! o!,A!,F! o!,A!];refine AA (P:=λr=>r=x) ?_ λr hr=>?_
 ·refine Ce (λs=>∃k:Nat,k<=U x/\s=((k:Int),x.take k)) (U x-·.1.toNat) ⟨0,BR _,rfl⟩ ?_;rintro s ⟨k,w,rfl⟩;unfold Iw;dsimp only;refine AC (λl=>?_) (λl=>k? (by rw[BO o!]));have b:k<U x:=o!
  have a:(sG (x.take k)).length=24*k:=by grind[sq,r?]
  have c:C9 (U x:Int) 2++sG x=(C9 (U x:Int) 2++sG (x.take k))++(C9 x[k].1 8++(C9 x[k].2.1 8++(C9 x[k].2.2 8++sG (x.drop (k+1))))):=by rw[(by grind[AAB,List.drop_eq_getElem_cons,sG,List.flatten_append,List.take_append_drop]:sG x=sG (x.take k)++(rB x[k]++sG (x.drop (k+1))))];unfold rB;simp[A6]
  have⟨q1,q2,q3⟩:=i x[k] (GW b);have e:=(kZ (at_:=2+24*(k:Int)) (k:=8) c (by rw[Ac,A2,a];omega) o! g! g! (i8r q1.1 q1.2)).1;rw[<-A6]at c;have f:=(kZ (at_:=10+24*(k:Int)) (k:=8) c (by simp[Ac,A2,a];omega) o! g! g! (i8r q2.1 q2.2)).1;rw[<-A6]at c;have g:=(kZ (at_:=18+24*(k:Int)) (k:=8) c (by simp[Ac,A2,a];omega) o! g! g! (i8r q3.1 q3.2)).1;rw[show(((8:Nat)):Int)=8 from rfl]at e f g;rw[AY (x:=24*(k:Int)),AY (x:=2+24*(k:Int)),AY (x:=10+24*(k:Int)),AY (x:=18+24*(k:Int)),e,AD,f,AD,g,AD,AY (x:=(k:Int)+1)];refine AA (Aa (by rw[BQ];simp;omega)) λz j=>y! ⟨k+1,b,?_⟩ d!
  rw[j.1,(by simp_all:x.take (k+1)=x.take k++[x[k]])];exact Da d! rfl
 subst hr;exact AA AJi λA v=>AO (y? λq=>N! (show(28:Int)=0 from q) g!) (y? λ_=>rfl)
theorem AGs{c:Cb}(l:U c.2.2.2.1<=16777216):Ap (Gt c) λr=>U r.1<=8192->r.1=[]\/(VCk c/\∃b g:BZ,r.1=C9 c.1 2++(C9 c.2.1 4++(C9 (U b:Int) 4++(b++(C9 (U c.2.2.2.1:Int) 1++(wN c.2.2.2.1++g)))))/\(g=C9 (U c.2.2.2.2:Int) 2++sG c.2.2.2.2\/g=[])):=by
 unfold Gt;refine AA (AKz l) λB n=>AO (y? λ_=>.inl rfl) (λe=>?_);have m:=n e;have⟨a1,a2,a3,a4,a5,a6,a7⟩:=id m;have t:=a5.len a2;refine AA Sw λx z=>?_;rw[IE q! g! g!,AD,CG,IE (by rw[A2];decide) g! g!,AD,IE (by simp only[Ac,A2];decide) g! g!,AD];refine AA (CL (by simp[Ac,A2,Int.reduceToNat];omega)) λj q=>?_;have w:=q.2;simp[Ac,A2,Int.reduceToNat]at w;dsimp[len];rw[IE o! g! g!,AD];refine AA (P:=λr=>r=j++(C9 (U c.2.2.2.1:Int) 1++wN c.2.2.2.1)) ?_ λh o=>?_
 ·refine Ce (λs=>∃k:Nat,k<=U c.2.2.2.1/\s=(j++(C9 (U c.2.2.2.1:Int) 1++wN (c.2.2.2.1.take k)),(k:Int))) (U c.2.2.2.1-·.2.toNat) ⟨0,BR _,by simp[wN]⟩ ?_;rintro s ⟨k,A,rfl⟩;unfold Iz;dsimp[len];refine AC (λe=>?_) (λe=>k? k!);have a:k<U c.2.2.2.1:=o!
  have u:ix c.2.2.2.1 (k:Int)=Z c.2.2.2.1[k]:=by unfold ix;rw[C! o!,s?,m? a]
  have l:(j++(C9 (U c.2.2.2.1:Int) 1++wN (c.2.2.2.1.take k))).length<=100000000:=by grind[n?,A2,lf,r?]
  rw[u,AD,IE o! g! g!,AD,AD,IE (by rw[Ac,A2];simp only[Int.reduceToNat];omega) g! g!,AD,AD,IE (by rw[Ac,Ac,A2,A2];simp only[Int.reduceToNat];omega) g! g!,AD,AY];refine y! ⟨k+1,a,?_⟩ k!
  have f:c.2.2.2.1.take (k+1)=c.2.2.2.1.take k++[c.2.2.2.1[k]]:=t!
  rw[f,AEb];unfold dB;grind[t?,Prod.ext]
 refine AA (Su.and (AGr a6)) λi d=>?_;have v:U h<=100000000:=by grind[n?,A2,lf]
 refine AA (CL o!) λy p=>AB λ_=>.inr ⟨m,x.1,i.1,?_,d.2⟩;grind[t?]
theorem AGn{c}(Q:VCk c){b l s:BZ}(J:s=C9 c.1 2++(C9 c.2.1 4++(C9 (U b:Int) 4++(b++(C9 (U c.2.2.2.1:Int) 1++(wN c.2.2.2.1++l))))))(X:U s≤8192)(v:l=C9 (U c.2.2.2.2:Int) 2++sG c.2.2.2.2∨l=[]):
  Ap (DG s) λr=>r.2=0->r.1.1=c.1/\r.1.2.2.2.1=c.2.2.2.1/\r.1.2.2.2.2=c.2.2.2.2:=by
 obtain⟨a1,a2,a3,a4,a5,a6,a7⟩:=id Q;have O:=a5.len a2;have d:=J;have y:=E! U J;simp only[Ac,A2,lf]at y;have F:=(kZ (x:=s) (p:=[]) (at_:=0) (k:=2) (n:=c.1) (show s=[]++(C9 c.1 2++_)from d) rfl o! g! g! (i2r o! o!)).1;have G:=(kZ (at_:=2) (k:=4) (n:=c.2.1) d (by rw[A2];rfl) o! g! g! (i4r o! o!)).1;rw[<-A6]at d;have H:=(kZ (at_:=6) (k:=4) (n:=(U b:Int)) d (by rw[Ac,A2,A2];rfl) o! g! g! (i4r o! o!)).1;rw[<-A6,<-A6]at d;have I:=(kZ (at_:=10+(U b:Int)) (k:=1) (n:=(U c.2.2.2.1:Int)) d (by simp only[Ac,A2];omega) o! g! g! (i1r o! o!)).1;rw[<-A6]at d;rw[show(((2:Nat)):Int)=2 from rfl]at F;rw[show(((4:Nat)):Int)=4 from rfl]at G H;rw[show(((1:Nat)):Int)=1 from rfl]at I;have w:((((C9 c.1 2++C9 c.2.1 4)++C9 (U b:Int) 4)++b)++C9 (U c.2.2.2.1:Int) 1).length=11+U b:=by simp only[Ac,A2];omega
 generalize V_:(((C9 c.1 2++C9 c.2.1 4)++C9 (U b:Int) 4)++b)++C9 (U c.2.2.2.1:Int) 1=P at d w;unfold DG;rw[F,AD,G,AD,H,AD];dsimp only[len];rw[show((0:Int) !=0)=Y by decide,A!,AY (x:=(U s:Int)-10),F! o!,A!,AY (x:=10+(U b:Int))];refine AA (Ca g!) λ_ L=>?_;rw[I,AD];dsimp only;rw[show((0:Int) !=0)=Y by decide,A!,AY (x:=(U s:Int)-(10+(U b:Int))),AY (x:=(U s:Int)-(10+(U b:Int))-1),AY (x:=17*(U c.2.2.2.1:Int)),F! o!,A!,AY (x:=10+(U b:Int)+1)];refine AA (P:=λr=>r=((U P:Int)+17*U c.2.2.2.1,c.2.2.2.1,c.1,c.2.1,[],[])) ?_ λR m=>?_
 ·refine Ce (λq=>∃k:Nat,k<=U c.2.2.2.1/\q=((U P:Int)+17*k,(k:Int),c.2.2.2.1.take k,c.1,c.2.1,[],[])) (U c.2.2.2.1-·.2.1.toNat) ⟨0,BR _,?_⟩ ?_;refine Da ?_ rfl;dsimp only;omega;rintro q ⟨k,W_,rfl⟩;unfold MW;dsimp only;refine AC (λN=>?_) (λN=>k? (by rw[BO o!,show k=U c.2.2.2.1 by omega]));have e:k<U c.2.2.2.1:=o!
  have z:wN c.2.2.2.1=wN (c.2.2.2.1.take k)++(dB c.2.2.2.1[k]++wN (c.2.2.2.1.drop (k+1))):=by rw[<-zJ,<-Tq e];unfold wN;rw[<-List.flatten_append,<-LD,DY]
  have f:(wN (c.2.2.2.1.take k)).length=17*k:=by rw[lf,BQ];omega
  have i:s=(P++wN (c.2.2.2.1.take k))++(C9 c.2.2.2.1[k].1 1++(C9 c.2.2.2.1[k].2.1 8++(C9 c.2.2.2.1[k].2.2 8++(wN (c.2.2.2.1.drop (k+1))++l)))):=by rw[d,z];unfold dB;simp only[A6]
  obtain⟨q1,q2,q3,q4,q5⟩:=(a5 k _ (As e)).1;have C:=(kZ (at_:=(U P:Int)+17*k) (k:=1) i (by rw[Ac,f];omega) o! g! g! (i1r o! o!)).1;rw[<-A6]at i;have D:=(kZ (at_:=(U P:Int)+17*k+1) (k:=8) i (by simp only[Ac,A2,f];omega) o! g! g! (i8r o! o!)).1;rw[<-A6]at i;have E:=(kZ (at_:=(U P:Int)+17*k+9) (k:=8) i (by simp only[Ac,A2,f];omega) o! g! g! (i8r o! o!)).1;rw[show(((1:Nat)):Int)=1 from rfl]at C;rw[show(((8:Nat)):Int)=8 from rfl]at D E;rw[C,AD,AY (x:=(U P:Int)+17*k+1),D,AD,AY (x:=(U P:Int)+17*k+9),E,AD,AY (x:=(U P:Int)+17*k+17),AY (x:=(k:Int)+1)];refine AA (Aa (by rw[BQ];simp;omega)) λ_ M=>y! ⟨k+1,e,?_⟩ d!
  have B:c.2.2.2.1.take (k+1)=c.2.2.2.1.take k++[c.2.2.2.1[k]]:=by rw[Cr,As e];rfl
  rw[M.1,B];refine Da ?_ (Da ?_ rfl);dsimp only;omega;dsimp only;omega
 subst m;refine AA (Sv (by rw[L.1,BQ,DB];omega)) λ_ _=>AL (λg=>AB λh=>N! h g) (λ_=>?_);dsimp only;have A:SL s ((U P:Int)+17*(U c.2.2.2.1:Int)) (U s:Int)=Z l:=by
  unfold SL;rw[C! o!,d,<-A6];have u:(P++wN c.2.2.2.1).length=((U P:Int)+17*(U c.2.2.2.1:Int)).toNat:=by rw[Ac,lf];omega
  rw[<-u,RS,BO (by rw[Ac];omega)]
 rw[A,AD];rcases v with rfl|rfl;refine AA ((Ss o!).and (AGm a6)) λ_ o=>AL (λg=>AB λh=>N! h g) (λj=>AA (OS d!) λ_ _=>AO (y? λh=>N! (show(24:Int)=0 from h) g!) (y? λ_=>⟨rfl,rfl,o.2 j⟩));have K:En []=Z ([],5):=by unfold En;have:=jf (a:=[]) (t:=[]) (k:=2) g! g! g!;rw[Do,D! g!]at this;rw[show((([]:BZ).length:Nat):Int)=0 from rfl]at this;rw[this];rfl
 rw[K,AD];exact AB λh=>N! (show(5:Int)=0 from h) g!
variable {B:pR}
theorem eF{x:Bv}:Ap (Lu x) λr=>r.length<=64/\(∀d∈r,∃f∈x.2.1,f.1.1=d.1/\d.2.2=f.1.2.1)/\(Pg x-> ∀f∈x.2.1,f.2.1=true->0<=f.1.1->f.1.1<64-> ∃d∈r,d.1=f.1.1):=by
 unfold Lu;refine AA D4 λv B=>AO (λm=>AB ⟨q!,q!,λo=>absurd (B.2 o) (by simp[m])⟩) (λm=>?_);have o:=B.1 m;have R:=o.2.1;have S:=o.2.2.1;refine AA (P:=λr=>r.length<=64/\(∀d∈r,∃f∈x.2.1,f.1.1=d.1/\d.2.2=f.1.2.1)/\ ∀f∈x.2.1,f.2.1=true->0<=f.1.1->f.1.1<64-> ∃d∈r,d.1=f.1.1) ?_ λr hr=>AB ⟨hr.1,hr.2.1,λ_=>hr.2.2⟩;refine Ce (λ(s:Int×List Ah)=>0<=s.1/\s.1<=64/\s.2.length<=s.1/\(∀d∈s.2,∃f∈x.2.1,f.1.1=d.1/\d.2.2=f.1.2.1)/\ ∀f∈x.2.1,f.2.1=true->0<=f.1.1->f.1.1<s.1-> ∃d∈s.2,d.1=f.1.1) (λ(s:Int×List Ah)=>(64-s.1).toNat) ⟨Ae _,u!,q!,q!,λf _ _ i k=>absurd k d!⟩ (λs I=>?_);have⟨k,O,Q,p,q⟩:=I;unfold Sr;rw[(AY (x:=s.1+1))];refine AC (λm=>?_) (λm=>Ap.done ⟨o!,p,λf h c i k=>q f h c i o!⟩);refine AA (Gr d!) λL b=>AC (λa=>?_) (λa=>Ap.next ⟨d!,d!,d!,p,λf h c i k=>?_⟩ d!)
 ·have⟨g,A,t⟩:=b.2.2.1 a;have D: ∀w,x.2.1[L.toNat]? =some w->w=g:=λw C=>by rw[A]at C;exact(Ba C).symm
  refine AA (AJ a b.2.1) λM y=>?_;have E:=D M y.1;subst E;refine AA (P:=λl=>l.length<=s.2.length+1/\(∀d∈l,∃f∈x.2.1,f.1.1=d.1/\d.2.2=f.1.2.1)/\ ∀f∈x.2.1,f.2.1=true->0<=f.1.1->f.1.1<s.1+1-> ∃d∈l,d.1=f.1.1) ?_ λV H=>Ap.next ⟨d!,d!,d!,H.2⟩ d!
  refine AK (λn=>?_) (λn=>AB ⟨o!,p,λf h c i k=>?_⟩);refine AA (AJ a b.2.1) λT _=>AA (AJ a b.2.1) λN z=>?_;have F:=D N z.1;subst F;refine AA (Aa w!) λU G=>AB ⟨?_,λd c=>?_,λf h c i k=>?_⟩;grind;grind;rw[G.1];by_cases e:f.1.1<s.1;have⟨d,J,K⟩:=q f h c i e;grind[List.mem_append_left];exact⟨_,NA _ (A9.2 rfl),d!⟩;by_cases e:f.1.1<s.1;exact q f h c i e;have⟨j,u⟩:=C2 h;have:=o.uniq u A (by dsimp only at t;omega);subst this;rw[n]at c;cases c
 by_cases e:f.1.1<s.1;grind;have⟨j,u⟩:=C2 h;exact absurd ⟨j,f,u,by dsimp only at k⊢;omega⟩ (b.2.2.2 o!)
theorem kW{x:AQ}(h:SK B x):Ap (PS x) λr=>r.2=0->r.1.2.2.2.1.length<=16777216/\r.1.1=x.1/\yl x.1 x.2.2.1.2.1 r.1.2.2.2.1 r.1.2.2.2.2:=by
 unfold PS;refine AA (Bz h.sb) λv hv=>AO (λ_=>AB λhz=>absurd hz (by decide)) (λo=>?_);have J:=hv o;have ad:=J.2.1;have⟨al,n,H,_⟩:=h.ki;refine AA (P:=λr=>r.1.length<=16777216/\r.2=(x.1,(x.2.1,(x.2.2.2.2.2.1,x.2.2.2.2.2.2.1)))/\(∀d∈r.1,d.2.2=Be x.2.2.1.2.1 d.1)/\ ∀p,0<=p->p<x.1->(∀d∈r.1,d.1≠p)->(∀d∈x.2.2.2.2.2.2.2,d.1≠p)/\ ∀f∈x.2.2.2.1.2.1,f.1.1=p->f.2.1=false) ?_ λr hr=>AB λ_=>⟨hr.1,by rw[hr.2.1],λp g i=>⟨λd a e=>by rw[hr.2.2.1 d a,e],λw D=>?_⟩⟩
 rotate_left 1
 ·dsimp only at D;rw[hr.2.1]at D;have⟨_,_,c⟩:=n p g i;exact⟨(c w D).1,λa=>(c w D).2 (hr.2.2.2 p g i a).1 (hr.2.2.2 p g i a).2⟩
 refine Ce (λ(s:Int×(List Ah)×Int×Int×(List Ai)×Bt)=>0<=s.1/\s.1<=x.1/\s.2.1.length<=65*s.1/\s.2.2=(x.1,(x.2.1,(x.2.2.2.2.2.1,x.2.2.2.2.2.2.1)))/\(∀d∈s.2.1,d.2.2=Be x.2.2.1.2.1 d.1)/\ ∀p,0<=p->p<s.1->(∀d∈s.2.1,d.1≠p)->(∀d∈x.2.2.2.2.2.2.2,d.1≠p)/\ ∀f∈x.2.2.2.1.2.1,f.1.1=p->f.2.1=false) (λ(s:Int×(List Ah)×Int×Int×(List Ai)×Bt)=>(x.1-s.1).toNat) ⟨Ae _,by have:=J.1;dsimp only;omega,by simp,rfl,by simp,λp g i=>absurd i (by dsimp only;omega)⟩ (λs hI=>?_);have⟨h1,h2,h3,R,S,b⟩:=hI;unfold Vu;have e:=AY (x:=s.1+1) (by omega);rw[e];refine AC (λo=>?_) (λ_=>Ap.done ⟨by omega,R,S,λp g i=>b p g (by omega)⟩);refine AA (KJ h.sb) λv2 y=>AA (P:=λl=>l.1.length<=s.2.1.length+1/\l.2=s.2.2/\(∀d∈l.1,d.2.2=Be x.2.2.1.2.1 d.1)/\(∀d∈s.2.1,d∈l.1)/\((∀d∈l.1,d.1≠s.1)-> ∀d∈x.2.2.2.2.2.2.2,d.1≠s.1)) ?_ λW_ F=>?_
 ·refine AK (λm=>AA (Aa (by simp;omega)) λv6 b=>AB ?_) (λm=>AB ⟨by omega,rfl,S,λd a=>a,λ_=>y.2 m⟩);have⟨q1,q2⟩:=y.1 m;have K:=b.2.1;simp at K;refine⟨by dsimp only;omega,rfl,λd a=>?_,λd a=>by dsimp only;rw[b.1];exact G2 _ a,λhn=>absurd q2 (hn _ (by dsimp only;rw[b.1];exact NA _ (A9.2 rfl)))⟩;dsimp only at a;rw[b.1,Am]at a;rcases a with a|a
  ·grind
  ·rw[A9]at a;subst a;exact(n _ (by dsimp only at q2;omega) (by dsimp only at q2;omega)).2.1 _ q1 rfl
 have⟨a1,a2,a3,a4,a5⟩:=F;refine AA eF λE L=>?_;have⟨b1,Y_,Z_⟩:=L;refine AA (P:=λl=>l.1.length<=s.2.1.length+65/\l.2=s.2.2/\(∀d∈l.1,d.2.2=Be x.2.2.1.2.1 d.1)/\(∀d∈W_.1,d∈l.1)/\ ∀d∈E,d.1=s.1->d∈l.1) ?_ λao k=>Ap.next ⟨by dsimp only;omega,by dsimp only;omega,by dsimp only;omega,by dsimp only;rw[k.2.1,R],k.2.2.1,λp g i hn=>?_⟩ (by dsimp only;omega)
 rotate_left 1
 ·have⟨_,_,_,N,c5⟩:=k;dsimp only at i hn;by_cases u:p<s.1
  ·exact b p g u λd a=>hn d (N d (a4 d a))
  ·have ep:p=s.1:=by omega
   subst ep;refine⟨a5 λd a=>hn d (N d a),λf C Q=>?_⟩;cases hb:f.2.1 with
   |false=>rfl
   |true=>have⟨d,G,q⟩:=Z_ J.2.2.2.1 f C hb (by omega) (by omega);exact absurd (q.trans Q) (hn d (c5 d G (q.trans Q)))
 refine Ce (λ(t:Int×(List Ah)×Int×Int×(List Ai)×Bt)=>0<=t.1/\t.1<=E.length/\t.2.1.length<=s.2.1.length+1+t.1/\t.2.2=s.2.2/\(∀d∈t.2.1,d.2.2=Be x.2.2.1.2.1 d.1)/\(∀d∈W_.1,d∈t.2.1)/\ ∀(j:Nat) (d:Ah),(j:Int)<t.1->E[j]? =some d->d.1=s.1->d∈t.2.1) (λ(t:Int×(List Ah)×Int×Int×(List Ai)×Bt)=>((E.length:Int)-t.1).toNat) ⟨Ae _,by dsimp only;omega,by dsimp only;omega,a2,a3,λd a=>a,λj d I=>absurd I (by dsimp only;omega)⟩ (λt hJ=>?_);have⟨j1,j2,j3,U,M,V_,j7⟩:=hJ;unfold Vv;have e2:=AY (x:=t.1+1) (by omega);rw[e2];refine AC (λo=>?_) (λo=>Ap.done ⟨by omega,U,M,V_,λd a O=>?_⟩);rotate_left 1
 ·grind[List.getElem?_of_mem,Cp]
 simp[len]at o;refine AA (AJ j1 o) λX z=>?_;refine AA (P:=λl=>l.1.length<=t.2.1.length+1/\l.2=t.2.2/\(∀d∈l.1,d.2.2=Be x.2.2.1.2.1 d.1)/\(∀d∈t.2.1,d∈l.1)/\(X.1=s.1->X∈l.1)) ?_ λv9 A=>Ap.next ⟨by dsimp only;omega,by dsimp only;omega,by dsimp only;omega,A.2.1.trans U,A.2.2.1,λd a=>A.2.2.2.1 d (V_ d a),λj d I a O=>?_⟩ (by dsimp only;omega)
 rotate_left 1
 ·dsimp only at I;by_cases u:(j:Int)<t.1
  ·grind
  ·have:j=t.1.toNat:=by omega
   subst this;rw[z.1]at a;have:=Ba a;subst this;exact A.2.2.2.2 O
 refine AP (λT=>AA (Aa (by simp;omega)) λv6 b=>AB ?_) (λT=>AB ⟨by omega,rfl,M,λd a=>a,λe=>absurd e T⟩);have K:=b.2.1;simp at K;refine⟨by dsimp only;omega,rfl,λd a=>?_,λd a=>by dsimp only;rw[b.1];exact G2 _ a,λ_=>by dsimp only;rw[b.1];exact NA _ (A9.2 rfl)⟩;dsimp only at a;rw[b.1,Am]at a;rcases a with a|a
 ·exact M d a
 ·rw[A9]at a;subst a;have⟨f,C,f1,f2⟩:=Y_ d z.2;have hr:=H f C;rw[f2,(n d.1 (by omega) (by omega)).1 f C f1,Kb]
theorem AGo:∃c e,DG []=Z (c,e)/\e≠0:=⟨(0,0,[],[],[]),5,h!,g!⟩
theorem gu{x}(h:SK B x):Ap (Q4 x) λr=>r.2.2=0->KL (B.up 0 1) x r.1:=by
 refine AA (kW h) λ_ D=>AL (λd=>AB λa=>N! a d) (λa=>?_);have⟨y,R,H⟩:=D a;refine AA ((bf y).and (AGs y)) λJ p=>AC (y? n!) (λg=>?_);simp[len]at g;have f:∀c,DG J.1=Z (c,0)->c.1=x.1->yl x.1 x.2.2.1.2.1 c.2.2.2.1 c.2.2.2.2:=by intro c d _;rcases p.2 o! with e|⟨n,I,Q,G,o⟩;grind[AGo,Option.some.inj];have⟨_,q2,q3⟩:=(AGn n G o! o).get d rfl;rw[q2,q3];exact H
 refine AA (GH h.sb) λl u=>AL (λd=>AB λa=>N! a d) (λa=>?_);have b:=(u a).2.1;have i:RM (B.2.1,B.2.2+1) l.1:=b.rm h.ki.rm (by show _+(if(6:Int)=1 then 1 else 0)<=_;simp) (by have:=b.2.2.2.2.2.1.w.1 (by show(6:Int)≠1;decide);dsimp only at this⊢;omega);have⟨_,⟨a1,a2,a3,a4,a5,a6,a7,a8,e,m,A,C,s,O,t,P⟩,E⟩:=u a;dsimp only at a1 a2 a4 a7 m A C s t E;have F:=a2.1;refine AA (Hw.and (oC a3 k!)) λK v=>AB λ_=>?_;have⟨L,k,M,N,_⟩:=v.1 v.2;refine⟨a1,a2.trans (LX.of M k N),⟨a8.1,a8.2.1,a8.2.2,?_⟩,L⟩;have j:RM (B.2.1,B.2.2+1) (l.1.1,l.1.2.1,K.1,l.1.2.2.2):=by unfold RM PH at*;dsimp only at i k⊢;rw[k];exact i
 refine⟨?_,?_,?_,j⟩;dsimp only;rw[a1,k,m];refine h.ki.1.app ⟨λq=>o!,λq=>o!,λ_=>?_⟩;rw[(E! (·.2.2) s)];exact f;dsimp only;rw[a1,a4,a7,k,m,t g!];exact h.ki.2.1.app o!;dsimp only;rw[a1,a4,a7];exact h.ki.fd
theorem Xc{x:AU}(h:SK B x.1)(d:DJ B x.1.2.2.1 x.2):Ap (LU x) λr=>r.2.2=0->SR (B.up 0 1) x r.1:=by exact AA (gu h) λe b=>AL (λc=>AB λa=>N! a c) (λa=>AB λ_=>⟨b a,d.up (b a).2.1⟩)
end Go.Pm
namespace Go.Pm
open Go Go.Ab
theorem be{x:BZ}(h:x.length<=1099511627776):Ap (DG x) λr=>r.2=0->tO r.1/\r.1.2.2.2.1.length<=65536:=by unfold DG;refine AA (Cm h) λO _=>AA (Cm h) λQ _=>AA (Cm h) λc w=>AL (λa=>AB n!) (λj=>?_);have⟨a1,a2,a3,_⟩:=w j;have a4:=a3 k!;dsimp only at a1 a2;rw[(AY (x:=len x-10) k!)];refine AC (λa=>AB n!) (λa=>?_);simp[len]at a;rw[(AY (x:=10+c.1))];refine AA (Ca g!) λR y=>AA (Cm h) λd z=>AL (λa=>AB n!) (λk=>?_);have⟨o,p,q,t⟩:=z k;have G:=q k!;have H:=t k!;dsimp only at o p;rw[(AY (x:=len x-(10+c.1)) k!)];rw[(AY (x:=len x-(10+c.1)-1) k!)];rw[(AY (x:=17*d.1))];refine AC (λa=>AB n!) (λi=>?_);simp[len]at i;rw[(AY (x:=10+c.1+1))];refine AA (P:=λr=>r.1=10+c.1+1+17*d.1/\r.2.1.length<=65536) ?_ λB e=>?_;refine AW (λ(s:Int×Int×List Ah×Int×Int×List Ai×Bt)=>0<=s.2.1/\s.2.1<=d.1/\s.1=10+c.1+1+17*s.2.1/\s.2.2.1.length<=s.2.1) (λ(s:Int×Int×List Ah×Int×Int×List Ai×Bt)=>(d.1-s.2.1).toNat) ⟨Ae _,k!,k!,q!⟩ (λs A=>?_);have⟨J,K,L,M⟩:=A;unfold MW;refine AC (λa=>AA (Cm h) λ_ _=>AA (Cm h) λ_ _=>AA (Cm h) λ_ _=>AA (Aa w!) λS I=>?_) (λa=>AB ⟨k!,k!⟩);grind[List.length_cons,List.length_nil,AY,AB];have N:=y.2;refine AA (Sv o!) λC u=>AL (λa=>AB λb=>absurd b a) (λm=>AA (Ca o! (by simp[len];omega) i!) λD f=>?_);have l:=f.2;simp[len]at l;exact AA (Ss o!) λE v=>AL (λa=>AB λb=>absurd b a) (λn=>AA (OS d!) λF g=>AO (λa=>AB n!) (λa=>AB λ_=>⟨g a,e.2⟩))
theorem MI.data{e}(h:MI e):U e.2.2.2.2.2.2.2<=8192:=by have a:=h.2.2.2.2.2.2.2.2;grind[Va]
theorem bg{x:AZ}:Ap (PR x) λr=>r.2.2=true->(tO r.1/\r.1.2.2.2.1.length<=65536)/\ ∃(i:Nat) (e:AE),x.2.1[i]? =some e/\e.2.1=6/\e.1=r.2.1/\DG e.2.2.2.2.2.2.2=some (r.1,0):=by
 refine AA Bb λv j=>AO (λ_=>AB λc=>by cases c) (λa=>?_);have f:=j.1 a;have g:=f.2.2.1;have e:=AY (x:=len x.2.1-1) k!;refine AA (P:=λr=> ∀u,r= .inl u->(tO u.2.2/\u.2.2.2.2.2.1.length<=65536)/\ ∃(i:Nat) (e:AE),x.2.1[i]? =some e/\e.2.1=6/\e.1=u.1/\DG e.2.2.2.2.2.2.2=some (u.2.2,0)) ?_ λr hr=>BG (λu b=>AB λ_=>hr u b) (λ_ _=>AB λc=>by cases c);refine AW (λ(s:Int×Cb)=> -1<=s.1/\s.1<x.2.1.length) (λ(s:Int×Cb)=>(s.1+1).toNat) ⟨k!,k!⟩ (λs d=>?_);unfold Rx;rw[(AY (x:=s.1-1))];refine AC (λa=>?_) (λ_=>AB λu b=>by cases b);have k:((-1<=s.1-1/\s.1-1<x.2.1.length)/\(s.1-1+1).toNat<(s.1+1).toNat):=o!
 refine AA (AJ a d.2) λo l=>AL (λ_=>AB k) (λm=>AA (AJ a d.2) λp h=>?_);have n:=(f.2.2.2.2.2 _ _ h.1).2.data;grind[EA,be,AP,AA,AJ,AB]
def DG2(x:S Ah×AE)(l:S Ah):Prop:=∀d∈l,(d.1=x.2.2.2.2.2.2.2.1.1/\d.2.2=x.2.1)\/(d.1≠x.2.2.2.2.2.2.2.1.1/\d∈x.1)
def DG1(x:S Ah×AE)(l:S Ah):Prop:=∀d∈l,∃c∈x.1,c.1=d.1/\c.2.2=d.2.2
def DK(x:S Ah×AE)(i:Int)(l:S Ah):Prop:=∀(j:Nat)(d:Ah),(j:Int)<i->x.1[j]?=Z d->d.1≠x.2.2.2.2.2.2.2.1.1->d∈l
theorem DG2.snoc{x}{l m:S Ah}{d:Ah}(h:DG2 x l)(e:m=l++[d])(b:(d.1=x.2.2.2.2.2.2.2.1.1/\d.2.2=x.2.1)\/(d.1≠x.2.2.2.2.2.2.2.1.1/\d∈x.1)):DG2 x m:=by subst e;intro c a;rcases Am.1 a with a|a;exact h c a;grind
theorem DG1.snoc{x}{l m:S Ah}{d:Ah}(h:DG1 x l)(e:m=l++[d])(b:∃c∈x.1,c.1=d.1/\c.2.2=d.2.2):DG1 x m:=by subst e;intro c a;rcases Am.1 a with a|a;exact h c a;grind
theorem DK.snoc{x}{l m:S Ah}{d:Ah}{i}(h:DK x i l)(e:m=l++[d]):DK x i m:=λj c b a hn=>by rw[e];exact G2 _ (h j c b a hn)
theorem DK.next{x:List Ah×AE}{l:List Ah}{v:Ah}{i k:Int}(h:DK x i l)(d:0<=i)(f:k=i+1)(m:x.1[i.toNat]?=δ v)(g:v.1≠x.2.2.2.2.2.2.2.1.1->v∈l):DK x k l:=λj c e b hn=>by by_cases a:(j:Int)<i;exact h j c a b hn;grind
theorem ZC{x:List Ah×AE}{s:Bool×Int×List Ah}(o:x.2.2.1=7)(h:0<=s.2.1/\s.2.1<=θ x.1/\θ x.1<=1000000/\θ s.2.2<=s.2.1+1/\(s.1=η->(θ s.2.2:Int)<=s.2.1)/\DG1 x s.2.2/\DK x s.2.1 s.2.2):Ap (Aj (F8 x) s) λr=>(θ r.2<=θ x.1+1/\(r.1=η->θ r.2<=θ x.1))/\DG1 x r.2/\DK x (θ x.1) r.2:=by
 refine AW (λ(s:Bool×Int×List Ah)=>0<=s.2.1/\s.2.1<=θ x.1/\θ x.1<=1000000/\θ s.2.2<=s.2.1+1/\(s.1=η->(θ s.2.2:Int)<=s.2.1)/\DG1 x s.2.2/\DK x s.2.1 s.2.2) (λ(s:Bool×Int×List Ah)=>((θ x.1:Int)-s.2.1).toNat) h (λs i=>?_);have⟨g,t,v,w,b,c,f⟩:=i;unfold F8;repeat' with_reducible first|intro a|apply AC|apply AO|apply AP|apply AK|(apply BL;try dsimp only)|apply Bp|apply B8|apply NH|(apply BB;try dsimp only)|(apply Ax;try dsimp only)|(apply BG<;>(intro u l;try subst l))|apply AB|(apply AA (CO);intro r hr)|(refine AM ?_ (AJ ?_ ?_);rintro r ⟨hr,q⟩)|(refine AM ?_ (Aa ?_);rintro r ⟨hr,p,k⟩)
 all_goals try dsimp[len]at*
 all_goals try (have e:=AY (x:=s.2.1+1))
 all_goals try (have m:=b v!)
 all_goals (try simp only[BY,Bj]at*)
 all_goals first
  |omega
  |exact⟨⟨o!,λh=>by have:=b h;omega⟩,c,λj d n=>f j d o!⟩
  |(exfalso;grind;done)
  |(refine⟨⟨o!,o!,o!,o!,by first|(intro h;have:=b h;omega)|(intro h;cases h),?_,?_⟩,o!⟩
    first|exact c|exact c.snoc v! (by refine⟨_,v!,?_,?_⟩<;>rfl)
    ·first|exact f.next g e v! (λhn=>N! v! hn)|exact(f.snoc v!).next g e v! (by first|(intro hn;exact N! v! hn)|(intro _;subst_vars;simp)))
theorem ZD{x:List Ah×AE}{s:Bool×Int×List Ah}(q:x.2.2.1=1\/x.2.2.1=2)(h:0<=s.2.1/\s.2.1<=θ x.1/\θ x.1<=1000000/\θ s.2.2<=s.2.1+1/\(s.1=η->(θ s.2.2:Int)<=s.2.1)/\DG2 x s.2.2/\DK x s.2.1 s.2.2/\(s.1=ζ->∃d∈s.2.2,d.1=x.2.2.2.2.2.2.2.1.1)):Ap (Aj (F8 x) s) λr=>(θ r.2<=θ x.1+1/\(r.1=η->θ r.2<=θ x.1))/\DG2 x r.2/\DK x (θ x.1) r.2/\(r.1=ζ->∃d∈r.2,d.1=x.2.2.2.2.2.2.2.1.1):=by
 refine AW (λ(s:Bool×Int×List Ah)=>0<=s.2.1/\s.2.1<=θ x.1/\θ x.1<=1000000/\θ s.2.2<=s.2.1+1/\(s.1=η->(θ s.2.2:Int)<=s.2.1)/\DG2 x s.2.2/\DK x s.2.1 s.2.2/\(s.1=ζ->∃d∈s.2.2,d.1=x.2.2.2.2.2.2.2.1.1)) (λ(s:Bool×Int×List Ah)=>((θ x.1:Int)-s.2.1).toNat) h (λs l=>?_);have⟨i,w,y,z,c,a,f,k⟩:=l;unfold F8;repeat' with_reducible first|intro b|apply AC|apply AO|apply AP|apply AK|(apply BL;try dsimp only)|apply Bp|apply B8|apply NH|(apply BB;try dsimp only)|(apply Ax;try dsimp only)|(apply BG<;>(intro u n;try subst n))|apply AB|(apply AA (CO);intro r hr)|(refine AM ?_ (AJ ?_ ?_);rintro r ⟨hr,v⟩)|(refine AM ?_ (Aa ?_);rintro r ⟨hr,t,m⟩)
 all_goals try dsimp[len]at*
 all_goals try (have e:=AY (x:=s.2.1+1))
 all_goals try (have o:=c v!)
 all_goals (try simp only[BY,Bj]at*)
 all_goals first
  |omega
  |exact⟨⟨o!,λh=>by have:=c h;omega⟩,a,λj d p=>f j d o!,k⟩
  |(exfalso;grind;done)
  |(refine⟨⟨o!,o!,o!,o!,by first|(intro h;have:=c h;omega)|(intro h;cases h)|trivial,?_,?_,?_⟩,o!⟩
    first|exact a.snoc v! (by exact .inl ⟨v!,rfl⟩)|exact a.snoc v! (by exact .inr ⟨v!,v!⟩)|refine DG2.snoc (DG2.snoc a v! (by exact .inl ⟨rfl,rfl⟩)) v! (by exact .inr ⟨o!,v!⟩)
    ·first|exact(f.snoc v!).next i e v! (by first|(intro hn;exact N! v! hn)|(intro _;subst_vars;simp))|exact((f.snoc v!).snoc v!).next i e v! (by intro _;subst_vars;simp)
    first|(intro h;refine(k h).elim λd g=>⟨d,by subst_vars;simp[g.1],g.2⟩)|(intro _;subst_vars;refine⟨_,NA _ (A9.2 rfl),?_⟩;assumption)|(intro _;subst_vars;refine⟨_,G2 _ (NA _ (A9.2 rfl)),?_⟩;rfl))
theorem eO{x:S Ah×AE}(h:U x.1<=1000000):Ap (HK x) λr=>U r<=U x.1+1/\(¬(x.2.2.1=1\/x.2.2.1=2)->x.2.2.1≠7->r=x.1)/\(x.2.2.1=7->DG1 x r/\DK x (U x.1) r)/\(x.2.2.1=1\/x.2.2.1=2->DG2 x r/\DK x (U x.1) r/\∃d∈r,d.1=x.2.2.2.2.2.2.2.1.1):=by
 refine AA CO λB m=>AO (λb=>?_) (λb=>?_);have i:¬(x.2.2.1=1\/x.2.2.1=2):=λq=>by rw[m.2 q]at b;cases b
 refine AL (λhn=>AB ⟨o!,λ_ _=>rfl,λe=>N! e hn,λq=>N! q i⟩) (λo=>AA (ZC o ⟨Ae _,k!,h,q!,q!,by simp[DG1],λj d g=>N! g k!⟩) λv f=>AO (λp=>AA CO λs n=>AA (P:=λl=>l=v.2) (AK (λa=>N! (n.1 a) i) (y? rfl)) λl c=>AB ?_) (y? ⟨f.1.1,λ_ q=>N! o q,λ_=>f.2,λq=>N! q i⟩));grind;have k:=m.1 b;refine AA (ZD k ⟨Ae _,k!,h,q!,q!,by simp[DG2],λj d g=>N! g k!,λq=>by cases q⟩) λv f=>?_;have⟨⟨s,z⟩,t,u,A⟩:=f;refine AO (λp=>AA CO λw n=>AA (P:=λl=>l=v.2++[(x.2.2.2.2.2.2.2.1.1,x.2.1,x.2.1)]) (AK (λa=>?_) (λa=>?_)) λl c=>AB ?_) (λy=>AB ⟨s,λq=>N! k q,λq=>N! q o!,λ_=>⟨t,u,A y⟩⟩);grind[AA,Aa,AB];grind;have:=z p;refine⟨k!,λq=>N! k q,λq=>N! q o!,λ_=>⟨t.snoc c (.inl ⟨rfl,rfl⟩),u.snoc c,_,by rw[c];exact NA _ (A9.2 rfl),rfl⟩⟩
theorem yl.other{n}{L}{D}{R}{e:AE}(h:yl n L D R)(a:¬(e.2.1=1\/e.2.1=2)):yl n (L++[e]) D R:=by
 intro p b c;have:cC p e=Y:=by simp only[not_or]at a;simp[cC,a.1,a.2]
 rw[Pe,this,D! g!];exact h p b c
theorem yl.change{n}{L}{D r}{R}{e:AE}(h:yl n L D R)(v:e.2.1=1\/e.2.1=2)(o:∀p,Be L p<e.1)(k:DG2 (D,e) r)(m:DK (D,e) (U D) r)(u:∃d∈r,d.1=e.2.2.2.2.2.2.1.1):yl n (L++[e]) r R:=by intro p s t;have⟨a,b⟩:=h p s t;rw[Pe,(by grind[cC]:cC p e=(e.2.2.2.2.2.2.1.1==p))];by_cases i:e.2.2.2.2.2.2.1.1=p;rw[beq_iff_eq.2 i,C! rfl];refine⟨λd f c=>?_,λw g=>⟨by have:=(b w g).1;have:=o p;omega,λhn=>?_⟩⟩;rcases k d f with q|q;grind;grind;grind;rw[beq_eq_false_iff_ne.2 i,D! g!];refine⟨λd f c=>?_,λw g=>⟨(b w g).1,λhn=>(b w g).2 λd f c=>?_⟩⟩;rcases k d f with q|q;grind;exact a d q.2 c;have⟨j,l⟩:=C2 f;exact hn d (m j d (by have:=Cp l;omega) l (λq=>i (q.symm.trans c))) c
theorem yl.index{n}{L}{D r}{R}{e:AE}{w:Bk}(h:yl n L D R)(A:e.2.1=7)(B:e.2.2.2.2.2.1=Be L e.2.2.2.2.2.2.1.1)(y:0≤e.2.2.2.2.2.2.1.1)(k:DG1 (D,e) r)(l:DK (D,e) (U D) r)(C:R[e.2.2.2.2.2.2.1.1.toNat]?=Z w):
  yl n (L++[e]) r (R.set e.2.2.2.2.2.2.1.1.toNat ((if e.2.2.2.2.2.1>w.1 then e.2.2.2.2.2.1 else w.1),w.2)):=by
 refine yl.other ?_ o!;intro p s t;have⟨a,b⟩:=h p s t;refine⟨λd g f=>?_,λu i=>?_⟩;have⟨c,z,v,x⟩:=k d g;grind;by_cases o:e.2.2.2.2.2.2.1.1=p;grind;rw[Db o!]at i;refine⟨(b u i).1,λhn=>(b u i).2 λd g f=>?_⟩;have⟨j,m⟩:=C2 g;exact hn d (l j d k! m (λq=>o (q.symm.trans f))) f
theorem vj{n:Int}{L:S AE}{D r:S Ah}{R:S Bk}{q:Bt×Int}{e:AE}(h:yl n L D R)(l:EOK n L e)(m:∀p,Be L p<e.1)
  (j:U r<=U D+1/\(¬(e.2.1=1\/e.2.1=2)->e.2.1≠7->r=D)/\(e.2.1=7->DG1 (D,e) r/\DK (D,e) (U D) r)/\(e.2.1=1\/e.2.1=2->DG2 (D,e) r/\DK (D,e) (U D) r/\∃d∈r,d.1=e.2.2.2.2.2.2.1.1))
  (k:q.2=0->U q.1=U R/\(e.2.1≠7->q.1=R)/\(e.2.1=7->0<=e.2.2.2.2.2.2.1.1/\∃w,R[e.2.2.2.2.2.2.1.1.toNat]?=Z w/\q.1=R.set e.2.2.2.2.2.2.1.1.toNat ((if e.2.2.2.2.2.1>w.1 then e.2.2.2.2.2.1 else w.1),w.2)))
  (t:q.2=0):yl n (L++[e]) r q.1:=by
 have⟨_,g,f,c⟩:=j;have⟨_,u,v⟩:=k t;by_cases b:e.2.1=7;have⟨i,w,s,o⟩:=v b;rw[o];exact h.index b (l.2.1 b) i (f b).1 (f b).2 s;rw[u b];by_cases a:e.2.1=1\/e.2.1=2;exact h.change a m (c a).1 (c a).2.1 (c a).2.2;rw[g a b];exact h.other a
def vV(l:S Int):Prop:=∀(i:Nat)(a b:Int),l[i]?=Z a->l[i+1]?=Z b->a<b
theorem vV.lt{l}(h:vV l){i:Nat}{a:Int}(f:l[i]?=Z a):∀(d:Nat)(b:Int),l[i+d+1]?=Z b->a<b:=by
 intro d;induction d with
 |zero=>exact λb c=>h i a b f c
 |succ d j=>intro b c;have g:=Cp c;have e:l[i+d+1]?=Z (l[i+d+1]' o!):=As o!;exact Int.lt_trans (j _ e) (h (i+d+1) _ b e c)
theorem ACK{x:Ai}(h:x.2.2.2.2.1.length<=4096):Ap (Aj (Ev x) 0) λr=>r= .inl false\/(r= .inr ()/\vV x.2.2.2.2.1):=by refine Ce (λ(s:Int)=> ∃k:Nat,k<=x.2.2.2.2.1.length/\s=k/\ ∀(i:Nat) (a b:Int),i+1<k->x.2.2.2.2.1[i]? =some a->x.2.2.2.2.1[i+1]? =some b->a<b) (λs=>((x.2.2.2.2.1.length:Int)-s).toNat) ⟨0,BR _,rfl,λi a b d=>absurd d o!⟩ ?_;rintro s ⟨k,p,rfl,hr⟩;unfold Ev;simp[len];rw[AY (x:=(k:Int)+1),AY (x:=(k:Int)-1)];refine AC (λl=>AA (AJ) λq _=>AC (λ_=>Ap.done (.inl rfl)) (λ_=>AA (AJ) λt _=>AC (λ_=>Ap.done (.inl rfl)) (λ_=>AC (λg=>?_) (λg=>Ap.next ⟨k+1,o!,o!,λi a b d=>absurd d o!⟩ o!)))) (λl=>Ap.done (.inr ⟨rfl,λi a b c f=>hr i a b k! c f⟩));refine AA (AJ) λu j=>AA (AJ) λv o=>AC (λ_=>Ap.done (.inl rfl)) (λn=>Ap.next ⟨k+1,o!,o!,λi a b d c f=>?_⟩ o!);by_cases m:i+1=k;have e:=j.1;rw[show((k:Int)-1).toNat=i by omega,c]at e;simp_all;exact hr i a b o! c f
theorem AHH{x:Ai}(h:U x.2.2.2.2.1<=4096):Ap (Aj (Ev x) 0) λr=>r=.inl Y\/(r=.inr ()/\vV x.2.2.2.2.1):=ACK h
theorem ADg{x}:Ap (JB x) λr=>r=V->vV x.2.2.2.2.1:=by
 have a:∀{P:Prop},Y=V->P:=λh=>by cases h
 iterate 6 refine AC (y? a) (λ_=>?_)
 refine AC (y? a) (λd=>AC (y? a) (λf=>?_));simp[len]at d f;refine AC (y? a) (λ_=>AC (y? a) (λ_=>AL (λ_=>AL (y? a) (λ_=>?_)) (λ_=>?_)));refine AA (ACK o!) λr hr=>?_;rcases hr with rfl|⟨rfl,hr⟩;exact BB (AB a);refine Ax (AA (Ib ⟨Ae _,o!⟩) λw c=>BG (λu b=>AB λe=>N! (by rw[b,e]) c) (λ_ _=>AB λ_=>hr));refine AA (AHH o!) λr hr=>?_;rcases hr with rfl|⟨rfl,hr⟩;exact BB (AB a);refine Ax (AA (Ib ⟨Ae _,o!⟩) λw c=>BG (λu b=>AB λe=>N! (by rw[b,e]) c) (λ_ _=>AB λ_=>hr))
def ACh(l:S Ai):Prop:=(∀(i:Nat)(t:Ai),l[i]?=Z t->vV t.2.2.2.2.1)/\vV (l.map λt=>t.1)
theorem ACm{x:List Ai}:Ap (C6 x) λr=>r=true->ACh x:=by
 unfold C6;refine AC (λ_=>AB (λh=>by cases h)) (λg=>?_);simp[len]at g;refine AA (P:=λr=>r= .inl false\/(r= .inr ()/\ACh x)) ?_ λr hr=>?_;rotate_left 1;grind[BB,AB,Ax];refine Ce (λ(s:Int)=> ∃k:Nat,k<=x.length/\s=k/\(∀(i:Nat) (t:Ai),i<k->x[i]? =some t->vV t.2.2.2.2.1)/\ ∀(i:Nat) (a b:Ai),i+1<k->x[i]? =some a->x[i+1]? =some b->a.1<b.1) (λs=>((x.length:Int)-s).toNat) ⟨0,BR _,rfl,λi t c=>absurd c o!,λi a b c=>absurd c o!⟩ ?_;rintro s ⟨k,A,rfl,w,hr⟩;unfold Jk;simp only[len];rw[AY (x:=(k:Int)+1),AY (x:=(k:Int)-1)];refine AC (λu=>?_) (λu=>Ap.done (.inr ⟨rfl,λi t o=>w i t (by have:=Cp o;omega) o,λi a b j l=>?_⟩));rotate_left 1;grind;refine AA (AJ) λC y=>AA ADg λD z=>AO (λ_=>Ap.done (.inl rfl)) (λB=>?_);have d: ∀(i:Nat) (t:Ai),i<k+1->x[i]? =some t->vV t.2.2.2.2.1:=λi t c o=>by by_cases m:i=k<;>grind
 refine AC (λn=>?_) (λn=>Ap.next ⟨k+1,o!,o!,d,λi a b c=>absurd c o!⟩ o!);refine AA (AJ) λE p=>AA (AJ) λF q=>AC (λ_=>Ap.done (.inl rfl)) (λv=>Ap.next ⟨k+1,o!,o!,d,λi a b c j l=>?_⟩ o!);by_cases m:i+1=k;have e:=p.1;have f:=q.1;rw[show((k:Int)-1).toNat=i by omega,j]at e;rw[show((k:Int)).toNat=i+1 by omega,l]at f;grind[Option.some.inj];exact hr i a b o! j l
theorem ACc{x:List Ah×Int}(h:x.1.length<=16777216):Ap (Dx x) λr=>r=true->x.1.length<=x.2.toNat:=by
 have u: ∀{P:Prop},false=true->P:=λh=>by cases h
 unfold Dx;refine AA (P:=λr=>r= .inl false\/(r= .inr ()/\x.1.length<=x.2.toNat)) ?_ λr hr=>?_;rotate_left 1;grind[BB,AB,Ax];refine Ce (λ(s:Int)=> ∃k:Nat,k<=x.1.length/\s=k/\ ∀d:Ah,0<k->x.1[k-1]? =some d->(k:Int)-1<=d.1/\d.1<x.2) (λs=>((x.1.length:Int)-s).toNat) ⟨0,BR _,rfl,λd f=>absurd f o!⟩ ?_;rintro s ⟨k,t,rfl,hr⟩;unfold Fh;simp only[len];rw[AY (x:=(k:Int)+1),AY (x:=(k:Int)-1)];refine AC (λj=>?_) (λj=>Ap.done (.inr ⟨rfl,?_⟩));rotate_left 1;by_cases q:x.1.length=0;omega;have:=hr _ o! (As (show k-1<x.1.length by omega));omega;refine AA (AJ) λn g=>?_;have c:=g.1;rw[show((k:Int)).toNat=k by omega]at c;refine AC (λ_=>Ap.done (.inl rfl)) (λc0=>AC (λ_=>Ap.done (.inl rfl)) (λp=>AC (λ_=>Ap.done (.inl rfl)) (λ_=>AC (λ_=>Ap.done (.inl rfl)) (λ_=>AC (λ_=>Ap.done (.inl rfl)) (λ_=>?_)))));have a:(k:Int)<=n.1-> ∀d:Ah,0<k+1->x.1[k+1-1]? =some d->((k+1:Nat):Int)-1<=d.1/\d.1<x.2:=λl d _ f=>k!
 refine AC (λe=>?_) (λe=>Ap.next ⟨k+1,o!,o!,a o!⟩ o!);refine AA (AJ) λo i=>AC (λ_=>Ap.done (.inl rfl)) (λm=>Ap.next ⟨k+1,o!,o!,a ?_⟩ o!);have b:=i.1;rw[show((k:Int)-1).toNat=k-1 by omega]at b;have:=hr o o! b;omega
theorem AD5{x}(h:SB x):Ap (Bd x) λr=>r=V->ACh x.2.2.2.2.2.1/\U x.2.2.2.2.2.2.2<=x.1.toNat:=by
 have a:∀{P:Prop},Y=V->P:=λh=>by cases h
 have b:Ap (JD x) λr=>r=V->ACh x.2.2.2.2.2.1/\U x.2.2.2.2.2.2.2<=x.1.toNat:=by
  iterate 4 refine AC (λ_=>?_) (y? a)
  exact AA Bb λ_ _=>AK (λ_=>AA D4 λ_ _=>AK (λ_=>AA (EW h.1) λ_ _=>AK (λ_=>AA ACm λv d=>AK (λc=>AA FY λ_ _=>AK (λ_=>AP (λ_=>AA (ACc h.2.2) λw e=>AB λf=>⟨d c,e f⟩) (y? a)) (y? a)) (y? a)) (y? a)) (y? a)) (y? a)
 have⟨p,g,b⟩:=b;refine Ap.of ((Bz h).mono λ_ _=>O!) λr i hr=>b ?_;grind[Bd]
def PE(l:AZ)(t:Ai)(n:Int):Prop:=∃e:AE,l.1<=n/\l.2.1[(n-l.1).toNat]?=Z e/\e.2.1=1/\e.2.2.1=t.1
def vt(l:AZ)(T:S Ai):Prop:=∀(i:Nat)(t:Ai),T[i]?=Z t->∀(j:Nat)(n:Int),t.2.2.2.2.1[j]?=Z n->PE l t n
theorem ACL{id:Int}:∀(p:S Int)(L:S AE)(f:Int),vV p->(∀(j:Nat)(n:Int),p[j]?=Z n->f<=n/\∃e:AE,L[(n-f).toNat]?=Z e/\e.2.1=1/\e.2.2.1=id)->U p<=L.countP λe=>e.2.1==1&&e.2.2.1==id
 |[],L,f,_,_=>BR _
 |a::p,L,f,hr,h=>by
  obtain⟨m,e,o,k,l⟩:=h 0 a rfl;have r:=ACL (id:=id) p (L.drop ((a-f).toNat+1)) (a+1) (λi x y d g=>hr (i+1) x y d g) λj n hn=>by have l1:=hr.lt (i:=0) rfl j n k!;have⟨_,c,b,q⟩:=h (j+1) n hn;refine⟨o!,c,?_,q⟩;rw[J6,show(a-f).toNat+1+(n-(a+1)).toNat=(n-f).toNat by omega];exact b
  have:0<(L.take ((a-f).toNat+1)).countP λe=>e.2.1==1&&e.2.2.1==id:=List.countP_pos_iff.2 ⟨e,BN (i:=(a-f).toNat) k!,k!⟩;rw[BY,(by rw[<-List.countP_append,DY]:(L.countP λe=>e.2.1==1&&e.2.2.1==id)=((L.take ((a-f).toNat+1)).countP λe=>e.2.1==1&&e.2.2.1==id)+((L.drop ((a-f).toNat+1)).countP λe=>e.2.1==1&&e.2.2.1==id))];omega
theorem AAq{a:Type}{p q r:a->Bool}(h:∀e,(p e=V->r e=V/\q e=Y)/\(q e=V->r e=V))(L:S a):L.countP p+L.countP q<=L.countP r:=by induction L<;>grind
theorem AIF{l:AZ}: ∀(T:List Ai),ACh T->vt l T->TW T<=T.length+2*l.2.1.countP λe=>e.2.1==1&&T.any λt=>t.1==e.2.2.1
 |[],_,_=>by simp[TW]
 |t::T,ho,hp=>by
  have m:=AIF T ⟨λi u c=>ho.1 (i+1) u c,λi a b d f=>ho.2 (i+1) a b d f⟩ λi u c=>hp (i+1) u c;have g:=ACL (id:=t.1) t.2.2.2.2.1 l.2.1 l.1 (ho.1 0 t rfl) λj n hn=>by have⟨e,q⟩:=hp 0 t rfl j n hn;grind
  have hn: ∀u∈T,u.1≠t.1:=λu c e=>by have⟨j,k⟩:=C2 c;have:=ho.2.lt (i:=0) (a:=t.1) rfl j u.1 (by grind);omega
  have h:=AAq (p:=λe:AE=>e.2.1==1&&e.2.2.1==t.1) (q:=λe=>e.2.1==1&&T.any λt=>t.1==e.2.2.1) (r:=λe=>e.2.1==1&&(t::T).any λt=>t.1==e.2.2.1) (λe=>⟨λq=>by
   simp at q;refine⟨by grind,?_⟩;simp only[wB];refine .inr ?_;rw[List.any_eq_false];intro u c;have:=hn u c;simp;omega,λq=>by
   simp at q;simp[q.1];exact .inr q.2⟩) l.2.1
  grind[oH]
theorem AJS{l}{T}(a:ACh T)(b:vt l T):TW T<=U T+2*sY l.2.1:=by
 have h:=AIF T a b;have:(l.2.1.countP λe=>e.2.1==1&&T.any λt=>t.1==e.2.2.1)<=sY l.2.1:=List.countP_mono_left λe _ c=>k!
 omega
variable {A:Int->Prop}{B:pR}
def HL(l:S Ai):Prop:=U l<=64/\∀t∈l,U t.2.2.2.2.1<=4097
theorem cI.hl{l}(h:cI l):HL l:=⟨h.1,λt b=>by have⟨i,a⟩:=Et.1 b;have:=(h.2 i t a).1;omega⟩
theorem HL.set{l}{i}{n:Ai}(h:HL l)(hn:U n.2.2.2.2.1<=4097):HL (l.set i n):=⟨by rw[Oy];exact h.1,λt a=>by rcases Qo a with q|q;exact h.2 t q;rw[q];exact hn⟩
theorem HL.rm{l}{id}(h:HL l):HL (yV l id):=⟨by have:=pM l id;have:=h.1;omega,λt a=>h.2 t (BS.1 a).1⟩
theorem cI.lens{l}{i:Nat}{t:Ai}(h:cI l)(a:l[i]?=Z t):U t.2.2.2.2.1<=4096:=(h.2 i t a).1
theorem AGC{x}:Ap (Eo x) λr=>r.2=0->HL r.1:=by refine AA C4 λz j=>AO (λb=>AB n!) (λb=>?_);have c:=j b;have n:=c.1;refine AA CC λA y=>AO (λb=>AB n!) (λ_=>AP (λb=>AB λ_=>c.hl) (λp=>AA (Ft k!) λB g=>AC (λb=>AB n!) (λo=>AA (AJ o! g.2.1) λC m=>?_)));have f:=c.lens m.1;refine AL (λb=>AB n!) (λ_=>AA (P:=λs=>(∃u,s=.inl u/\U u.2.2.2.2.1<=4097)\/∃u,s=.inr u/\(u.2=0->HL u.1)) ?_ λs h=>?_);refine AP (λ_=>?_) (λ_=>?_);grind[AA,Aa,AB];refine AA (P:=λs=>(∃u,s=.inr u/\U u.2.2.2.2.1<=4097)\/∃u,s=.inl u/\(u.2=0->HL u.1)) (AP (λ_=>AA (MS ⟨Ae _,k!,f,q!⟩) λq k=>AP (y? (.inr ⟨_,rfl,n!⟩)) (y? (.inl ⟨_,rfl,k!⟩))) (λ_=>AP (y? (.inl ⟨_,rfl,k!⟩)) (λ_=>AA (HS k!) λt d=>AB (.inr ⟨_,rfl,λ_=>by rw[d];exact c.hl.rm⟩)))) λs h=>?_;grind[Ax,AB,BB];rcases h with⟨u,rfl,i⟩|⟨u,rfl,i⟩;refine BB (AA (Jl o!) λv l=>AA (JA k! ⟨k!,g.2.1⟩) λw e=>AB λ_=>?_);rw[e];exact c.hl.set k!;exact Ax (AB i)
def AN(n c:Int)(L:S AE)(m:Nat)(a:Ci):Prop:=a.1=n/\HL a.2.2.2.1/\U a.2.2.2.2.2.1<=m/\a.2.2.1=c/\yl n L a.2.2.2.2.2.1 a.2.2.2.2.2.2
theorem gw{x:Ci×AE}{n c:Int}{L:List AE}{m:Nat}(h:AN n c L m x.1)(f:m<=1000000)(d:EOK n L x.2)(e: ∀p,Be L p<x.2.1):Ap (Mw x) λr=>r.2=0->AN n c (L++[x.2]) (m+1) r.1:=by
 unfold Mw;have⟨a1,a2,a3,a5,a6⟩:=h;have a4:=a2.1;repeat' with_reducible first|refine AC ?_ ?_<;>intro b|refine AL ?_ ?_<;>intro b|refine AK ?_ ?_<;>intro b|(refine BL ?_;try dsimp only)|refine Bp ?_|refine B8 ?_|refine NH ?_|(refine BB ?_;try dsimp only)|(refine Ax ?_;try dsimp only)|refine AB ?_|(refine AA AGC ?_;intro r hr)|(refine AM ?_ (Fs ?_);intro r hr)|(refine AA (UI) ?_;intro r hr)|(refine AA (U8) ?_;intro r hr)|(refine AA (CO) ?_;intro r hr)|(refine AM ?_ (eO ?_);intro r hr)
 all_goals try dsimp[len]at*
 all_goals first|omega|(intro a;exact absurd a (by assumption))|(intro a;exact absurd a (by decide))|(intro _;unfold AN;refine⟨by first|assumption|grind,by grind,by first|omega|grind,by first|assumption|grind,?_⟩;exact vj a6 d e (by assumption) (by assumption) (by assumption))|grind
theorem Vr{x}:Ap (Nt x) λr=>∀w∈r.1,w.1=0:=by refine AC (y? q!) (λ_=>AC (y? q!) (λ_=>?_));grind[AA,zP,AB]
theorem eQ{x:AZ×Int}(n:De x.1)(u:x.1.1=1)(m:LI x.2 x.1.2.1):Ap (QE x) λr=>r.2=0->∃k:Nat,k<=U x.1.2.1/\AN x.2 k (x.1.2.1.take k) 65536 r.1:=by
 refine AA bg λv j=>AO (λ_=>?_) (λb=>?_);refine AC (λb=>AB n!) (λ_=>AA Vr λy l=>AB λ_=>⟨0,BR _,rfl,⟨q!,λt o=>by simp at o⟩,q!,rfl,λp _ _=>⟨q!,λw q=>by have:=l w (BN q);exact⟨by rw[this];exact Ae _,λ_=>this⟩⟩⟩)
 have⟨⟨d,f⟩,i,e,a,g,s,h⟩:=j b;refine AL (λb=>AB n!) (λhn=>AB λ_=>⟨i+1,Cp a,rfl,d.2.2.1.hl,f,?_,?_⟩);have:=(n.2.2.2.2.2 i e a).1;grind;rw[Cr,a];exact((m i e a).2.2 g _ h hn).other o!
theorem gv{x}:Ap (Ff x) λr=>True:=by exact AL (y? trivial) (λ_=>AL (y? trivial) (y? trivial))
theorem Zy{x:List Av×Av}{s:Int}(h:0<=s/\s<=θ x.1/\(θ x.1:Int)<=16777216):Ap (Aj (OT x) s) λr=>0<=r/\r<=θ x.1:=by
 refine AW (λ(s:Int)=>0<=s/\s<=θ x.1/\(θ x.1:Int)<=16777216) (λ(s:Int)=>((θ x.1:Int)-s).toNat) h (λs a=>?_);unfold OT;exact x!
theorem gy{x:S Av×Av}(h:U x.1<=1000000):Ap (Q8 x) λr=>U r<=U x.1+1:=by
 refine AA (Zy ⟨Ae _,o!⟩) λp c=>?_;have main:Ap (σ (Xf x.1 0 p) λa=>
 σ (Xf x.1 p (len x.1)) λb=>
 σ (app [] a) λd=>
 σ (app d ([x.2]:S (Int×((Int×Int)×Int)))) λe=>
 σ (app e b) λf=>
 Z f) λr=>U r<=U x.1+1:=by refine AA (Bg (Ae _) c.1 c.2) λa g=>AA (Bg c.1 k! k!) λb i=>?_;grind[AA,Aa,AB]
 refine AC (λj=>?_) (λ_=>main);exact AA (AJ c.1 j) λk _=>AK (y? o!) (λ_=>main)
theorem eP{x:AZ×List Ai}(h:HL x.2):Ap (L4 x) λr=>r.1.length<=262208/\(r.2=0->vt x.1 x.2):=by
 unfold L4;have S:=h.1;refine AA (P:=λr=>(∀u,r= .inl u->u.1.length<=262208/\u.2≠0)/\ ∀u,r= .inr u->u.length<=262208/\vt x.1 x.2) ?_ λr hr=>BG (λu a=>AB ⟨(hr.1 u a).1,λG=>absurd G (hr.1 u a).2⟩) (λu a=>AB ⟨(hr.2 u a).1,λ_=>(hr.2 u a).2⟩);refine AW (λ(s:List Av×Int)=>0<=s.2/\s.2<=x.2.length/\s.1.length<=4097*s.2/\ ∀(i:Nat) (t:Ai),(i:Int)<s.2->x.2[i]? =some t-> ∀(j:Nat) (n:Int),t.2.2.2.2.1[j]? =some n->PE x.1 t n) (λ(s:List Av×Int)=>((x.2.length:Int)-s.2).toNat) ⟨Ae _,k!,q!,λi t k=>absurd k d!⟩ (λs E=>?_);have⟨H,T,U,p⟩:=E;unfold S0;rw[(AY (x:=s.2+1))];refine AC (λb=>?_) (λb=>AB ⟨λu a=>(by cases a),λu a=>?_⟩);rotate_left 1;cases a;simp only[len]at b;exact⟨o!,λi t o=>p i t (by have:=Cp o;omega) o⟩;simp[len]at b;have⟨t,M,y⟩:=AJ (l:=x.2) H b;have X:=h.2 t y.2;refine AA (P:=λr=>(∀u,r= .inl u->u.1.length<=262208/\u.2≠0)/\ ∀u,r= .inr u->u.length<=4097*(s.2+1)/\ ∀(j:Nat) (n:Int),t.2.2.2.2.1[j]? =some n->PE x.1 t n) ?_ λr hr=>?_
 ·refine AW (λ(q:List Av×Int)=>0<=q.2/\q.2<=t.2.2.2.2.1.length/\q.1.length<=4097*s.2+q.2/\ ∀(j:Nat) (n:Int),(j:Int)<q.2->t.2.2.2.2.1[j]? =some n->PE x.1 t n) (λ(q:List Av×Int)=>((t.2.2.2.2.1.length:Int)-q.2).toNat) ⟨Ae _,k!,k!,λj n m=>absurd m d!⟩ (λq F=>?_);have⟨I,V_,W_,v⟩:=F;unfold S1;rw[M];apply BL;rw[(AY (x:=q.2+1))];refine AC (λb=>?_) (λb=>AB ⟨λu a=>(by cases a),λu a=>?_⟩);rotate_left 1;cases a;simp only[len]at b;exact⟨o!,λj n hn=>v j n (by have:=Cp hn;omega) hn⟩;simp[len]at b;refine BL (AA (AJ I b) λY B=>AA HH λN C=>AL (λ_=>AB ⟨λu a=>(by cases a;exact⟨q!,q!⟩),λu a=>(by cases a)⟩) (λQ=>AL (λ_=>AB ⟨λu a=>(by cases a;exact⟨q!,q!⟩),λu a=>(by cases a)⟩) (λJ=>BL (AL (λ_=>AB ⟨λu a=>(by cases a;exact⟨q!,q!⟩),λu a=>(by cases a)⟩) (λO=>AA (gy k!) λZ D=>AB ?_)))));dsimp only at D;obtain⟨_,R,z,A⟩:=C.1 Q;refine⟨⟨d!,d!,d!,λj n m hn=>?_⟩,d!⟩;dsimp only at m;by_cases c:(j:Int)<q.2;exact v j n c hn;have f:=B.1;rw[show q.2.toNat=j by omega,hn]at f;have e:=Ba f;subst e;exact⟨N.1,A,z,J,O⟩
 refine BG (λu a=>AB ⟨λw d=>(by cases d;exact hr.1 u a),λw d=>(by cases d)⟩) (λu a=>AB ?_);obtain⟨K,L⟩:=hr.2 u a;refine⟨⟨d!,d!,K,λi w k d=>?_⟩,d!⟩;dsimp only at k;by_cases c:(i:Int)<s.2;exact p i w c d;have g:=y.1;rw[show s.2.toNat=i by omega,d]at g;rw[Ba g];exact L
theorem Zx{x:AZ×Int}(c:De x.1)(M:x.1.1=1)(G:LI x.2 x.1.2.1):Ap (KQ x) λr=>r.2=0->r.1.1=x.2/\HL r.1.2.2.2.1/\r.1.2.2.2.2.1.length<=262208/\r.1.2.2.2.2.2.1.length<=70000/\yl x.2 x.1.2.1 r.1.2.2.2.2.2.1 r.1.2.2.2.2.2.2/\vt x.1 r.1.2.2.2.1:=by
 unfold KQ;refine AA Bb λv Q=>AO (λ_=>AB n!) (λa=>?_);have O:=Q.1 a;have H:=O.2.2.1;refine AC (λ_=>AB n!) (λ_=>AC (λ_=>AB n!) (λ_=>AA (eQ c M G) λv1 I=>AL (λa=>AB λb=>absurd b a) (λD=>?_)));have⟨k,N,K⟩:=I D;refine AA (P:=λr=>(∀u,r= .inl u->u.1≠0)/\ ∀u,r= .inr u->AN x.2 k x.1.2.1 70000 u.1) ?_ λr hr=>BG (λu d=>AB λb=>absurd b (hr.1 u d)) (λu d=>?_);refine AW (λ(s:Int×Ci×Ci)=>0<=s.1/\s.1<=x.1.2.1.length/\AN x.2 k (x.1.2.1.take (max k s.1.toNat)) (65536+s.1.toNat) s.2.1) (λ(s:Int×Ci×Ci)=>((x.1.2.1.length:Int)-s.1).toNat) ⟨Ae _,d!,by simpa using K⟩ (λs z=>?_);have⟨n,R,f⟩:=z;unfold Q6;have e:=AY (x:=s.1+1);rw[e];refine AC (λa=>?_) (λ_=>AB ⟨λu d=>(by cases d),λu d=>?_⟩);simp[len]at a;have en:(s.1+1).toNat=s.1.toNat+1:=o!
 refine AA (AJ n a) λv3 J=>?_;have n3:=(c.2.2.2.2.2 _ _ J.1).1;refine AC (λB=>AB ⟨⟨d!,d!,?_⟩,d!⟩) (λB=>?_);have⟨q1,q2,q3,q4,q5⟩:=f;have o:max k (s.1+1).toNat=max k s.1.toNat:=o!
 exact⟨q1,q2,d!,q4,by dsimp only;rw[o];exact q5⟩;have q4:=f.2.2.2.1;have o:max k s.1.toNat=s.1.toNat:=o!
 rw[o]at f;refine AA (AJ n a) λZ_ F=>?_;have m:x.1.2.1.take (max k (s.1+1).toNat)=x.1.2.1.take s.1.toNat++[Z_]:=by grind[List.take_add_one]
 refine AA (gw f o! (G _ _ F.1) λp=>?_) λv5 h5=>?_;have n4:=(c.2.2.2.2.2 _ _ F.1).1;refine ou _ _ d! λe L=>?_;have⟨j,A⟩:=C2 L;have C:=Cp A;rw[BQ]at C;rw[IJ o!]at A;have:=(c.2.2.2.2.2 j e A).1;dsimp only;omega;grind[AL,AB];cases d;have⟨q1,q2,q3,q4,q5⟩:=f;simp[len]at*;rw[BO o!]at q5;exact⟨q1,q2,o!,q4,q5⟩;have⟨q1,q2,q3,_,q5⟩:=hr.2 u d;have S:=q2.1;refine AA (P:=λl=>HL l) ?_ λX h=>?_;refine AW (λ(s:Int×List Ai)=>0<=s.1/\s.1<=u.1.2.2.2.1.length/\s.2.length<=s.1/\ ∀t∈s.2,t.2.2.2.2.1.length<=4097) (λ(s:Int×List Ai)=>((u.1.2.2.2.1.length:Int)-s.1).toNat) ⟨Ae _,d!,q!,λt m=>by simp at m⟩ (λs z=>?_);have⟨n,R,f,E⟩:=z;unfold Q7;have e:=AY (x:=s.1+1);rw[e];refine AC (λa=>?_) (λ_=>AB ⟨o!,E⟩);simp[len]at a;refine AA (AJ n a) λT _=>AA (P:=λl=>l.length<=s.2.length+1/\ ∀t∈l,t.2.2.2.2.1.length<=4097) ?_ λW g=>AB ⟨⟨d!,d!,by have:=g.1;dsimp only;omega,g.2⟩,d!⟩;refine AC (λ_=>AA (AJ n a) λU q=>AA (Aa w!) λV y=>AB ⟨?_,λt m=>?_⟩) (λ_=>AB ⟨o!,E⟩);grind;rw[y.1]at m;rcases Am.1 m with w|w;exact E t w;simp at w;rw[w];exact q2.2 _ q.2;exact AA (eP h) λY i=>AL (λa=>AB λb=>absurd b a) (λb=>AB λ_=>⟨q1,h,i.1,q3,q5,i.2 b⟩)
theorem Vq{x}:Ap (Ki x) λr=>r.1.2.1=[]:=by
 unfold Ki;exact x!
theorem eR{x:AZ×Ci×Int}(G:De x.1)(h:HL x.2.1.2.2.2.1/\x.2.1.2.2.2.2.1.length<=262208/\x.2.1.2.2.2.2.2.1.length<=70000)(E:LI x.2.1.1 x.1.2.1)(m:yl x.2.1.1 x.1.2.1 x.2.1.2.2.2.2.2.1 x.2.1.2.2.2.2.2.2)(H:vt x.1 x.2.1.2.2.2.1):Ap (L5 x) λr=>r.2=0->r.1.1=x.2.1.1/\SK (A,(sY x.1.2.1,x.1.2.1.length+x.2.1.1.toNat+128+2*sY x.1.2.1)) r.1/\De r.1.2.2.1/\LX x.1 r.1.2.2.1:=by
 unfold L5;have⟨a1,a2,a3⟩:=h;have a4:=a1.1;refine AA Vq λI j=>AL (λ_=>AB n!) (λ_=>?_);generalize d:((x.2.1.1,(x.2.1.2.1,(x.1,(I.1,((x.2.1.2.2.2.2.1,[]),(x.2.1.2.2.2.1,(x.2.1.2.2.2.2.2.2,x.2.1.2.2.2.2.2.1))))))):AQ)=k0;have a:SB k0:=by rw[<-d];exact⟨⟨k!,q!⟩,k!,k!⟩
 refine AA ((Bz a).and (AD5 a)) λM n=>AO (λ_=>AB n!) (λl=>?_);obtain⟨y,hn⟩:=n.2 l;generalize K:x.1.2.1.length+x.2.1.1.toNat+64+2*sY x.1.2.1=b;have F:SK (A,(sY x.1.2.1,b)) k0:=by rw[<-d]at a y hn⊢;have f:=AJS y H;refine⟨a.1,a.2.1,a.2.2,E,λp o q=>⟨k!,(m p o q).1,λw f=>⟨((m p o q).2 w f).1,λhn _=>((m p o q).2 w f).2 hn⟩⟩,by unfold FD;dsimp only;rw[j];simp,Nat.le_refl _,?_⟩;unfold PH;dsimp only at hn f⊢;rw[j];simp only[DN,List.countP_nil];omega
 have B:k0.1=x.2.1.1:=by rw[<-d]
 have t:k0.2.2.1=x.1:=by rw[<-d]
 refine AA (P:=λr=>(∀u,r= .inl u->u.1≠0)/\ ∀u,r= .inr u->KL (A,(sY x.1.2.1,b+64)) k0 u.1) ?_ λr hr=>BG (λu c=>AB λe=>absurd e (hr.1 u c)) (λu c=>AB λ_=>?_);refine AW (λ(s:Int×AQ×AQ)=>0<=s.1/\s.1<=x.2.1.2.2.2.1.length/\KL (A,(sY x.1.2.1,b+s.1.toNat)) k0 s.2.1) (λ(s:Int×AQ×AQ)=>((x.2.1.2.2.2.1.length:Int)-s.1).toNat) ⟨Ae _,k!,KL.refl F (by rw[t];exact G)⟩ (λs D=>?_);have⟨z,L,g⟩:=D;unfold S2;rw[(AY (x:=s.1+1))];have J:(s.1+1).toNat=s.1.toNat+1:=o!
 refine AC (λi=>?_) (λ_=>AB ⟨λu c=>(by cases c),λu c=>(by cases c;exact g.up (Al _) d!)⟩);simp[len]at i;refine AA (AJ z i) λN _=>AP (λ_=>AB ⟨⟨d!,d!,g.up (Al _) d!⟩,d!⟩) (λ_=>AA (AJ z i) λO _=>AA (GH g.2.2.1.sb) λQ C=>AL (λi=>AB ⟨λu c=>(by cases c;exact i),λu c=>(by cases c)⟩) (λe=>?_));have k:=(C e).2.1;have f:=k.2.2.2.2.2.1.w.1 (by show(4:Int)≠1;decide);refine AB ⟨⟨d!,d!,g.trans (k.kl (v:=(sY x.1.2.1,b+(s.1+1).toNat)) g.2.2.1 u! (k.rm g.2.2.1.ki.rm (by show _+(if(4:Int)=1 then 1 else 0)<=_;simp) (by dsimp only at f⊢;omega)))⟩,d!⟩;obtain⟨q1,q2,q3,q4⟩:=hr.2 u c;exact⟨q1.trans B,q3.up (Al _) d!,q4,by rw[<-t];exact q2⟩
end Go.Pm
namespace Go.Pm
open Go Go.Ab
variable {B:pR}
theorem iD{x:AU×Int×Cu}(h:SK B x.1.1)(p:De x.1.1.2.2.1)(o:DJ B x.1.1.2.2.1 x.1.2):Ap (M0 x) λr=>SR B x.1 r.1/\(r.2.1≠0->TP r.1.1.2.2.2.2.2.1<TP x.1.1.2.2.2.2.2.1):=by
 unfold M0;refine AA (P:=λr=>SR B x.1 r.2.2/\(r.1≠0->TP r.2.2.1.2.2.2.2.2.1<TP x.1.1.2.2.2.2.2.1)) ?_ λr hr=>AB hr;refine AW (λs=>SR B x.1 s.2.1/\TP s.2.1.1.2.2.2.2.2.1<=TP x.1.1.2.2.2.2.2.1/\(s.1≠0->TP s.2.1.1.2.2.2.2.2.1<TP x.1.1.2.2.2.2.2.1)) (λs=>2*TP s.2.1.1.2.2.2.2.2.1+flag (¬ny s.2.1.1.2.2.2.1 x.2.2.1)) ⟨⟨KL.refl h p,o⟩,Al _,λe=>N! rfl e⟩ (λs d=>?_);obtain⟨d,v,j⟩:=d;have k:=d.1.2.2;unfold UO;refine AA (gq k.1 k.2) λw n=>?_;obtain⟨k1,q,t⟩:=n;refine AP (y? ⟨d,j⟩) (λm=>AA (P:=λr=>(∃u,r=.inl u/\u.1=s.1/\u.2.2=s.2.1)\/∃u,r=.inr u/\SR B s.2.1 u.2.1/\(TP u.2.1.1.2.2.2.2.2.1<TP s.2.1.1.2.2.2.2.2.1\/(u.1=s.1/\TP u.2.1.1.2.2.2.2.2.1=TP s.2.1.1.2.2.2.2.2.1/\ny u.2.1.1.2.2.2.1 x.2.2.1/\¬ny s.2.1.1.2.2.2.1 x.2.2.1))) ?_ λr hr=>?_);apply AP<;>intro l;obtain⟨a,b,c⟩:=q l;refine AA (H6 k.1 d.2) λy i=>AL (y? (.inl ⟨_,rfl,rfl,rfl⟩)) (λe=>AB (.inr ⟨_,rfl,(i e).1.sr,.inr ⟨rfl,?_,?_,b⟩⟩));have:=(i e).1.1.2.2.2.2.1;exact E! TP this;have:=(i e).2;rw[a]at this;exact this;refine AP (y? (.inl ⟨_,rfl,rfl,rfl⟩)) (λc0=>AB (.inr ⟨_,rfl,⟨k1,d.2.up k1.2.1⟩,.inl (t l m c0)⟩));rcases hr with⟨u,rfl,g⟩|⟨u,rfl,g⟩;refine BB (AB ?_);dsimp only;rw[g.1,g.2];exact⟨d,j⟩;refine Ax (AB ?_);obtain⟨q1,q2⟩:=g;rcases q2 with q2|⟨q2,q3,q4,q5⟩;have f:=AB6 (¬ny u.2.1.1.2.2.2.1 x.2.2.1);exact⟨⟨d.trans q1,o!,λ_=>o!⟩,by first|omega|(dsimp only;omega)⟩;refine⟨⟨d.trans q1,o!,λe=>by rw[q3];exact j (by rw[<-q2];exact e)⟩,?_⟩;try dsimp only
 rw[xq q5,xo (· q4),q3];omega
theorem S3{x:AQ×Int}(h:SB x.1):Ap (Ic x) λr=>True:=by unfold Ic;refine AA (Bz h) λv c=>AA (P:=λ_=>True) ?_ λr _=>BG (λ_ _=>AB trivial) (λ_ _=>AB trivial);refine AK (λ_=>?_) (y? trivial);refine AA (Fs h.2.1) λd a=>AC (λb=>?_) (y? trivial);refine AA (AJ b a.2.1) λ_ _=>AP (λ_=>?_) (y? trivial);exact AA (AJ b a.2.1) λ_ _=>AB trivial
theorem Z0{x:AQ}{s:Int×List Int}(h:0<=s.1/\s.1<=θ x.2.2.2.2.2.1/\θ x.2.2.2.2.2.1<=16777216/\θ s.2<=s.1/\SB x):Ap (Aj (OU x) s) λr=>True:=by
 refine AW (λ(s:Int×List Int)=>0<=s.1/\s.1<=θ x.2.2.2.2.2.1/\θ x.2.2.2.2.2.1<=16777216/\θ s.2<=s.1/\SB x) (λ(s:Int×List Int)=>((θ x.2.2.2.2.2.1:Int)-s.1).toNat) h (λs c=>?_);unfold OU;exact x!
theorem gz{x}(h:SK B x):Ap (Mx x) λr=>True:=by unfold Mx;exact AA (Z0 ⟨Ae _,d!,h.2.1,q!,h.sb⟩) λ_ _=>AB trivial
theorem Xb{x:AQ×Int}{c:Av×Bool}{a:List Int}{s:Int×Cu}(h:0<=s.1/\s.1<=θ a/\θ a<=16777216/\SB x.1):Ap (Aj (LR x c a) s) λr=>True:=by
 refine AW (λ(s:Int×Cu)=>0<=s.1/\s.1<=θ a/\θ a<=16777216/\SB x.1) (λ(s:Int×Cu)=>((θ a:Int)-s.1).toNat) h (λs d=>?_);unfold LR;exact x!
theorem Zz{x:AQ×Int}(h:SK B x.1):Ap (KR x) λr=>True:=by unfold KR;refine AA (Iv h.1) λb _=>AO (y? trivial) (λ_=>AA (Ls h.1) λc a=>AA (Xb ⟨Ae _,d!,o!,h.sb⟩) λr _=>BG (λ_ _=>AB trivial) (λ_ _=>AB trivial))
theorem kY{x:AU×Int×Cy}(h:SK B x.1.1)(m:De x.1.1.2.2.1)(l:DJ B x.1.1.2.2.1 x.1.2):Ap (PV x) λr=>SR (B.up 1 4) x.1 r.1:=by
 unfold PV;refine AA (P:=λr=>SR (B.up 1 4) x.1 r.1) ?_ λr hr=>AB hr;refine AW (SR B x.1 ·.1) (TP ·.1.1.2.2.2.2.2.1) ⟨KL.refl h m,l⟩ (λs c=>?_);have g:=c.1.2.2;unfold Vy;refine AA (kX g.1 g.2 c.2) λp e=>?_;have b:=c.trans e.1;refine AL (y? b) (λk=>?_);obtain⟨o,n⟩:=e.2 k;have d:SR B x.1 p.1:=⟨⟨b.1.1,b.1.2.1,n,b.1.2.2.2⟩,b.2⟩
 have a:=d.1.2.2;refine AA (Zz a.1) λt _=>AO (y? b) (λ_=>AA (iD a.1 a.2 d.2) λq f=>?_);have i:=d.trans f.1;have j:SR (B.up 1 4) x.1 q.1:=i.up (Nat.le_add_right _ _) (Nat.le_add_right _ _);refine AL (λ_=>?_) (λ_=>?_);exact AA B0 λu _=>AB j;refine AP (y? j) (λc0=>AB ⟨i,?_⟩);have:=f.2 c0;dsimp only at*;rw[o]at this;exact this
theorem iC{x:AU}(h:SK B x.1)(p:De x.1.2.2.1)(g:DJ B x.1.2.2.1 x.2):Ap (Mz x) λr=>r.2.2=0->SR B x r.1:=by
 unfold Mz;refine AA (Bz h.sb) λv H=>AO (y? n!) (λc=>AC (λc=>?_) (λ_=>?_));simp only[len]at c;refine AA (AJ (Ae _) c) λJ _=>AA (H6 h g) λK y=>AB λa=>(y a).1.sr;refine AA (gz h) λF _=>AP (y? λ_=>⟨KL.refl h p,g⟩) (λk=>?_);simp only[len]at k;refine AA (P:=λr=>r.2.1=0->SR B x r.2.2) ?_ λr hr=>AB hr;obtain⟨id,t,G⟩:=(AJ (l:=F) (i:=0) (Ae _))
 refine AW (SR B x ·.1) (λs=>flag (∃e,NX s.1.1 id e/\¬ny s.1.1.2.2.2.1 e.2.2.2.2.2.2.1.1)) ⟨KL.refl h p,g⟩ (λs b=>?_);have j:=b.1.2.2;unfold UN;rw[t];apply BL;refine AA (VD j.1 j.2) λL A=>?_;obtain⟨k1,C,I,D⟩:=A;refine AP (λz=>AB λa=>N! a (D z)) (λ_=>AL (y? λ_=>⟨b.1.trans k1,b.2.up k1.2.1⟩) (λq=>?_));obtain⟨e,n,u,w⟩:=C q;refine AA (H6 j.1 b.2) λM o=>AL (λc=>AB λa=>N! a c) (λa=>AB ⟨b.trans (o a).1.sr,?_⟩);obtain⟨m,d⟩:=o a;have E:=m.1.2.2.2.2.1;rw[xq (⟨e,n,w⟩:∃e,NX s.1.1 id e/\¬ny s.1.1.2.2.2.1 e.2.2.2.2.2.2.1.1),xo];omega;rintro⟨f,q1,q2⟩;have:=n.uniq q1 E m.1.2.1;subst this;dsimp only at d;rw[u]at d;exact q2 d
end Go.Pm
namespace Go.Pm
open Go Go.Ab
def runN{S R:Type}(f:S->T (Step S R)):Nat->S->T R
 |0,_=>W
 |n+1,s=>
  match f s with
  |some (.next s')=>runN f n s'
  |some (.done r)=>Z r
  |none=>W
theorem yX{S R:Type}{f:S->T (Step S R)}{r:R}:∀{n:Nat}{s:S},runN f n s=Z r->Aj f s=Z r
 |0,s,h=>by cases h
 |n+1,s,h=>by simp only[runN]at h;rw[HX];split at h;rename_i b e;rw[e];exact yX h;rename_i a e;rw[e];exact h;cases h
def Ue:BZ:=[80,77,76,71,1,0,0,0,0,0,0,0]
theorem AHR:An (([80,77,76,71]:S UInt8),1,8)=Z Ue:=by rw[(by kernel_rfl:An (([80,77,76,71]:S UInt8),1,8)=σ (Aj (Gm (([80,77,76,71]:S UInt8),1,8)) (([80,77,76,71]:S UInt8),0)) λa=>Z a),yX (n:=10) (r:=Ue) h!];rfl
theorem AGy:Az (Ue,4,8)=Z (1,0):=by rw[(by kernel_rfl:Az (Ue,4,8)=σ (Aj (Gl (Ue,4,8)) (0,0)) λa=>Z (wi a,0)),yX (n:=10) (r:=1) h!];rfl
theorem na(a b:S AE):Kp (a++b)=Kp a++Kp b:=by grind[Kp]
theorem AI5:Mn 1=Z (Ht Ue):=by unfold Mn;rw[AHR,AD,cE g!,AD]
theorem AGv{e}(h:MI e):I7 e=Z (Ht (By e)):=by grind[I7,rC,cE,Sf]
theorem De.ent{l}(h:De l){e:AE}(a:e∈l.2.1):MI e:=by have⟨k,b⟩:=Et.1 a;exact(h.2.2.2.2.2 k e b).2
theorem AGf{l}{a:Int}(h:De l)(D:l.1=1):Ap (HG (l,a)) λr=>∃m:Nat,r=Ht Ue++(Kp (l.2.1.take l.2.2.toNat)++(Kp (l.2.1.drop l.2.2.toNat)).take m):=by
 have O:=h.2.2.1;have Q:=h.2.2.2.1;have R:=h.2.2.2.2.1;have b:∀k:Ψ AE,(∀e∈k,e∈l.2.1)->(Kp k).length<=8400*U k:=λk w=>se λe d=>h.ent (w e d);have⟨v,H,g⟩:=Bb (x:=l);have g:=g.2 h;subst g;unfold HG;dsimp only;rw[H,AD,B9,A!,D,AI5,AD];refine AA (P:=λr=>r=(Ht Ue++Kp (l.2.1.take l.2.2.toNat),Kp (l.2.1.drop l.2.2.toNat))) ?_ λK o=>?_
 ·refine Ce (λs=>∃k:Nat,k<=U l.2.1/\s=(Ht Ue++Kp ((l.2.1.take k).take l.2.2.toNat),Kp ((l.2.1.take k).drop l.2.2.toNat),(k:Int))) (U l.2.1-·.2.2.toNat) ⟨0,BR _,by simp[Kp]⟩ ?_;rintro s ⟨k,w,rfl⟩;unfold Sp;dsimp[len];refine AC (λB=>?_) (λB=>k? (by rw[BO (l:=l.2.1) (i:=k) o!]));have f:k<U l.2.1:=o!
  have I:ix l.2.1 (k:Int)=Z l.2.1[k]:=by unfold ix;rw[C! o!,s?,m? f]
  have j:=h.2.2.2.2.2 k _ (As f);have t:l.2.1.take (k+1)=l.2.1.take k++[l.2.1[k]]:=t!
  have E:(l.2.1.take k).length=k:=k!
  have y:(Ht Ue++Kp ((l.2.1.take k).take l.2.2.toNat)).length<=40000000:=by
   have:=b ((l.2.1.take k).take l.2.2.toNat) λe d=>GY (GY d);have c:(Ht Ue).length=20:=by rw[E2];rfl
   grind[n?,r?]
  have z:(Kp ((l.2.1.take k).drop l.2.2.toNat)).length<=40000000:=k!
  have C:=Sf j.2;rw[I,AD,AD,AD,AGv j.2,AD,AD,AY (x:=(k:Int)+1)];refine AA (P:=λr=>r=(Ht Ue++Kp ((l.2.1.take (k+1)).take l.2.2.toNat),Kp ((l.2.1.take (k+1)).drop l.2.2.toNat))) ?_ λJ n=>?_;apply AC<;>intro S;have q:k+1<=l.2.2.toNat:=o!
  refine AA (CL (by rw[E2];omega)) λN u=>AB ?_;grind[List.drop_of_length_le,r?,List.take_of_length_le,Sh,t?];have q:l.2.2.toNat<=k:=o!
  refine AA (CL (by rw[E2];omega)) λN u=>AB ?_;rw[u.1,t,WD o!,lM o!,Sh]
  ·rw[n];exact y! ⟨k+1,f,by rw[show(k:Int)+1=((k+1:Nat):Int) by omega]⟩ d!
 subst o;dsimp[len];have A:∃m:Nat,(if(((Kp (l.2.1.drop l.2.2.toNat)).length:Int)<(if(0>a)then 0 else a))then((Kp (l.2.1.drop l.2.2.toNat)).length:Int)else(if(0>a)then 0 else a))=(m:Int)/\m<=(Kp (l.2.1.drop l.2.2.toNat)).length:=by refine⟨(if(((Kp (l.2.1.drop l.2.2.toNat)).length:Int)<(if(0>a)then 0 else a))then((Kp (l.2.1.drop l.2.2.toNat)).length:Int)else(if(0>a)then 0 else a)).toNat,?_,?_⟩;split<;>split<;>omega;split<;>split<;>omega
 have⟨m,F,G⟩:=A;rw[F];refine AA (Ca (Ae _)) λL c=>?_;have y:(Ht Ue++Kp (l.2.1.take l.2.2.toNat)).length<=40000000:=by
  have:=b (l.2.1.take l.2.2.toNat) λe d=>GY d;have c:(Ht Ue).length=20:=by rw[E2];rfl
  rw[Ac];rw[BQ]at this;omega
 have z:(Kp (l.2.1.drop l.2.2.toNat)).length<=40000000:=by have:=b (l.2.1.drop l.2.2.toNat) λe d=>TO d;rw[DB]at this;omega
 refine AA (CL (by have:=c.2;omega)) λM p=>AB ⟨m,?_⟩;rw[p.1,c.1,A6];simp
theorem AJv{n:Nat}(h:n<=8392):cF 4 (n:Int):=⟨λ_=>k!,o!⟩
theorem AGx{p q s t:BZ}(d:U p<=8392)(e:U q<=8392)(h:Ht p++s=Ht q++t):p=q/\s=t:=by
 have c:U p=U q:=by have a:=h;unfold Ht at a;simp at a;have:=(Eg a (by rw[A2,A2])).1;have:=YC g! (AJv d) (AJv e) this;omega
 have⟨b,f⟩:=Eg h (by rw[E2,E2,c]);have g:=(Eg b k!).2;grind[List.append_inj]
theorem AJH{b:Ψ AE}{t y z:BZ}{d}(hn:θ b<=4096)(D:∀(i:Nat)(e:AE),b[i]?=δ e->e.1=1+i/\MI e)(G:t++y=Kp b)(M:t=Kp (b.take d)++z):Ap (Ju (Ht Ue++t)) λr=>r.2=0->∃k:Nat,k<=θ b/\min d (θ b)<=k/\r.1=(1,b.take k,(k:Int)):=by
 have S:=se (l:=b) λe A=>by obtain⟨k,m⟩:=Et.1 A;exact(D k e m).2
 have U:θ t<=40000000:=by have:=E! θ G;rw[Ac]at this;omega
 have C:(Ht Ue).length=20:=by rw[E2];rfl
 have W_:(Ht Ue++t).length<=50000000:=by rw[Ac];omega
 unfold Ju;have o:CV (Ht Ue++t,0)=δ (Ue,20,0):=by refine(V9 (a:=[]) (t:=Ht Ue++t) w!).trans (E! δ ?_);rw[mr g!];rfl
 rw[o,AD];dsimp only;rw[show((0:Int) !=0)=η by decide,A!,show(len Ue !=12)=η by decide,A!,show SL Ue 0 4=δ [80,77,76,71]from rfl,AD,H!,A!,AGy,AD];dsimp only;rw[F! g!,A!,F! g!,A!,show wi ((1:Int)-1)=0 from rfl];refine AA (P:=λr=>∃k:Nat,k<=θ b/\min d (θ b)<=k/\((∃u,r=.inl u/\u.2=(1,b.take k,(k:Int)))\/∃u,r=.inr u/\(u.2.1,u.1,u.2.2.1)=(1,b.take k,(k:Int)))) ?_ λr hr=>?_
 ·refine Ce (λs=>∃(k:Nat)(z:AZ)(c:BZ),k<=θ b/\s=(((Ht Ue++Kp (b.take k)).length:Int),b.take k,1,(k:Int),z)/\t=Kp (b.take k)++c) (θ b-θ ·.2.1) ⟨0,(0,[],0),t,BR _,by simp[Kp,C],by simp[Kp]⟩ ?_;rintro s ⟨k,z,c,m,rfl,hr⟩;have E:(b.take k).length=k:=by rw[BQ];omega
  have H:k<min d (θ b)->∃p R,θ p<=8392/\c=Ht p++R:=λn=>by
   have g:k<θ b:=o!
   have N:b.take d=b.take (k+1)++(b.take d).drop (k+1):=by
    conv=>lhs;rw[<-DY (k+1) (b.take d)]
    rw[KX,Qs o!]
   have O:b.take (k+1)=b.take k++[b[k]]:=by rw[Cr,As g];rfl
   rw[N,O,na,Sh,A6,A6]at M;exact⟨_,_,Sf (D k _ (As g)).2,(Eg (hr.symm.trans M) rfl).2⟩
  unfold UG;dsimp only[len];refine AC (λQ=>?_) (λQ=>Ap.done ⟨k,m,Nat.le_of_not_lt λn=>?_,.inr ⟨_,rfl,rfl⟩⟩);rotate_left 1;omega;have w:Ht Ue++t=(Ht Ue++Kp (b.take k))++c:=by rw[hr,A6]
  have F:=E! θ w;rw[@Ac _ (Ht Ue++Kp (b.take k)) _]at F;have o:CV (Ht Ue++t,((Ht Ue++Kp (b.take k)).length:Int))=δ (UF (Ht Ue++Kp (b.take k)).length c):=by
   conv=>lhs;arg 1;rw[w]
   exact V9 o!
  rw[o,AD];refine AL (λB=>Ap.done ⟨k,m,Nat.le_of_not_lt λn=>?_,.inl ⟨_,rfl,rfl⟩⟩) (λB=>?_);obtain⟨p,R,T,V_⟩:=H n;rw[V_,mr T]at B;exact B rfl;obtain⟨X,⟨q,J⟩,Y_⟩:=yu B;have j:Kp b=Kp (b.take k)++Kp (b.drop k):=by rw[<-na,DY]
  have f:c++y=Kp (b.drop k):=by rw[hr,A6,j]at G;exact(Eg G rfl).2
  by_cases g:k<θ b
  ·have h:=D k _ (As g);rw[Tq g,ov,J,A6]at f;obtain⟨I,Z_⟩:=AGx X (Sf h.2) f;rw[I,AFR h.2,AD];dsimp only;rw[show((0:Int) !=0)=η by decide,A!,AY (x:=(k:Int)+1),show(b[k].1 !=(k:Int)+1)=η by rw[h.1];exact bne_eq_false_iff_eq.2 o!,A!];have v:b.take (k+1)=b.take k++[b[k]]:=by rw[Cr,As g];rfl
   refine AA (Aa (by rw[BY,Bj];omega)) λv6 L=>Ap.next ⟨k+1,z,q,g,?_,?_⟩ ?_
   rw[L.1,Y_,I,v,Sh,<-A6,Ac (b:=Ht (By b[k])),E2];refine Da ?_ (Da rfl (Da rfl (Da ?_ rfl)));dsimp only;omega;dsimp only;rw[h.1];omega;rw[hr,v,Sh,A6,<-I,<-J];dsimp only;rw[L.2.1,E];simp only[BY,Bj];omega
  exfalso;rw[WI o!]at f;have K:=E! θ f;rw[J,Ac,Ac,E2]at K;simp[Kp]at K
 obtain⟨k,m,A,⟨u,rfl,o⟩|⟨u,rfl,o⟩⟩:=hr;exact BB (AB λ_=>⟨k,m,A,o⟩);exact Ax (AB λ_=>⟨k,m,A,o⟩)
variable {A:Int->Prop}{B:pR}
def CB(n:Int)(w:Nat×Nat)(P:S AE)(s:BZ):Prop:=∃es t y z,∃d:Nat,s=Ht Ue++t/\t++y=Kp es/\U es<=4096/\ID es/\LI n es/\P=es.take d/\t=Kp (es.take d)++z/\sY es<=w.1/\U es<=w.2
theorem zG{n a:Int}{l}{w:Nat×Nat}(h:De l)(b:l.1=1)(c:LI n l.2.1)(d:sY l.2.1<=w.1/\U l.2.1<=w.2):Ap (HG (l,a)) (CB n w (dl l)):=by
 refine(AGf h b).mono λr ⟨m,hr⟩=>⟨l.2.1,_,(Kp (l.2.1.drop l.2.2.toNat)).drop m,_,l.2.2.toNat,hr,?_,h.2.2.1,h.num b,c,rfl,rfl,d⟩
 rw[A6,DY,<-na,DY]
theorem CB.open_{n}{w}{P}{s}(h:CB n w P s):Ap (Ju s) λr=>r.2=0->De r.1/\r.1.1=1/\LI n r.1.2.1/\(sY r.1.2.1<=w.1/\U r.1.2.1<=w.2)/\∃m,P=(dl r.1).take m:=by
 obtain⟨b,t,y,z,d,rfl,p,hn,c,g,rfl,j,u,v⟩:=h;refine(AJH hn c p j).mono λr hr x=>?_;obtain⟨k,A,o,e⟩:=hr x;rw[e];have B:(b.take k).length=k:=k!
 refine⟨⟨Ae _,k!,k!,k!,d!,λi f l=>?_⟩,rfl,?_,⟨?_,d!⟩,min d (U b),?_⟩;have:=c.take k i f l;exact this;rw[<-DY k b]at g;exact g.pre;have:=AGb (b.take k) (b.drop k);rw[DY]at this;dsimp only;omega;unfold dl;dsimp only;rw[CA,KX,KX,Qs (a:=min d (U b)) o!,Qs o];rcases Nat.le_total d (U b) with q|q;rw[Qs q];rw[Nat.min_eq_right q,BO q,Hj]
def SQB(B:pR)(n:Int)(s:AU):Prop:=s.1.1=n/\SK B s.1/\De s.1.2.2.1/\DJ B s.1.2.2.1 s.2
def sJ(k:Nat)(w:Nat×Nat):Prop:=w.1<=k/\w.2<=(k-w.1)*(132+2*w.1)+5*w.1
theorem sJ.crash{k m:Nat}{w}(h:sJ k w)(c:m<=4):sJ (k+1) (w.1,w.2+m+128+2*w.1):=by obtain⟨a,b⟩:=h;refine⟨d!,?_⟩;dsimp only;rw[show k+1-w.1=(k-w.1)+1 by omega,EB (k-w.1) 1,Nat.one_mul];omega
theorem sJ.down{k}{w v:Nat×Nat}(h:sJ k w)(a:v.1=w.1)(b:v.2<=w.2):sJ k v:=⟨by rw[a];exact h.1,by rw[a];exact CK b h.2⟩
theorem sJ.same{k}{w}(h:sJ k w):sJ (k+1) w:=(h.crash (BR 4)).down rfl d!
theorem sJ.one{k}{w}(h:sJ k w):sJ (k+1) (w.1,w.2+1):=(h.crash (BR 4)).down rfl d!
theorem sJ.four{k}{w}(h:sJ k w):sJ (k+1) (w.1+1,w.2+4):=by obtain⟨a,b⟩:=h;refine⟨d!,?_⟩;dsimp only;rw[show k+1-(w.1+1)=k-w.1 by omega,show 132+2*(w.1+1)=132+2*w.1+2 by omega,Nat.mul_add];omega
theorem sJ.mono{k m:Nat}{w}(h:sJ k w)(b:k<=m):sJ m w:=by
 induction m with
 |zero=>rw[show k=0 by omega]at h;exact h
 |succ m a=>by_cases e:k=m+1;rw[e]at h;exact h;exact(a o!).same
theorem sJ.fin{k}{w}(h:sJ k w)(c:k<=27):w.2<=4092:=by
 obtain⟨d,b⟩:=h.mono c;have:∀a:Nat,a<28->(27-a)*(132+2*a)+5*a<=4092:=g!
 exact CK b (this _ o!)
def SQ(n:Int)(k:Nat)(s:AU):Prop:=n<=4/\∃B:pR,sJ k B.2/\SQB B n s
theorem SQ.mono{n}{k m:Nat}{s}(h:SQ n k s)(d:k<=m):SQ n m s:=by obtain⟨a,B,b,c⟩:=h;exact⟨a,B,b.mono d,c⟩
theorem SQB.sr{n}{k}{v}{s r}(h:SQB B n s)(hn:n<=4)(a:sJ k v)(g:SR (B.1,v) s r):SQ n k r:=⟨hn,(B.1,v),a,g.1.1.trans h.1,g.1.2.2.1,g.1.2.2.2,g.2⟩
theorem SQB.sr1{n}{k}{s r}(h:SQB B n s)(hn:n<=4)(a:sJ k B.2)(g:SR (B.up 0 1) s r):SQ n (k+1) r:=h.sr hn a.one g
theorem SQB.sr4{n}{k}{s r}(h:SQB B n s)(hn:n<=4)(a:sJ k B.2)(g:SR (B.up 1 4) s r):SQ n (k+1) r:=h.sr hn a.four g
theorem SQB.sr0{n}{k}{s r}(h:SQB B n s)(hn:n<=4)(a:sJ k B.2)(g:SR B s r):SQ n (k+1) r:=h.sr hn a.same g
theorem hZ{P:List AE}{w:Nat×Nat}{x:Br×BZ×Int×Int}(o:CB x.2.2.1 w P x.2.1)(p:DP A P x.1):Ap (RE x) λr=>r.2=0->SQB (A,(w.1,w.2+x.2.2.1.toNat+128+2*w.1)) x.2.2.1 r.1:=by refine AA o.open_ λs k=>AL (λa=>AB λb=>absurd b a) (λc=>?_);obtain⟨f,g,h,⟨j,q⟩,m,i⟩:=k c;refine AA (Zx f g h) λt l=>AL (λa=>AB λb=>absurd b a) (λd=>?_);obtain⟨a1,a2,a3,a4,a5,a6⟩:=l d;refine AA (eR (A:=A) f ⟨a2,a3,a4⟩ (by grind) (by grind) a6) λu n=>AL (λa=>AB λb=>absurd b a) (λe=>AB λ_=>?_);obtain⟨q1,q2,q3,q4⟩:=n e;refine⟨q1.trans a1,SK.up q2 j ?_,q3,DJ.up ⟨g,p.up i⟩ q4⟩;dsimp only at a1⊢;rw[a1];omega
theorem iB{P}{w}{x:Br×BZ×Int×Int}(b:CB x.2.2.1 w P x.2.1)(c:DP A P x.1):Ap (RF x) λr=>r.2=0->SQB (A,w.1,w.2+x.2.2.1.toNat+128+2*w.1) x.2.2.1 r.1:=by exact AA (hZ b c) λd a=>AB a
theorem AJg{n o:BZ}{c:Nat}(hn:n.length=256)(p:o.length=256)(h:n.take 8=n.drop 248)(d:o.take 8=o.drop 248)(j:n.take 8=o.take 8->n=o)(b:(n.take c++o.drop c).take 8=(n.take c++o.drop c).drop 248):n.take c++o.drop c=n\/n.take c++o.drop c=o:=by
 have g: ∀i:Nat,(n.take c++o.drop c)[i]? =if i<c then n[i]? else o[i]? :=λi=>by grind
 have q: ∀{l:BZ},l.take 8=l.drop 248-> ∀i:Nat,i<8->l[i]? =l[248+i]? :=λ{l} e i a=>by have:=congrArg (λl:BZ=>l[i]?) e;rw[IJ a,J6]at this;exact this
 by_cases m:c<8
 ·refine .inr (JR λi=>?_);rw[g i];split
  ·rename_i a;have:=q b i (by omega);rw[g,g,if_pos a,if_neg (by omega),<-q d i (by omega)]at this;exact this
  ·rfl
 ·refine .inl ?_;by_cases k:c<=248
  ·have e:n=o:=j (JR λi=>by
    by_cases a:i<8
    ·have:=q b i a;rw[g,g,if_pos (by omega),if_neg (by omega),<-q d i a]at this;rw[IJ a,IJ a];exact this
    ·rw[Cq (by rw[BQ];omega),Cq (by rw[BQ];omega)])
   rw[e,DY]
  ·refine JR λi=>?_;rw[g i];split
   ·rfl
   ·rename_i a;by_cases f:i<256
    ·have:=q b (i-248) (by omega);rw[g,g,if_pos (by omega),if_neg (by omega),show 248+(i-248)=i by omega,q h (i-248) (by omega),show 248+(i-248)=i by omega]at this;exact this.symm
    ·rw[Cq (by omega),Cq (by omega)]
theorem AFz:(jc 256).take 8=(jc 256).drop 248:=g!
def DP.tear{B:Int→Prop}{P:List AE}{d t:Br}{p:Int}{o n m:BZ}{c:Nat}(h:DP B P d)(z:0≤p)(f:B p)(E:DI t)(I:d.1[p.toNat]?=δ o)(H:m=n.take c++o.drop c)(F:t.1=ER d.1 p m){x:AT}(r:Hg x)(hn:n=IN x)(D:AId P p n)(N:1≤x.2.1)
  (M:∀j,(st (P.take j) p).2.1=x.2.1->st (P.take j) p=x) (K:∀j,Hg (st (P.take j) p)):∃A,DP A P t:=by
 have g:=(h.2 _ _ I).1 (by rw[Ih z];exact f);rw[Ih z]at g;have y:∀(i:Nat)(s:BZ),i≠p.toNat->t.1[i]?=δ s->d.1[i]?=δ s:=λi s l a=>by rw[F]at a;unfold ER at a;rwa [Db o!]at a
 have w:∀s:BZ,t.1[p.toNat]?=δ s->s=m:=λs a=>by rw[F]at a;unfold ER at a;grind
 by_cases b:dead m;refine⟨λj=>B j/\j≠p,E,λi s a=>?_⟩;by_cases l:i=p.toNat
 subst l;rw[w s a];exact⟨λf=>N! (Ih z) f.2,.inr b⟩;have:=h.2 i s (y i s l a);exact⟨λf=>this.1 f.1,this.2.imp_left λf=>⟨f,o!⟩⟩;have C:m.take 8=m.drop 248:=by by_cases L:m=jc 256;rw[L];exact AFz;by_cases J:∃q,Hg q/\m=IN q;obtain⟨q,q1,q2⟩:=J;rw[q2,Uv,og q1];exact N! ⟨L,λq q1 q2=>J ⟨q,q1,q2⟩⟩ b
 have v:o.take 8=o.drop 248/\(n.take 8=o.take 8->n=o):=by rcases g with rfl|⟨j,rfl⟩;refine⟨AFz,λe=>?_⟩;rw[hn,Uv]at e;have:=YC (k:=8) (n:=x.2.1) (m:=0) g! ⟨n!,by have:=r.2.2.1;omega,by have:=r.2.2.2.1;omega⟩ ⟨n!,g!,g!⟩ e;omega;refine⟨Uv.trans (og (K j)).symm,λe=>?_⟩;rw[hn,Uv,Uv]at e;have G:=K j;have:=YC (k:=8) g! ⟨n!,by have:=r.2.2.1;omega,by have:=r.2.2.2.1;omega⟩ ⟨n!,by have:=G.2.2.1;omega,by have:=G.2.2.2.1;omega⟩ e;rw[hn,M j this.symm]
 have u:=AJg (c:=c) (by rw[hn];exact dZ r) (h.1.2.1 _ _ I) (by rw[hn,Uv,og r]) v.1 v.2 (by rw[<-H];exact C);rw[<-H]at u;refine⟨B,E,λi s a=>?_⟩;by_cases l:i=p.toNat
 subst l;rw[w s a,Ih z];refine⟨λ_=>?_,.inl f⟩;rcases u with e|e<;>rw[e];exact D;exact g;exact h.2 i s (y i s l a)
def eT{x:AU×Int×Int×Int}(h:SK B x.1.1)(D:De x.1.1.2.2.1)(w:DJ B x.1.1.2.2.1 x.1.2):Ap (L7 x) λr=>∃A P,DP A P r.1/\CB x.1.1.1 B.2 P r.2:=by
 unfold L7;refine AA Fq λi Q=>AC (λO=>?_) (λ_=>AA (zG D w.1 h.ki.1 h.ki.rm.len) λM E=>AB (⟨B.1,dl x.1.1.2.2.1,w.2,E⟩:∃A P,DP A P x.1.2/\CB x.1.1.1 B.2 P M));have⟨K,f,H,m⟩:=Q.2.2.1 O;obtain⟨g,N,Y_,c⟩:=AJ O Q.2.1;have e:=Ba (Y_.symm.trans H);subst e;dsimp only at N m c;rw[N];refine BL (AA (P:=λr:AQ×Br=>(∃A,DP A (dl r.1.2.2.1) r.2)/\De r.1.2.2.1/\r.1.2.2.1.1=1/\LI x.1.1.1 r.1.2.2.1.2.1/\sY r.1.2.2.1.2.1<=B.2.1/\θ r.1.2.2.1.2.1<=B.2.2) ?_ λv8 W_=>?_);rotate_left 1;obtain⟨⟨A,R⟩,S,T,F⟩:=W_;refine AA (zG S T F.1 F.2) λv9 X=>AB ?_;exact⟨A,dl v8.1.2.2.1,R,X⟩;refine AK (λG=>?_) (λ_=>?_);rotate_left 1;apply AB;exact⟨⟨B.1,w.2⟩,D,w.1,h.ki.1,h.ki.rm.len⟩;have⟨t,n,_⟩:=K.2.2.2.2.2.1 i.toNat g (by have:=Cp H;omega) H;have n:=n G;apply BL;rw[cD t];refine BL (BL (AA (KH h D) λv a=>AA (gd w.2.1) λv6 U=>?_));have b:=w.up a.1.2.1;have q:=h.ki.fd g c;have L:=a.1.2.2.1.num b.1;have F:=a.1.2.2.1.2.2.1;have u:=a.1.2.2.2.2.2.ki;have s:g.1=st v.2.2.1.2.1 x.2.2.1:=by have:=(u.2.1 x.2.2.1 o! (by rw[a.1.1];dsimp only;omega)).1 g (by rw[a.2.1];exact c) m;exact this
 have J:=ZP L (p:=x.2.2.1) ⟨o!,by rw[<-m];exact t.2.1⟩ o!;have C:Be v.2.2.1.2.1 x.2.2.1=g.1.2.1:=by rw[<-Kb,<-s]
 have y:=a.2.2 (by have:=lj D g.1.1;have:=E! (·.2.1) ((h.ki.2.1 g.1.1 q.1 q.2.1).1 g c rfl);rw[Kb]at this;dsimp only;omega);refine AA (P:=λd=>∃A,DP A (dl v.2.2.1) d) (AP (λZ_=>AB ?_) (λ_=>AB ⟨B.1,b.2⟩)) λv7 V_=>AB ⟨V_,a.1.2.2.1,b.1,by have:=u.1;rw[a.1.1]at this;exact this,u.rm.len⟩;obtain⟨t1,o,t2,t3,t4⟩:=U Z_;refine b.2.tear t2 (by rw[<-m];exact q.2.2.2) t1 t3 rfl t4 t rfl ?_ o! (λj I=>?_) λj=>?_;refine .inr ⟨(dl v.2.2.1).length,?_⟩;rw[Hj];unfold dl;dsimp only at y⊢;rw[AFl L o!,<-s];unfold dl at I⊢;rw[KX]at I⊢;rw[s,<-Hj (l:=v.2.2.1.2.1)];rw[Hj];have:=mB L (p:=x.2.2.1) (j:=min j v.2.2.1.2.2.toNat) (k:=θ v.2.2.1.2.1) (by rw[Hj,C,<-I,Kb]);rwa [Hj]at this;unfold dl;rw[KX];exact J _
theorem Ex{x}:Ap (ED x) λr=>True:=by exact AL (λ_=>AA B0 λ_ _=>AB trivial) (y? trivial)
end Go.Pm
namespace Go.Pm
open Go Go.Ab
theorem bh{m:Nat}{c:AU×Bool}{s:Int×List Int×AU×Bool}(i:m<=16777216)(h:0<=s.1/\s.1<=m/\s.2.1.length=m/\s.2.2=c):Ap (Aj PW s) λr=>r.1.length=m/\r.2=c:=by refine AW (λ(s:Int×List Int×AU×Bool)=>0<=s.1/\s.1<=m/\s.2.1.length=m/\s.2.2=c) (λ(s:Int×List Int×AU×Bool)=>((m:Int)-s.1).toNat) h (λs g=>?_);obtain⟨b,j,d,f⟩:=g;unfold PW;have e:=AY (x:=s.1+1);rw[e];refine AC (λa=>?_) (λ_=>AB ⟨d,f⟩);simp only[len]at a;refine AA (AJ b a) λ_ _=>AA (AJ b a) λ_ _=>AB ⟨⟨d!,d!,by simp[ER,d],f⟩,d!⟩
theorem jZ{n:Int}{k:Nat}{x:AU×List LB}(h:SQ n k x.1):Ap (Ny x) λr=>SQ n (k+x.2.length) r.1:=by
 unfold Ny;refine AA (P:=λr=>SQ n (k+x.2.length) r.2.2.2.1) ?_ λr hr=>AB hr;refine AW (λ(s:Int×List Bc×List Int×List JO×AU×Bool)=>0<=s.1/\s.1<=1000/\s.2.1.length<=s.1/\s.2.2.1.length<=s.1/\s.2.2.2.1.length<=s.1/\s.1<=x.2.length/\SQ n (k+s.1.toNat) s.2.2.2.2.1) (λ(s:Int×List Bc×List Int×List JO×AU×Bool)=>(1000-s.1).toNat) ⟨Ae _,d!,q!,q!,q!,d!,h⟩ (λs hI=>?_);obtain⟨i1,i2,i3,i4,i5,i6,z⟩:=hI;obtain⟨hn,B,u,j⟩:=id z;have y:SQ n (k+s.1.toNat+1) s.2.2.2.2.1:=z.mono (Nat.le_succ _);obtain⟨q1,q2,q3,q4⟩:=id j;unfold VF;have p:SQ n (k+x.2.length) s.2.2.2.2.1:=z.mono o!;refine AC (λW_=>?_) (λ_=>AB p);refine AC (λad=>?_) (λ_=>AB p);refine AO (λ_=>?_) (λ_=>AB p);simp only[len]at W_;have e:=AY (x:=s.1+1);have b: ∀(v:Bc) (t:List Int×List JO×AU×Bool),t.1.length<=s.1+1->t.2.1.length<=s.1+1->SQ n (k+s.1.toNat+1) t.2.2.1-> ∀Q:Step (Int×((List Bc)×((List Int)×((List JO)×(AU×Bool))))) ((List Bc)×((List Int)×((List JO)×(AU×Bool))))->Prop,(∀a:Int×List Bc×List Int×List JO×AU×Bool,(0<=a.1/\a.1<=1000/\a.2.1.length<=a.1/\a.2.2.1.length<=a.1/\a.2.2.2.1.length<=a.1/\a.1<=x.2.length/\SQ n (k+a.1.toNat) a.2.2.2.2.1)/\(1000-a.1).toNat<(1000-s.1).toNat->Q (.next a))->Ap (Option.bind (app s.2.1 ([v]:List (Int×(Int×(Int×((Bool×BZ)×Int)))))) λI=>some (.next ((wi (s.1+1)),(I,t)))) Q:=by intro v t h1 U L Q N;refine AA (Aa w!) λI h7=>AB (N _ ?_);have l7:=h7.2.1;simp only[BY,Bj]at l7;rw[e];exact⟨⟨d!,d!,d!,d!,d!,d!,by dsimp only;rw[show k+(s.1+1).toNat=k+s.1.toNat+1 by omega];exact L⟩,d!⟩
 have same: ∀(v:Bc) (Q:Step (Int×((List Bc)×((List Int)×((List JO)×(AU×Bool))))) ((List Bc)×((List Int)×((List JO)×(AU×Bool))))->Prop),(∀a:Int×List Bc×List Int×List JO×AU×Bool,(0<=a.1/\a.1<=1000/\a.2.1.length<=a.1/\a.2.2.1.length<=a.1/\a.2.2.2.1.length<=a.1/\a.1<=x.2.length/\SQ n (k+a.1.toNat) a.2.2.2.2.1)/\(1000-a.1).toNat<(1000-s.1).toNat->Q (.next a))->Ap (Option.bind (app s.2.1 ([v]:List (Int×(Int×(Int×((Bool×BZ)×Int)))))) λI=>some (.next ((wi (s.1+1)),(I,s.2.2)))) Q:=λv Q N=>b v s.2.2 o! o! y Q N;refine AA (AJ i1 W_) λv1 _=>AP (λ_=>?_) (λ_=>?_);refine AA (eS q2 q3 q4) λv2 U=>AA (P:=λr=>r.1.length<=s.1+1/\r.2=s.2.2.2.2) ?_ λv4 V_=>?_;refine AP (λ_=>?_) (λ_=>AB ⟨d!,rfl⟩);refine AA (Aa w!) λv3 L=>AB ⟨?_,rfl⟩;have:=L.2.1;simp at this;dsimp only;omega;refine AA (P:=λr=>SQ n (k+s.1.toNat+1) r.1) ?_ λv5 Z_=>?_;refine AP (λg=>AB (j.sr1 hn u (U g))) (λ_=>AB (by rw[V_.2];exact y));refine AA Ex λv6 _=>b _ (v4.1,(s.2.2.2.1,v5)) V_.1 d! Z_ _ (λ_ h=>h);refine AP (λ_=>?_) (λ_=>?_);refine AC (λ_=>AA B0 λT _=>same _ _ (λ_ h=>h)) (λc1=>AC (λ_=>AA B0 λT _=>same _ _ (λ_ h=>h)) (λX=>?_));simp only[len]at X;have Y_:=AY (x:=v1.2.1-1);rw[Y_];refine AA (AJ) λal _=>AA (AJ) λao _=>AP (λ_=>AA B0 λT _=>same _ _ (λ_ h=>h)) (λ_=>AA (AJ) λap _=>AA (AJ) λar _=>AA (kY q2 q3 q4) λO J=>?_);have C:=j.sr4 hn u J;refine AP (λ_=>same _ _ (λ_ h=>h)) (λ_=>AP (λ_=>?_) (λ_=>?_));refine AA (P:=λr=>r.1.length<=s.1+1/\SQ n (k+s.1.toNat+1) r.2.1) ?_ λR E=>b _ (s.2.2.1,R) d! E.1 E.2 _ (λ_ h=>h);refine AP (λ_=>?_) (λ_=>AB ⟨d!,C⟩);refine AA Em λax _=>AA (Aa w!) λa0 K=>AB ⟨?_,C⟩;have:=K.2.1;simp at this;dsimp only;omega;exact b _ (s.2.2.1,(s.2.2.2.1,(O.1,s.2.2.2.2.2))) d! d! C _ (λ_ h=>h);refine AP (λ_=>?_) (λ_=>?_);refine AA (eU q2 q3 q4) λG l=>AA (P:=λr=>SQ n (k+s.1.toNat+1) r.1) (AP (λg=>AB (j.sr0 hn u (l g))) (λ_=>AB y)) λi f=>AA Ex λD _=>b _ (s.2.2.1,(s.2.2.2.1,i)) d! d! f _ (λ_ h=>h);refine AP (λ_=>?_) (λ_=>?_);refine AA (Xc q2 q4) λG l=>AA (P:=λr=>SQ n (k+s.1.toNat+1) r.1) (AP (λg=>AB (j.sr1 hn u (l g))) (λ_=>AB y)) λi f=>AA Ex λD _=>b _ (s.2.2.1,(s.2.2.2.1,i)) d! d! f _ (λ_ h=>h);refine AP (λ_=>?_) (λ_=>?_);refine AA Em λa1 _=>AA Hw λa2 o=>AA (P:=λr=>SQ n (k+s.1.toNat+1) r.1) (AP (λg=>AB ⟨hn,B,u.same,q1,SB.sk q2.sb (q2.ki.of rfl (o g).2.1 rfl rfl rfl),(o g).1,q4.up (LX.of (o g).2.2.1 (o g).2.1 (o g).2.2.2.1)⟩) (λ_=>AB y)) λi f=>AA Ex λD _=>b _ (s.2.2.1,(s.2.2.2.1,i)) d! d! f _ (λ_ h=>h);refine AP (λ_=>?_) (λ_=>?_);refine AA (eT q2 q3 q4) λa3 ⟨A,P,F⟩=>AA (iB F.2 F.1) λH M=>AA (bh (m:=s.2.2.1.length) (c:=s.2.2.2.2) o! ⟨Ae _,d!,rfl,rfl⟩) λq w=>AL (λ_=>?_) (λg=>?_);refine AA Ex λS _=>b _ (q.1,(s.2.2.2.1,(q.2.1,true))) (by have:=w.1;dsimp only;omega) d! (by dsimp only;rw[w.2];exact y) _ (λ_ h=>h);refine AA Ex λS _=>?_;have d:=M g;dsimp only at d;rw[q1]at d;have d:SQ n (k+s.1.toNat+1) H.1:=⟨hn,_,u.crash o!,d⟩
 exact b _ (q.1,(s.2.2.2.1,(H.1,q.2.2))) (by have:=w.1;dsimp only;omega) d! d _ (λ_ h=>h);refine AP (λ_=>?_) (λ_=>?_);refine AA (iC q2 q3 q4) λG l=>AA (P:=λr=>SQ n (k+s.1.toNat+1) r.1) (AP (λg=>AB (j.sr0 hn u (l g))) (λ_=>AB y)) λi f=>AA Ex λD _=>b _ (s.2.2.1,(s.2.2.2.1,i)) d! d! f _ (λ_ h=>h);exact AA B0 λT _=>same _ _ (λ_ h=>h)
def CX(b:AV):Prop:=0<=b.2/\U b.1<=16777216/\∀x∈b.1,0<=x/\x<256
theorem CX.step{b}(h:CX b)(a:b.2<U b.1):CX (b.1,wi (b.2+1)):=by have⟨a1,a2,a3⟩:=h;rw[(AY (x:=b.2+1))];exact⟨d!,a2,a3⟩
theorem WU{b}(h:CX b):Ap (Hd b 256) λr=>CX r.2/\0<=r.1/\r.1<256:=by unfold Hd;refine AC (y? ⟨h,Ae _,by show(0:Int)<256;decide⟩) (λa=>?_);simp[len]at a;refine AC n! (λ_=>AA (AJ h.1) λc d=>?_);have⟨f,g⟩:=h.2.2 c d.2;have e:=AY (x:=c);refine AC n! (λ_=>AP n! (y? ⟨h.step o!,?_,?_⟩));grind[Int.tmod_nonneg];grind[Int.tmod_lt_of_pos]
theorem Ag{b}{x:Int}(h:CX b)(j:x<=4611686018427387904):Ap (Ak b x) λr=>CX r.2/\0<=r.1/\(r.1=0\/r.1<x):=by unfold Ak;refine AC (y? ⟨h,Ae _,.inl rfl⟩) (λa=>?_);simp[len]at a;refine AC (y? ⟨h,Ae _,.inl rfl⟩) (λf=>AA (AJ h.1) λc e=>?_);have⟨d,g⟩:=h.2.2 c e.2;rw[(AY (x:=c))];refine AC (λ_=>?_) (λ_=>?_);refine AA (WU (h.step o!)) λk i=>?_;grind[AP,AB,AY,Int.tmod_nonneg,Int.tmod_lt_of_pos];refine AP (N! · o!) (y? ⟨h.step o!,pd _ d,.inr (pZ _ o!)⟩)
theorem Xw{b:AV}{x:Unit}(h:CX b):Ap (It b x) λr=>CX r.2:=by unfold It;refine AA (Ag h g!) λt e=>AA (Ag e.1 g!) λu m=>AA (P:=λr=>CX r.2/\0<=r.1/\r.1<=14) ?_ λc f=>?_;grind[AP,AB,AA,Ag];have⟨d,a,k⟩:=f;refine AA (P:=λl:List Int=>l.length=0) ⟨_,if_pos ⟨Ae _,a,o!⟩,q!⟩ λv n=>AA (P:=λr=>CX r.2) ?_ λw g=>AB g;refine AW (λ(s:Int×List Int×AV)=>0<=s.1/\s.1<=c.1/\s.2.1.length<=s.1/\CX s.2.2) (λ(s:Int×List Int×AV)=>(c.1-s.1).toNat) ⟨Ae _,a,d!,d⟩ (λs i=>?_);have⟨o,p,q,j⟩:=i;unfold Pv;rw[(AY (x:=s.1+1))];refine AC (λ_=>?_) (λ_=>AB j);grind[AA,Ag,Aa,AB,List.length_cons,List.length_nil]
theorem Ys{b}{x}(h:CX b):Ap (HQ b x) λr=>CX r.2:=by unfold HQ;refine AA (Ag h g!) λf a=>AP (λ_=>AA (Ag a.1 g!) λe c=>AB c.1) (λ_=>AP (λ_=>?_) (λ_=>AA (Ag a.1 g!) λe c=>AB c.1));refine AA (Ag a.1 g!) λg d=>?_;have:=d.2.2;refine AA (AJ d.2.1 w!) λ_ _=>?_;grind[AA,AJ,AB]
theorem Wx{b}{x:Int}(h:CX b)(u:x<=1099511627776):Ap (IB b x) λr=>CX r.2:=by
 unfold IB;refine AA (Ag h g!) λv a=>?_;have l:=a.2.2;refine AA (AJ a.2.1 w!) λ_ _=>AA (AJ a.2.1 w!) λw _=>AA (P:=λ_=>True) (AK (y? trivial) (λ_=>AA (P:=λ_=>True) (AK (y? trivial) (y? trivial)) λ_ _=>AB trivial)) λy _=>AA (P:=λr=>CX r.1) ?_ λp e=>?_;refine AK (λ_=>?_) (λ_=>?_);refine AA (Ag a.1 o!) λz m=>AA (Ag m.1 g!) λA j=>AA (P:=λr=>CX r.1) ?_ λt i=>AB i;refine AK (λ_=>?_) (y? j.1);refine AA (Xw j.1) λc n=>?_;have k:0<=(if(12<(len c.1))then 12 else(len c.1))/\(if(12<(len c.1))then 12 else(len c.1))<=U c.1:=by simp[len];split<;>omega
 exact AA (Ca (Ae _) k.1 k.2) λB _=>AB n;refine AA (P:=λr=>CX r.1) ?_ λt i=>AB i;exact AK (λ_=>AA (Ag a.1 g!) λo d=>AB d.1) (y? a.1);refine AA (Ag e g!) λq f=>AA (P:=λr=>CX r.1) ?_ λs g=>AB g;refine AK (λ_=>?_) (y? f.1);grind[AA,Ys,AB]
theorem Xx{b}{x:Int×Int×Bool}(h:CX b)(f:0<=x.1/\x.1<=64/\x.2.1<=64):Ap (Iu b x) λr=>CX r.2:=by unfold Iu;rw[(AY (x:=x.1+1))];refine AA (Ag h g!) λg a=>AA (P:=λ_=>True) (AK (y? trivial) (y? trivial)) λi _=>AK (y? a.1) (λ_=>AK (λ_=>AA (Ag a.1 o!) λj c=>AB c.1) (λ_=>AK (y? a.1) (λ_=>AK (y? a.1) (λ_=>AA (P:=λs=>(∃u,s=.inl u/\CX u.1)\/∃u,s=.inr u/\CX u.1) ?_ λs e=>?_))));refine AK (λ_=>?_) (λ_=>AK (y? (.inl ⟨_,rfl,a.1⟩)) (y? (.inr ⟨_,rfl,a.1⟩)));refine AK (λ_=>?_) (y? (.inr ⟨_,rfl,a.1⟩));refine AA (Ag a.1 g!) λk d=>?_;grind[AA,Ag,AB];grind[BB,AB,Ax,AA,Ag,Wx]
theorem VW{b:AV}{x:Int×Int×Bool}(h:CX b)(g:0<=x.1/\x.1<=64/\x.2.1<=1000/\ -1000<=x.2.1):Ap (HC b x) λr=>CX r.2/\r.1.length<=2+x.2.1.toNat:=by unfold HC;rw[(AY (x:=x.2.1+1))];refine AA (Ag h o!) λl a=>?_;have c:=a.2.2;refine AA (P:=λr=>CX r.2/\r.1.length<=2+x.2.1.toNat) ?_ λm d=>AB d;refine AW (λ(s:Int×List LB×AV)=>0<=s.1/\s.1+s.2.1.length<=1010/\CX s.2.2/\s.1+s.2.1.length<=2+x.2.1.toNat) (λ(s:Int×List LB×AV)=>s.1.toNat) ⟨a.2.1,w!,a.1,w!⟩ (λs e=>?_);have⟨i,j,f,k⟩:=e;unfold Ml;rw[(AY (x:=s.1-1))];refine AC (λ_=>?_) (λ_=>AB ⟨f,o!⟩);grind[AA,Xx,Aa,AB,List.length_cons,List.length_nil]
theorem vk:De (1,[],0):=⟨g!,g!,q!,g!,q!,λi e h=>by simp at h⟩
theorem jS{x}:Ap (G6 x) λr=>r=(1,[],0):=by unfold G6;exact AB rfl
theorem jX{x:Int×Int}(h:1<=x.1/\x.1<=64/\1<=x.2/\x.2<=64):Ap (Nw x) λr=>r.2=0/\r.1.1=x.1/\SK ((λ_=>True),0,0) r.1/\De r.1.2.2.1/\r.1.2.2.1.1=1:=by unfold Nw;refine AC (N! · o!) (λ_=>AC (N! · o!) (λ_=>AC (N! · o!) (λ_=>AC (N! · o!) (λ_=>AA Vq λf b=>AA Vr λg d=>AA jS λi c=>AB ⟨rfl,rfl,⟨⟨q!,q!⟩,q!,q!,?_⟩,?_⟩))));unfold KI FD;dsimp only;rw[b,c];refine⟨LI.nil _,λp _ _=>⟨q!,q!,λw e=>?_⟩,q!,by unfold RM PH DN sY TW;dsimp only;rw[b];simp⟩;have:=d w (BN e);exact⟨by rw[this];exact Ae _,λ_ _=>this⟩;dsimp only;rw[c];exact⟨vk,rfl⟩
theorem AGp{x:Int}(h:1<=x/\x<=64):Ap (Kg x) λr=>r.2=0:=by unfold Kg;refine AC (N! · o!) (λ_=>AC (N! · o!) (λ_=>AA (Sm o!) λb _=>AB rfl))
theorem jY{x:Int×Int}(d:x.1<=4)(h:1<=x.1/\x.1<=64/\1<=x.2/\x.2<=64):Ap (Nx x) λr=>SQ x.1 0 r.1:=by unfold Nx;refine AA (jX h) λf a=>AL (N! a.1 ·) (λ_=>AA ((jP).and (AGp ⟨h.1,h.2.1⟩)) λg b=>AL (N! b.2 ·) (y? ?_));exact⟨d,((λ_=>True),0,0),⟨Al _,Al _⟩,a.2.1,a.2.2.1,a.2.2.2.1,a.2.2.2.2,(b.1 b.2).1,λi s e=>⟨λ_=>.inl (((b.1 b.2).2.2 i s e).trans (mW _)),.inl trivial⟩⟩
theorem WV{b}{x:Int×Bool}(h:CX b)(d:x.1<=1000/\ -1000<=x.1):Ap (He b x) λr=>CX r.2/\∃n,1<=n/\n<=4/\SQ n (2+x.1.toNat) r.1:=by unfold He;refine AA (Ag h g!) λl a=>AA (Ag a.1 g!) λm i=>?_;obtain⟨a1,a2,a3⟩:=a;obtain⟨e,o,p⟩:=i;have f:=AY (x:=1+l.1);have g:=AY (x:=1+m.1);rw[f,g];refine AA (jY d! d!) λq j=>AA (VW e ⟨d!,d!,d.1,d.2⟩) λs c=>AA (jZ j) λt k=>AB ⟨c.1,_,d!,d!,k.mono (by have:=c.2;dsimp only at this⊢;omega)⟩
theorem Jt{b}{x:Int×Bool}(h:CX b)(a:x.1<=1000/\ -1000<=x.1):Ap (IC b x) λr=>CX r.2/\1<=r.1.1/\r.1.1<=4/\LI r.1.1 r.1.2.2.1.2.1/\De r.1.2.2.1/\r.1.2.2.1.1=1/\(x.1<=25->U r.1.2.2.1.2.1<=4092):=by unfold IC;refine AA (WV h a) λi e=>AB ?_;obtain⟨c,n,f,g,_,B,d,q1,q2,q3,q4⟩:=e;exact⟨c,d!,d!,q2.ki.1,q3,q4.1,λa=>CK q2.ki.rm.len.2 (d.fin o!)⟩
theorem kT{b}{x:Int}(h:CX b)(g:x<=1000/\ -1000<=x):Ap (Fm b x) λr=>CX r.2.2/\1<=r.1/\r.1<=4/\De r.2.1/\∃n,LI n r.2.1.2.1:=by unfold Fm;refine AA (Jt h g) λk d=>?_;obtain⟨c,i,j,q2,q3,q4,_⟩:=d;refine AA Em λl f=>?_;have e:=f q3;refine AA (Hw.and (oC q3 d!)) λm a=>AB ⟨c,i,j,(a.1 a.2).1,_,by have:=q2;rw[<-(a.1 a.2).2.1]at this;exact this⟩
theorem ADt{b}{x:Int}(h:CX b)(d:x<=25/\ -1000<=x):Ap (Fm b x) λr=>U r.2.1.2.1<=4092:=by unfold Fm;refine AA (Jt h ⟨d!,d.2⟩) λk f=>?_;obtain⟨c,i,j,q2,q3,q4,q5⟩:=f;refine AA Em λl g=>?_;have e:=g q3;refine AA (Hw.and (oC q3 d!)) λm a=>AB ?_;dsimp only;rw[(a.1 a.2).2.1];exact q5 d.1
theorem I0{x}:Ap (H8 x) λr=>r=V↔1<=x.1/\x.1<=x.2.1/\x.2.1<=1099511627776/\0<=x.2.2.1/\x.2.2.1<=x.2.2.2.1/\x.2.2.2.1<64/\0<=x.2.2.2.2/\x.2.2.2.2<=8:=by
 unfold H8;exact x!
theorem MX{x}:Ap (D5 x) λr=>True:=by
 unfold D5;exact x!
theorem QW{x:List AE×AE}{s:Int}(h:0<=s/\s<=θ x.1/\(θ x.1:Int)<=16777216):Ap (Aj (MZ x) s) λr=>0<=r/\r<=θ x.1:=by
 refine AW (λ(s:Int)=>0<=s/\s<=θ x.1/\(θ x.1:Int)<=16777216) (λ(s:Int)=>((θ x.1:Int)-s).toNat) h (λs a=>?_);unfold MZ;exact x!
theorem bk{x:S AE×AE}(h:U x.1<=16777215):Ap (DH x) λr=>U r.1<=U x.1+1:=by
 refine AA (QW ⟨Ae _,o!⟩) λp a=>?_;have main:Ap (σ (Xf x.1 0 p) λb=>
  σ (Xf x.1 p (len x.1)) λc=>
  σ (app [] b) λd=>
  σ (app d ([x.2]:S (Int×(Int×(Int×(Int×(Int×(Int×((Int×(Int×((Bool×BZ)×(Bool×BZ))))×BZ))))))))) λe=>
  σ (app e c) λf=>
  Z (f,V)) λr=>U r.1<=U x.1+1:=by
  refine AA (Bg (Ae _) a.1 a.2) λj g=>AA (Bg a.1 k! k!) λk i=>?_;grind[AA,Aa,AB]
 refine AC (λl=>?_) (λ_=>main);grind[AA,AJ,MX,AP,AB]
theorem ZF{x:AS}{s:Int}(h:0<=s/\s<=θ x.2.2.2.2.2/\(θ x.2.2.2.2.2:Int)<=16777216):Ap (Aj (HT x) s) λr=>r≠.inl ζ:=by
 refine AW (λ(s:Int)=>0<=s/\s<=θ x.2.2.2.2.2/\(θ x.2.2.2.2.2:Int)<=16777216) (λ(s:Int)=>((θ x.2.2.2.2.2:Int)-s).toNat) h (λs b=>?_);unfold HT;exact x!
def aS(x:AS):Prop:=1<=x.1/\x.1<=x.2.1/\x.2.1<=1099511627776/\0<=x.2.2.1/\x.2.2.1<=x.2.2.2.1/\x.2.2.2.1<64/\0<=x.2.2.2.2.1/\x.2.2.2.2.1<=8/\U x.2.2.2.2.2<=4096
theorem OX{x}:Ap (EQ x) λr=>r=V->aS x:=by refine AA I0 λe b=>AO (y? λa=>by cases a) (λc=>?_);have hn:=b.1 c;refine AC (y? λa=>by cases a) (λd=>?_);simp[len]at d;refine AA (ZF ⟨Ae _,o!⟩) λr hr=>?_;grind[aS,BG,AB]
theorem Rz{x:List AE×Int×Int×Int×Int×Int}{s:Int×AS}(h:0<=s.1/\s.1<=θ x.1/\θ x.1<=16777215):Ap (Aj (OV x) s) λr=>∀u,r=.inl u->u.1≠0:=by
 refine AW (λ(s:Int×AS)=>0<=s.1/\s.1<=θ x.1/\θ x.1<=16777215) (λ(s:Int×AS)=>((θ x.1:Int)-s.1).toNat) h (λs b=>?_);unfold OV;exact x!
theorem R0{a:Bool×Int×AS}{b:AE}{s:Bool×Int}(h:0<=s.2/\s.2<=θ a.2.2.2.2.2.2.2/\θ a.2.2.2.2.2.2.2<=16777215):Ap (Aj (OW a b) s) λr=>True:=by
 refine AW (λ(s:Bool×Int)=>0<=s.2/\s.2<=θ a.2.2.2.2.2.2.2/\θ a.2.2.2.2.2.2.2<=16777215) (λ(s:Bool×Int)=>((θ a.2.2.2.2.2.2.2:Int)-s.2).toNat) h (λs c=>?_);unfold OW;exact x!
theorem iG{x:List AE×Int×Int×Int×Int×Int}(h:x.1.length<=16777215):Ap (Jx x) λr=>r.2=0->aS r.1:=by
 refine AA I0 λp _=>AO (λ_=>AB n!) (λ_=>AA (Rz ⟨Ae _,k!,h⟩) λq g=>BG (λu e=>AB λa=>absurd a (g u e)) (λu e=>AA (P:=λr=>r.2.2.2.2.2.2.length<=16777215) ?_ λl f=>?_));refine AW (λ(s:Bool×Int×AS)=>0<=s.2.1/\s.2.1<=x.1.length/\s.2.2.2.2.2.2.2.length<=s.2.1) (λ(s:Bool×Int×AS)=>((x.1.length:Int)-s.2.1).toNat) ⟨Ae _,k!,q!⟩ (λs i=>?_);have⟨j,n,o⟩:=i;unfold KT;rw[(AY (x:=s.2.1+1))];refine AC (λc=>?_) (λ_=>AB k!);simp[len]at c;have b:((0<=s.2.1+1/\s.2.1+1<=x.1.length/\s.2.2.2.2.2.2.2.length<=s.2.1+1)/\((x.1.length:Int)-(s.2.1+1)).toNat<((x.1.length:Int)-s.2.1).toNat):=⟨o!,o!⟩
 refine AA (AJ j c) λt _=>AA CO λv _=>AO (λ_=>AB b) (λ_=>AC (λ_=>AB b) (λ_=>AC (λ_=>AB b) (λ_=>AC (λ_=>AB b) (λ_=>AC (λ_=>AB b) (λ_=>AA (R0 ⟨Ae _,k!,o!⟩) λk _=>?_)))));grind[AA,bk,AB];refine AK (λ_=>AB n!) (λ_=>AC (λ_=>AB n!) (λ_=>AA OX λm d=>AO (λ_=>AB n!) (λc=>AB λ_=>d c)))
theorem iE{x}:Ap (H7 x) λr=>True:=by
 unfold H7;exact x!
theorem bj{x:AS}:Ap (Gu x) λr=>r.1.length<=1099511627776:=by refine AA OX λk b=>AO (λ_=>AB q!) (λa=>?_);have h:=(b a).2.2.2.2.2.2.2.2;refine AA iE λl _=>AA UB λm g=>AA (P:=λr:BZ=>r.length<=1099511627776) ?_ λo c=>AB c;refine AW (λ(s:BZ×Int)=>0<=s.2/\s.2<=x.2.2.2.2.2.length/\s.1.length<=8408*s.2+8408) (λ(s:BZ×Int)=>((x.2.2.2.2.2.length:Int)-s.2).toNat) ⟨Ae _,k!,k!⟩ (λs d=>?_);have⟨f,i,j⟩:=d;have e:=AY (x:=s.2+1);refine AC (λa=>?_) (λ_=>AB o!);refine AA (AJ f a) λn _=>?_;grind[AA,bQ,UB,CL,AB]
theorem bn{x:BZ×Int×Int}(h:U x.1<=1099511627776):Ap (DM x) λr=>True:=by exact AA (Cm h) λ_ _=>AB trivial
theorem bi{x:BZ}(h:x.length<=1099511627776):Ap (Fu x) λr=>r.2=0->aS r.1:=by refine AA (Rr h) λk n=>AL (λb=>AB λa=>absurd a b) (λj=>AL (λ_=>AB n!) (λg=>?_));simp[len]at g;refine AA (Ca (Ae _) g!) λp _=>AL (λ_=>AB n!) (λ_=>?_);have hn: ∀y,Ap (DM (k.1,y)) λ_=>True:=λy=>bn k!;refine AA (hn _) λq _=>AA (hn _) λt _=>AA (hn _) λv _=>AA (hn _) λw _=>AA (hn _) λz _=>AA (hn _) λA _=>AC (λ_=>AB n!) (λi=>AA (P:=λr=> ∀u,r= .inl u->u.1≠0) ?_ λl d=>?_);refine AW (λ(s:Int×Int×List AE×Int×Int×Int×Int×Int×AS)=>0<=s.2.1/\s.2.1<=4096/\s.2.2.1.length<=s.2.1) (λ(s:Int×Int×List AE×Int×Int×Int×Int×Int×AS)=>(4096-s.2.1).toNat) ⟨Ae _,k!,q!⟩ (λs o=>?_);have e:=AY (x:=s.2.1+1);refine AC (λb=>?_) (λ_=>AB λu c=>by cases c);grind[AA,Rr,AL,AB,bP,Aa,List.length_cons,List.length_nil];refine BG (λu c=>AB λa=>absurd a (d u c)) (λu c=>AL (λ_=>AB n!) (λ_=>AA OX λm f=>AO (λ_=>AB n!) (λb=>AB λ_=>f b)))
def SA(a:AI):Prop:=U a.1<=16/\U a.2.2.1<=16777216/\∀f∈a.2.2.1,U f.2.2<=1099511627776
def VA(a:AI):Prop:=1<=a.2.1/\a.2.1<=64/\1<=U a.1/\U a.1<=16/\1<=a.2.2.2.1/\a.2.2.2.1<=1099511627777/\1<=a.2.2.2.2/\a.2.2.2.2<=1073741825/\U a.2.2.1<=256
theorem bp{x:Int×List Int}:Ap (Fv x) λr=>r=true->1<=x.1/\x.1<=64/\1<=x.2.length/\x.2.length<=16:=by unfold Fv;refine AC (λ_=>AB λa=>by cases a) (λh=>AC (λ_=>AB λa=>by cases a) (λi=>AC (λ_=>AB λa=>by cases a) (λb=>AC (λ_=>AB λa=>by cases a) (λc=>?_))));simp only[len]at b c;refine AA (AJ (Ae _)) λk _=>AL (λ_=>AB λa=>by cases a) (λ_=>AA (P:=λ_=>True) ?_ λr _=>?_);refine AW (λ(s:Int)=>1<=s/\s<=x.2.length) (λ(s:Int)=>((x.2.length:Int)-s).toNat) ⟨Ae _,o!⟩ (λs j=>?_);unfold Ma;have d:=AY (x:=s-1);have f:=AY (x:=s+1);rw[d,f];refine AC (λg=>?_) (λ_=>AB trivial);simp only[len]at g;refine AA (AJ) λ_ _=>AA (AJ) λ_ _=>AC (λ_=>AB trivial) (λ_=>AB ⟨o!,o!⟩);refine BG (λu _=>AB λ_=>o!) (λu _=>?_);have e:=AY (x:=len x.2-1) i!;rw[e];exact AA (AJ i! i!) λl _=>AB λ_=>o!
theorem ZG{x:AI}{s:Int×Int}(h:0<=s.2/\s.2<=θ x.2.2.1/\θ x.2.2.1<=256):Ap (Aj (Jn x) s) λr=>r≠.inl ζ:=by
 refine AW (λ(s:Int×Int)=>0<=s.2/\s.2<=θ x.2.2.1/\θ x.2.2.1<=256) (λ(s:Int×Int)=>((θ x.2.2.1:Int)-s.2).toNat) h (λs b=>?_);unfold Jn;exact x!
theorem KU{x}:Ap (C7 x) λr=>r=V->VA x:=by
 unfold C7;refine AA bp λi c=>AO (y? λa=>by cases a) (λd=>?_);obtain⟨a1,a2,a3,a4⟩:=c d;refine AC (y? λa=>by cases a) (λe=>AC (y? λa=>by cases a) (λf=>AC (y? λa=>by cases a) (λg=>AC (y? λa=>by cases a) (λh=>AC (y? λa=>by cases a) (λb=>?_)))));simp only[len]at b;refine AA (ZG ⟨Ae _,d!,o!⟩) λr hr=>?_;have q:VA x:=⟨a1,a2,a3,a4,o!⟩
 exact BG (λu _=>AB λ_=>q) (λu _=>AB λ_=>q)
theorem UQ{x:AI×Int}(h:U x.1.1<=16)(a:0<=x.2/\x.2<U x.1.1):Ap (FC x) λr=>True:=by unfold FC;have e:=AY (x:=x.2+1);rw[e];refine AA (P:=λ_=>True) ?_ λd _=>AA (AJ a.1 a.2) λf _=>AB trivial;refine AC (λb=>?_) (y? trivial);simp only[len]at b;exact AA (AJ o! b) λc _=>AB trivial
theorem YA{x:AI×AS}(h:x.1.1.length<=16):Ap (Fi x) λr=> -1<=r/\r<16:=by
 unfold Fi;refine AA (P:=λr=> ∀u,r= .inl u->0<=u/\u<16) ?_ λr hr=>BG (λu a=>AB (by have:=hr u a;omega)) (λ_ _=>AB g!);refine AW (λ(s:Int)=>0<=s/\s<=x.1.1.length) (λ(s:Int)=>((x.1.1.length:Int)-s).toNat) ⟨Ae _,o!⟩ (λs d=>?_);unfold Hf;have e:=AY (x:=s+1);rw[e];refine AC (λb=>?_) (λ_=>AB λu a=>by cases a);simp only[len]at b;have c:((0<=s+1/\s+1<=x.1.1.length)/\((x.1.1.length:Int)-(s+1)).toNat<((x.1.1.length:Int)-s).toNat):=⟨o!,o!⟩
 refine AA (UQ h ⟨d.1,b⟩) λf _=>AP (λ_=>?_) (λ_=>AB c);exact AP (λ_=>AB λu a=>by cases a;omega) (λ_=>AB c)
theorem bo{x:AI×Aq}(h:U x.1.1<=16)(c:U x.2.2.2<=1099511627776):Ap (DO x) λr=>0<=r.2->aS r.1:=by unfold DO;refine AL (y? n!) (λ_=>AA (bi c) λd b=>AL (y? n!) (λa=>AA (YA h) λe _=>AB λ_=>b a))
theorem Xd{x:AS×Int}{s:Int×List AE×Int×Int×Int×Int×Int}(h:0<=s.1/\s.1<=θ x.1.2.2.2.2.2/\θ x.1.2.2.2.2.2<=4096/\θ s.2.1<=s.1):Ap (Aj (LV x) s) λr=>θ r.1<=4096:=by
 refine AW (λ(s:Int×List AE×Int×Int×Int×Int×Int)=>0<=s.1/\s.1<=θ x.1.2.2.2.2.2/\θ x.1.2.2.2.2.2<=4096/\θ s.2.1<=s.1) (λ(s:Int×List AE×Int×Int×Int×Int×Int)=>((θ x.1.2.2.2.2.2:Int)-s.1).toNat) h (λs c=>?_);unfold LV;exact x!
theorem R3{x:AS×Int}(h:U x.1.2.2.2.2.2<=4096):Ap (Fa x) λr=>U r.2.2.2.2.2<=4096:=by unfold Fa;refine AC (y? h) (λ_=>AA (Xd ⟨Ae _,d!,h,q!⟩) λb a=>AB a)
theorem R2{x:AI×AZ×Int}{a:List AE}{s:Int×AI}(h:0<=s.1/\s.1<=θ a/\θ a<=4096):Ap (Aj (OY x a) s) λr=>∀u,r=.inl u->u.1≠0:=by
 refine AW (λ(s:Int×AI)=>0<=s.1/\s.1<=θ a/\θ a<=4096) (λ(s:Int×AI)=>((θ a:Int)-s.1).toNat) h (λs c=>?_);unfold OY;exact x!
def RL(l:S AS):Prop:=∀r∈l,U r.2.2.2.2.2<=4096
theorem RI{a:List AS×List Int×Int}{c:AS×Int}{s:Int}(h:0<=s/\s<=a.1.length/\a.1.length<=16777215):Ap (Aj (HU a c) s) λr=>0<=r/\r<=a.1.length:=by refine AW (λ(s:Int)=>0<=s/\s<=a.1.length) (λ(s:Int)=>s.toNat) ⟨h.1,h.2.1⟩ (λs b=>?_);unfold HU;have d:=h.2.2;have e:=AY (x:=s-1);rw[e];refine AC (λf=>?_) (λ_=>AB b);refine AA (AJ) λg _=>AC (λ_=>AB ⟨o!,o!⟩) (λ_=>AB b)
theorem ZH{x:AI}{B:Int×List AS×List Int×List Bool}(h:VA x)(G:SA x)(V_:0<=B.1):Ap (Aj (Ey x B) ([],([],0))) λr=>r.2.length=r.1.length/\r.1.length<=256/\RL r.1:=by have a4:=h.2.2.2.1;have a9:=h.2.2.2.2.2.2.2.2;refine AW (λ(s:List AS×List Int×Int)=>0<=s.2.2/\s.2.2<=x.2.2.1.length/\s.2.1.length=s.1.length/\s.1.length<=s.2.2/\RL s.1) (λ(s:List AS×List Int×Int)=>((x.2.2.1.length:Int)-s.2.2).toNat) ⟨Ae _,d!,rfl,q!,λr hr=>by simp at hr⟩ (λs E=>?_);obtain⟨z,W_,A,X,f⟩:=E;unfold Ey;have e:=AY (x:=s.2.2+1);rw[e];refine AC (λm=>?_) (λ_=>AB ⟨A,d!,f⟩);simp only[len]at m;refine AA (AJ z m) λU C=>AA (bo a4 (G.2.2 U C.2)) λZ D=>AL (λ_=>AB ⟨⟨d!,d!,A,d!,f⟩,d!⟩) (λF=>?_);have n:=D o!;refine AA (RI ⟨i!,i!,o!⟩) λv7 d=>AA (Bg (Ae _) d.1 d.2) λv8 v=>AA (Bg d.1 i! i!) λv9 y=>?_;have Y_:=v.2;have K:=y.2;simp only[len]at K;refine AA (Aa w!) λL a=>?_;have o:=a.2.1;simp only[Bj]at o;refine AA (Aa w!) λM b=>?_;have p:=b.2.1;simp only[Bj,BY]at p;refine AA (Aa o!) λN c=>?_;have H:=c.2.1;refine AA (Bg (Ae _) d.1) λO g=>?_;have I:=g.2;refine AA (AJ z m) λP _=>AA (Bg d.1 i! i!) λQ i=>?_;have q:=i.2;simp only[len]at q;refine AA (Aa w!) λR j=>?_;have t:=j.2.1;simp only[Bj]at t;refine AA (Aa w!) λS k=>?_;have u:=k.2.1;simp only[Bj,BY]at u;refine AA (Aa o!) λT l=>AB ?_;have J:=l.2.1;refine⟨⟨d!,d!,d!,d!,λr hr=>?_⟩,d!⟩;dsimp only at hr;rw[c.1,b.1,a.1,v.1,y.1]at hr;rcases Am.1 hr with w|w;rcases Am.1 w with w|w;rw[CG]at w;exact f r (TO (GY w));simp at w;rw[w];exact n.2.2.2.2.2.2.2.2;exact f r (TO (GY w))
def T3(n:Int)(t:S AS×S Int×S Bool):Prop:=U t.2.1=U t.1/\U t.2.2=U t.1/\U t.1<=n/\RL t.1
theorem ZI{a:List AS×List Int}{n:Int}{t:List AS×List Int×List Bool}(h:a.2.length=a.1.length/\a.1.length<=256/\RL a.1)(hn:n<=100000)(z:T3 n t):Ap (Aj (Ez a) (0,(0,t))) λr=>T3 (n+256) r:=by refine AW (λ(s:Int×Int×List AS×List Int×List Bool)=>0<=s.2.1/\s.2.1<=a.1.length/\T3 (n+s.2.1) s.2.2) (λ(s:Int×Int×List AS×List Int×List Bool)=>((a.1.length:Int)-s.2.1).toNat) ⟨Ae _,d!,by simpa using z⟩ (λs y=>?_);obtain⟨d,K,q,u,L,k⟩:=y;obtain⟨I,J,v⟩:=h;unfold Ez;have e:=AY (x:=s.2.1+1);rw[e];refine AC (λc=>?_) (λ_=>AB ⟨q,u,o!,k⟩);simp only[len]at c;refine AA (AJ d c) λA _=>AC (λ_=>AB ⟨⟨d!,d!,q,u,d!,k⟩,d!⟩) (λ_=>AA (AJ d c) λp f=>AA (AJ d) λB _=>AA (AJ d c) λC _=>AA (R3 (v p f.2)) λD g=>AA (Aa w!) λE b=>?_);have l:=b.2.1;simp only[Bj,BY]at l;refine AA (Aa w!) λF i=>?_;have m:=i.2.1;simp only[Bj,BY]at m;refine AA (Aa w!) λG j=>?_;have o:=j.2.1;simp only[Bj,BY]at o;refine AA (AJ d c) λH _=>AB ?_;refine⟨⟨d!,d!,d!,d!,d!,λr hr=>?_⟩,d!⟩;dsimp only at hr;rw[b.1]at hr;rcases Am.1 hr with w|w;exact k r w;simp at w;rw[w];exact g
theorem Wy{b}{x:BZ}(h:CX b)(I:U x<=1099511627776):Ap (GL b x) λr=>CX r.2/\U r.1<=U x+1:=by
 refine AP (λ_=>?_) (λg=>?_);refine AA (Ag h g!) λJ m=>AB ⟨m.1,?_⟩;rw[Mf];simp;simp only[len]at g;refine AA (Ag h i!) λw n=>?_;obtain⟨k,a,l⟩:=n;simp only[len]at l;have e:=AY (x:=w.1+1);refine AA (Ag k g!) λK f=>AP (λ_=>?_) (λ_=>?_);refine AA (Ca (Ae _) a) λL E=>AA (Ca o! i! i!) λM q=>?_;have u:=q.2;simp only[len]at u;refine AA (CL o!) λN F=>AB ⟨f.1,?_⟩;grind;refine AP (λ_=>?_) (λ_=>?_);refine AA (Ag f.1 g!) λC s=>?_;have v:(E7 ([(ι .u8 C.1)]:S Int)).length=1:=by rw[Mf];rfl
 refine AA (CL o!) λO G=>AB ⟨s.1,?_⟩;grind;refine AA (Ca (Ae _) a) λP H=>AA (RY a o!) λD _=>AA (Ca o! i! i!) λy c=>AA (Ag f.1 g!) λj d=>?_;have i:=c.2;simp only[len]at i;generalize t:E7 ([(ι .u8 (((π ((κ 8 D)^^^(κ 8 (ι .u8 (wi (1+j.1)))))):Nat):Int))]:S Int)=B;have v:U B=1:=by rw[<-t,Mf];rfl
 refine AA (CL o!) λz o=>AA (CL o!) λA p=>AB ⟨d.1,?_⟩;grind
end Go.Pm
