/- Texts of wip, joined and shortened by wip/tools/pack.py; nothing is assumed. -/
import Derived.Test.YtkgodfhnofpglaaGreatDoorK9
noncomputable section
set_option linter.all false
set_option maxHeartbeats 1000000
set_option maxRecDepth 100000
open Option renaming some->D
open List renaming length->Z
open Go renaming Ψ->E
open Bool renaming false->X
open Option renaming none->A
open Bool renaming true->Y
open Go renaming Ω->V
open Option renaming some->δ,none->ε,bind->σ
open Bool renaming true->ζ,false->η
open List renaming length->θ,replicate->ς
open Go.IntKind renaming wrap->ι
open Int renaming toNat->ο
namespace Go.Pm
open Go Go.Ab
noncomputable section

end
def gq(l:List Ad)(f:Ad):Bool:=l.any λy=>y.1==f.1&&y.2.1==f.2.1
def JT(l v:List Ad):List Ad:=v.filter λf=>!gq l f
def ADY{x:CC×List Ad}{f:Ad}(n:θ x.2<=16777216):An (Aa (Kz x f) 0) λr=>(gq x.2 f=ζ/\∃u,r=.inl u/\0<=u)\/(gq x.2 f=η/\r=.inr ()):=by
 refine Cb (λ(s:Int)=>0<=s/\s<=θ x.2/\∀y∈x.2.take s.toNat,¬(y.1=f.1/\y.2.1=f.2.1)) (λs=>((θ x.2:Int)-s).toNat) ⟨AX _,o!,λy a=>by simp at a⟩ (λs m=>?_);have⟨g,o,i⟩:=m;unfold Kz;dsimp[len];refine AC (λd=>?_) (λd=>An.done (.inr ⟨?_,rfl⟩))
 ·rw[AW];refine AA (AI g d) λk l=>?_;have j:¬(k.1=f.1/\k.2.1=f.2.1)->An (δ (Step.next (s+1)):Option (Step Int (Int⊕Unit))) (Ls (λ(s:Int)=>0<=s/\s<=θ x.2/\∀y∈x.2.take s.toNat,¬(y.1=f.1/\y.2.1=f.2.1)) (λs=>((θ x.2:Int)-s).toNat) ((θ x.2:Int)-s).toNat λr=>(gq x.2 f=ζ/\∃u,r=.inl u/\0<=u)\/(gq x.2 f=η/\r=.inr ())):=λhn=>by
   refine An.next ⟨o!,o!,λy a=>?_⟩ o!
   rw[show(s+1).toNat=s.toNat+1 by omega,CI,l.1]at a;grind[List.mem_singleton]
  refine AQ (λb=>AQ (λc=>An.done (.inl ⟨?_,s,rfl,g⟩)) (λc=>j λq=>c q.2)) (λb=>j λq=>b q.1);grind[gq,List.any_eq_true]
 rw[BK o!]at i;unfold gq;refine oM.2 λh=>?_;have⟨y,a,e⟩:=ak.1 h;simp[BN,J!]at e;exact i y a e
def AAt{x:CC×List Ad}{v:List Ad}(f:θ x.2<=16777216)(k:θ v<=16777216):An (Aa (K0 x v) 0) λr=>(∃u:Nat,r=.inl (u:Int)/\u<θ v/\JT x.2 (v.take (u+1))=v.take u)\/(r=.inr ()/\JT x.2 v=v):=by
 refine Cb (λ(s:Int)=>0<=s/\s<=θ v/\JT x.2 (v.take s.toNat)=v.take s.toNat) (λs=>((θ v:Int)-s).toNat) ⟨AX _,o!,rfl⟩ (λs e=>?_);have⟨d,l,a⟩:=e;unfold K0;dsimp[len];refine AC (λb=>?_) (λb=>An.done (.inr ⟨rfl,by rw[BK o!]at a;exact a⟩));rw[AW];refine AA (AI d b) λh _=>AA (AI d b) λi j=>AA (ADY f) λr hr=>?_;have g:v.take (s.toNat+1)=v.take s.toNat++[i]:=by grind[List.take_add_one]
 rcases hr with⟨c,u,rfl,m⟩|⟨c,rfl⟩
 ·grind[BG,An.done,Int.toNat_of_nonneg,JT]
 ·refine Av (An.next ⟨o!,o!,?_⟩ o!);rw[show(s+1).toNat=s.toNat+1 by omega,g];unfold JT at a⊢;rw[Gr,a,PZ,c];simp
def AAl{x:CC×List Ad}{v:List Ad}{u:Nat}(o:θ x.2<=16777216)(D_:θ v<=16777216)(C:u<θ v)(h:JT x.2 (v.take (u+1))=v.take u):An (Aa (K1 x) (wi ((u:Int)+1),(u:Int),v)) λr=>0<=r.1/\r.1<=θ r.2/\θ r.2=θ v/\r.2.take r.1.toNat=JT x.2 v:=by
 rw[AW];refine Cb (λ(s:Int×Int×List Ad)=>∃j i:Nat,s.1=j/\s.2.1=i/\i<j/\j<=θ v/\θ s.2.2=θ v/\s.2.2.take i=JT x.2 (v.take j)/\s.2.2.drop j=v.drop j) (λs=>((θ v:Int)-s.1).toNat) ⟨u+1,u,rfl,rfl,o!,o!,rfl,h.symm,rfl⟩ ?_;rintro⟨_,_,w⟩ ⟨j,i,rfl,rfl,E,F,k,e,g⟩;dsimp only at k e g;unfold K1;dsimp[len];refine AC (λf=>?_) (λf=>An.done ⟨d!,d!,k,by dsimp only;rw[Cz,e,BK o!]⟩);have B:j<θ v:=o!
 rw[AW (x:=(j:Int)+1)];refine AA (AI o! f) λp _=>AA (AI o! f) λd n=>AA (ADY o) λr hr=>?_;have A_:d=v[j]:=by have a:=n.1;rw[Cz,As o!]at a;have b:=E! (λz=>z[0]?) g;simp[Iu,Jz]at b;grind[List.getElem?_eq_getElem,Option.some.inj]
 have m:v.take (j+1)=v.take j++[d]:=by grind[List.take_add_one,List.getElem?_eq_getElem]
 have l:w.drop (j+1)=v.drop (j+1):=by rw[<-MM,<-MM,g]
 have keep:gq x.2 d=η->An (σ (ix w (i:Int)) λt=>σ (ix w (i:Int)) λy=>δ (Step.next ((j:Int)+1,wi ((i:Int)+1),E2 w (i:Int) d)):Option (Step (Int×Int×List Ad) (Int×List Ad))) (Ls (λ(s:Int×Int×List Ad)=>∃j i:Nat,s.1=j/\s.2.1=i/\i<j/\j<=θ v/\θ s.2.2=θ v/\s.2.2.take i=JT x.2 (v.take j)/\s.2.2.drop j=v.drop j) (λs=>((θ v:Int)-s.1).toNat) ((θ v:Int)-(j:Int)).toNat λr=>0<=r.1/\r.1<=θ r.2/\θ r.2=θ v/\r.2.take r.1.toNat=JT x.2 v):=λc=>by
  rw[AW (x:=(i:Int)+1)];refine AA (AI) λ_ _=>AA (AI) λ_ _=>An.next ⟨j+1,i+1,rfl,rfl,o!,o!,?_,?_,?_⟩ d!
  grind[E2,List.length_set];dsimp only[E2];rw[Cz,m,CI,List.take_set_of_le (Ai _),e,GJ o!];unfold JT;rw[Gr,PZ,c];simp;dsimp only[E2];rw[Cz,List.drop_set_of_lt o!];exact l
 rcases hr with⟨c,q,rfl,G⟩|⟨c,rfl⟩
 ·apply BG;rw[G! (by omega:q>=0),Ca,A!];refine An.next ⟨j+1,i,rfl,rfl,o!,o!,k,?_,l⟩ d!
  dsimp only;rw[m,e];unfold JT;rw[Gr,PZ,c];simp
 exact Av (keep c)
def ADg(x:CC×List Ad):Aa (Oo x) 0=δ (.inr ()):=by rw[ES];rfl
def ABT{x:CC×List Ad}(i:θ x.2<=16777216)(l:θ x.1.2.2.1.2.2.1<=16777216)(n:θ x.1.2.2.2.1<=16777216):PN x=δ (x.1.1,x.1.2.1,(x.1.2.2.1.1,x.1.2.2.1.2.1,JT x.2 x.1.2.2.1.2.2.1,x.1.2.2.1.2.2.2),JT x.2 x.1.2.2.2.1,x.1.2.2.2.2):=by
 suffices z:An (PN x) λr=>r=(x.1.1,x.1.2.1,(x.1.2.2.1.1,x.1.2.2.1.2.1,JT x.2 x.1.2.2.1.2.2.1,x.1.2.2.1.2.2.2),JT x.2 x.1.2.2.2.1,x.1.2.2.2.2) by obtain⟨r,hr,rfl⟩:=z;exact hr
 unfold PN;refine AA (P:=λr=>r=(x.1.1,x.1.2.1,(x.1.2.2.1.1,x.1.2.2.1.2.1,JT x.2 x.1.2.2.1.2.2.1,x.1.2.2.1.2.2.2),x.1.2.2.2)) ?_ λB k=>?_;generalize x.1.2.2.1.2.2.1=v at l⊢;dsimp[len];refine AC (λy=>?_) (λ_=>?_);have o:v=[]:=av.1 o!;rw[ADg,o];exact A6 (Av (AB rfl));refine AA (Ac w!) λa c=>?_;have e:=c.1;rw[CY]at e;subst e;refine AA (AAt i l) λr hr=>?_;rcases hr with⟨u,rfl,s,t⟩|⟨rfl,h⟩;apply BG;rw[beq_eq_false_iff_ne.2 (by omega:(u:Int)≠ -1),A!];refine AA (AAl i l s t) λr hr=>?_;have⟨g,p,A_,q⟩:=hr;have m:zZ r.2 r.1 ((0,0,[]):Ad)=δ (r.2.take r.1.toNat++ς (θ r.2-r.1.toNat) (0,0,[])):=C! ⟨g,p⟩;rw[m,AD];refine AA (CA (AX _) g (by rw[Af,BJ,Fz];omega)) λf d=>AB ?_;have b:f=JT x.2 a:=by rw[d.1,<-q];show List.take (r.1.toNat-0) (List.drop 0 (List.take r.1.toNat r.2++_))=_;rw[Xj,VV];exact Fg (by rw[BJ];omega)
 rw[b];grind[Av,AB];subst k;dsimp only;generalize x.1.2.2.2.1=v at n⊢;dsimp[len];refine AA (P:=λr=>r=(x.1.1,x.1.2.1,(x.1.2.2.1.1,x.1.2.2.1.2.1,JT x.2 x.1.2.2.1.2.2.1,x.1.2.2.1.2.2.2),JT x.2 v,x.1.2.2.2.2)) ?_ λr hr=>AB hr;refine AC (λy=>?_) (λ_=>?_);have o:v=[]:=av.1 o!;rw[show Aa (Oo x) 0=δ (.inr ())from ADg x,o];exact A6 (Av (AB rfl));refine AA (Ac w!) λa c=>?_;have e:=c.1;rw[CY]at e;subst e;have w:An (Aa (K0 x a) 0) λr=>(∃u:Nat,r=.inl (u:Int)/\u<θ a/\JT x.2 (a.take (u+1))=a.take u)\/(r=.inr ()/\JT x.2 a=a):=AAt i n;refine AA w λr hr=>?_;rcases hr with⟨u,rfl,s,t⟩|⟨rfl,h⟩;apply BG;rw[beq_eq_false_iff_ne.2 (by omega:(u:Int)≠ -1),A!];have j:An (Aa (K1 x) (wi ((u:Int)+1),(u:Int),a)) λr=>0<=r.1/\r.1<=θ r.2/\θ r.2=θ a/\r.2.take r.1.toNat=JT x.2 a:=AAl i n s t;refine AA j λr hr=>?_;have⟨g,p,A_,q⟩:=hr;have m:zZ r.2 r.1 ((0,0,[]):Ad)=δ (r.2.take r.1.toNat++ς (θ r.2-r.1.toNat) (0,0,[])):=C! ⟨g,p⟩;rw[m,AD];refine AA (CA (AX _) g (by rw[Af,BJ,Fz];omega)) λf d=>AB ?_;have b:f=JT x.2 a:=by rw[d.1,<-q];show List.take (r.1.toNat-0) (List.drop 0 (List.take r.1.toNat r.2++_))=_;rw[Xj,VV];exact Fg (by rw[BJ];omega)
 rw[b];exact Av (AB (by rw[h]))
def xq{b d:Type}{f g:b->Option d}:∀{l:List b},(∀x∈l,f x=g x)->l.filterMap f=l.filterMap g
 |[],_=>rfl
 |a::l,h=>by rw[oV,oV,h a Ip,xq λx c=>h x (CN _ c)]
def dM(l v:List Ad):(JT l v).Sublist v:=List.filter_sublist
def AR.less{L:List EN}{a:AM}{k:List Ad}{c:Nat}(h:AR L a)(i:k.Sublist a.2.2.1)(hr:RC a c):AR L (a.1,a.2.1,k,a.2.2.2)/\RC (a.1,a.2.1,k,a.2.2.2) c/\(∀e,e∈F9 (a.1,a.2.1,k,a.2.2.2)↔∃f∈k,Good a f e.1/\e.2=f.2.1):=by
 obtain⟨B,C,D_,E,F,H,G⟩:=id h.vb;have d:VB (a.1,a.2.1,k,a.2.2.2):=⟨B,C,D_,E,F,by have:=i.length_le;dsimp only;omega,G.sub i⟩
 have s:∀f∈k,intR (a.1,a.2.1,k,a.2.2.2) f=intR a f:=λf o=>by rcases h.files f (i.subset o)with q|⟨r,p,_⟩;exact(q.intR d.1).trans (q.intR h.vb.1).symm;have n:Good (a.1,a.2.1,k,a.2.2.2) f r:=p.congr rfl rfl;exact(n.intR d.1).trans (p.intR h.vb.1).symm
 have b:(F9 (a.1,a.2.1,k,a.2.2.2)).Sublist (F9 a):=by have e:F9 (a.1,a.2.1,k,a.2.2.2)=k.filterMap (intR a):=xq s;rw[e];exact i.filterMap _
 have g:AR L (a.1,a.2.1,k,a.2.2.2):=⟨d,λf o=>(h.files f (i.subset o)).imp id λ⟨r,w,z,A_⟩=>⟨r,w.congr rfl rfl,z,A_⟩,λx t y u=>h.dis x (b.subset t) y (b.subset u)⟩
 refine⟨g,λv=>C9 (b.filter _).length_le (hr v),λe=>?_⟩;rw[wo g e];exact⟨λ⟨f,j,l,m⟩=>⟨f,j,l.congr rfl rfl,m⟩,λ⟨f,j,l,m⟩=>⟨f,j,l.congr rfl rfl,m⟩⟩
def OKp(L:List EN)(d:Int)(m:Nat)(a:AM)(l:AZ)(fs:List Ad)(k:Nat)(p:Int):Prop:=∃lo hi fl,Sn a p lo hi/\rN (fT a l lo) k fl/\(fl=0\/∃x,WM L d m fs (θ fs) x/\pr x p<=k/\fl<=pr x p)
def AGj{n d:Int}{L:List EN}{v:CC}{k m c:Nat}(G:LI n L)(H:He L)(u:AR L v.2.2.1)(P:S9 L v.1.2.2.1)(hr:RC v.2.2.1 c)(g:c<=12)(O:k<=θ L)(I:v.1.2.2.1.2.2=k)(y:(m:Int)=v.2.2.1.2.1)(hn:1<=m/\m<=64)(E:θ v.2.2.2.1<=8)(K:∀f∈v.2.2.2.1,FI L d m f):An (Aa (Rl v) 0) λr=>(r=.inl η/\∃p:Int,0<=p/\p<m/\¬OKp L d m v.2.2.1 v.1.2.2.1 v.2.2.2.1 k p)\/(r=.inr ()/\∀p:Int,0<=p->p<m->OKp L d m v.2.2.1 v.1.2.2.1 v.2.2.2.1 k p):=by refine Cb (λ(s:Int)=>0<=s/\s<=m/\∀p:Int,0<=p->p<s->OKp L d m v.2.2.1 v.1.2.2.1 v.2.2.2.1 k p) (λs=>((m:Int)-s).toNat) ⟨AX _,o!,λp b e=>o!⟩ (λs F=>?_);have⟨A_,Y_,B⟩:=F;unfold Rl;rw[<-y,I];refine AC (λw=>?_) (λw=>An.done (.inr ⟨rfl,λp b e=>B p b o!⟩));have⟨R,M,C,e,t,Q⟩:=ABO G H u P hr g O y hn E (λf q=>.inl (K f q)) (p:=s) ⟨A_,o!⟩;rw[AW];refine AA Q λr h=>AK (λo=>An.done (.inl ⟨rfl,s,A_,w,?_⟩)) (λz=>An.next ⟨o!,o!,λp b a=>?_⟩ o!);rcases h with⟨_,T,U⟩|⟨q,_⟩;rintro⟨S,N,D_,a,i,q⟩;have l:=e.uniq u.vb.1 rfl rfl a;subst l;have j:=t.uniq (λ_=>Iff.rfl) i;subst j;rcases q with q|⟨x,V,W,X_⟩;exact T q;exact U x V W X_;exact N! q o;by_cases J:p=s;rcases h with⟨q,_⟩|⟨_,_,_,_,q⟩;rw[q]at z;cases z;rw[J];exact⟨R,M,C,e,t,q⟩;exact B p b o!
def ACh{n d:Int}{L:List EN}{x:CC×List Ad}{k m c:Nat}(i:LI n L)(j:He L)(e:AR L x.1.2.2.1)(g:S9 L x.1.1.2.2.1)(hr:RC x.1.2.2.1 c)(a:c<=12)(s:k<=θ L)(l:x.1.1.2.2.1.2.2=k)(t:(m:Int)=x.1.2.2.1.2.1)(hn:1<=m/\m<=64)(A_:θ x.1.2.2.2.1<=8)(o:∀f∈x.1.2.2.2.1,FI L d m f)(z:θ x.2<=16777216):An (FX x) λb=>b=ζ↔∀p:Int,0<=p->p<m->OKp L d m (x.1.2.2.1.1,x.1.2.2.1.2.1,JT x.2 x.1.2.2.1.2.2.1,x.1.2.2.1.2.2.2) x.1.1.2.2.1 (JT x.2 x.1.2.2.2.1) k p:=by obtain⟨v,u,rfl⟩:=HF e.vb;obtain⟨w,y,rfl⟩:=Ji g.vl;have⟨a1,a2,_⟩:=e.less (dM x.2 _) hr;have B:=(dM x.2 x.1.2.2.2.1).length_le;have C:=e.vb.2.2.2.2.2.1;unfold FX;rw[u,AD,Ca,A!,y,AD,Ca,A!,ABT z o! o!,AD];refine AA (AGj i j a1 g a2 a s l t hn d! (λf q=>o f ((dM _ _).subset q))) λr h=>?_;grind[BG,AB,Av]
def AEB{L:List EN}{d:Int}{m:Nat}{fs:List Ad}{x:A0}:WM L d m fs (θ fs) x↔PI L d m x/\∃f,fs.find? (λg=>g.1==2&&g.2.1==x.1)=δ f/\f.2.2=encI x:=by constructor;rintro⟨i,f,c,b,s,first,k,a,id⟩;refine⟨k,f,?_,a⟩;rw[List.find?_eq_some_iff_getElem];rw[As c]at b;refine⟨by rw[s,id];simp,i,c,BH b,λj h=>?_⟩;rw[VT,uX];by_cases l:(fs[j]' o!).1=2;right;rw[id];exact beq_eq_false_iff_ne.2 (first j _ h (As o!) l);left;exact beq_eq_false_iff_ne.2 l;rintro⟨k,f,b,a⟩;rw[List.find?_eq_some_iff_getElem]at b;obtain⟨e,i,c,o,h⟩:=b;simp only[BN,J!]at e;refine⟨i,f,c,by rw[As c,o],e.1,λj g p n q r=>?_,k,a,e.2.symm⟩;have:=h j p;rw[As o!]at n;rw[BH n,q,r,e.2]at this;simp at this
def bd0{n:Int}(h:1<=n/\n<=64):BD n [0]:=⟨h.1,h.2,g!,g!,rfl,λi a b e c d=>by simp at c d,λa c=>by simp at c;omega⟩
def ACY{x:Int×List Int}(h:BD x.1 x.2):An (EE x) λr=>r.2=0/\r.1.2.2.1=[]/\r.1.1=x.2:=by unfold EE;refine AA Xm λc a=>AO (λb=>N! (a.2 h) (by simp[b])) (λ_=>?_);have:=h.2.2.2.1;grind[AA,Ac,AB]
def ABM{n:Int}(h:1<=n/\n<=64):An (Gk (n,1)) λr=>r.2=0/\r.1.2.2.1=(1,[],0):=by grind[KC,Gk,AA,Pp,Pq,AB]
def ACX{n:Int}(h:1<=n/\n<=64):An (Fb n) λr=>r.2=0:=by grind[Fb,AA,M8,AB]
def ACZ{n:Int}(h:1<=n/\n<=64):An (Nl (n,0)) λr=>r.2=0:=by
 have a:Lo (n,0,[],[])=δ ζ:=by
  have l1:Aa (SU (n,0,[],[])) (0,0)=δ (.inr 0):=by rw[ES];rfl
  grind[Aa,SV,ES,Lo,AW]
 grind[Nl,Bool.not_true,AB]
def AEi(x:GF 8 Int):An (Nn x) λ_=>True:=by
 unfold Nn;refine AA (P:=λ_=>True) ?_ λv _=>AO (λ_=>AB trivial) (λ_=>AB trivial);unfold Pt;refine AA (P:=λ_=>True) ?_ λr _=>A9 (λ_ _=>AB trivial) (λ_ _=>?_)
 ·refine Cb (λ(s:Int)=>0<=s/\s<=8) (λs=>(8-s).toNat) ⟨AX _,g!⟩ (λs c=>?_);have⟨b,d⟩:=c;unfold SY;dsimp only;refine AC (λa=>?_) (λ_=>An.done trivial);rw[AW];exact AA (CQ b a) λ_ _=>AA (CQ b a) λ_ _=>AC (λ_=>An.done trivial) (λ_=>AA (CQ b a) λ_ _=>AA (CQ b a) λ_ _=>AC (λ_=>An.done trivial) (λ_=>An.next o! o!))
 dsimp only;rw[AW];exact AC (λ_=>AC (λ_=>AC (λ_=>AA (CQ g! g!) λ_ _=>AA (CQ g! g!) λ_ _=>AB trivial) (λ_=>AB trivial)) (λ_=>AB trivial)) (λ_=>AB trivial)
def AAU{n:Int}(h:1<=n/\n<=64):An (KF (n,1,0,([0]:List Int))) λr=>r.1.1.2.2.1=(1,[],0)/\AR [] r.1.2.2.1/\RC r.1.2.2.1 0/\r.1.2.2.1.2.1=n/\r.1.2.2.1.2.2.1=[]/\r.1.2.2.2.1=[]:=by unfold KF;dsimp only;refine AA (ABM h) λk b=>AK (λa=>N! b.1 a) (λ_=>?_);rw[AW,show n+0=n by omega];refine AA (ACX h) λl d=>AK (λa=>N! d a) (λ_=>AA ((ACb (L:=[]) (x:=(n,[0])) (bd0 h)).and (ACY (bd0 h))) λm c=>AK (λa=>N! c.2.1 a) (λ_=>AA (ACZ h) λo e=>AK (λa=>N! e a) (λ_=>?_)));obtain⟨⟨f,q,g,s,i,t⟩,u,j,_⟩:=c;exact A6 (AA (AEi _) λp _=>AB ⟨b.2,f,g,i,j,rfl⟩)
theorem AGU{n:Int}{a:CC}(h:1<=n/\n<=64)(w:a.1.2.2.1=(1,[],0))(s:AR [] a.2.2.1)(hr:RC a.2.2.1 0)(hn:a.2.2.1.2.1=n)(B:a.2.2.1.2.2.1=[])(t:a.2.2.2.1=[]):FX (a,[])=δ ζ:=by
 have C:Dd ((1,[],0):AZ):=⟨g!,g!,g!,g!,g!,λi e h=>by simp at h⟩
 have c:S9 [] a.1.2.2.1:=by grind[ga]
 have⟨m,y⟩:=FC (show 0<=n by omega);have⟨b,v,l⟩:=ACh (x:=(a,[])) (d:=0) (k:=0) (m:=m) (LI.nil 0) He.nil s c hr g! (Ai _) (by dsimp only;rw[w];rfl) (by dsimp only;rw[hn,y]) o! (by dsimp only;rw[t];exact Bo _) (λf q=>by dsimp only at q;rw[t]at q;cases q) (by exact Bo _);rw[v,l.2 λp A_ D_=>?_];have⟨a1,_,_⟩:=s.less (dM [] _) hr;have⟨z,o,u,r,g,_,_⟩:=yy (p:=p) (i:=0) (j:=((0:Nat):Int)) (CPa 4096) g! (LI.nil 0) o! (AX _) o! o! a1 c ⟨A_,by dsimp only;rw[hn];omega⟩;exact⟨z,o,u,r,g,.inl (by have:=g.1;have:=g.2.1;omega)⟩
def AIe{l:List Int}(h:θ l<=1):An (IP l ()) λr=>r=l:=by
 have step:∀n:Int,An (FA (λ_=>ε) l (0,len l,n)) λr=>r=l:=λn=>by unfold FA;refine AA (P:=λr=>r=l) ?_ λr hr=>AB hr;rw[ES];unfold OJ;dsimp[len];rw[AW,G! o!,B!];rw[(by grind[FQ,AW,ES,KG]:FQ l (0,(θ l:Int))=δ l),AD,HD,B!];exact⟨l,rfl,rfl⟩
 unfold IP J3;obtain⟨n,g,-,-⟩:=vk (x:=θ l) o!;rw[WI,show(len l)%18446744073709551616=(θ l:Int) by show((θ l:Nat):Int)%_=_;omega,g];simp[AD];refine AA (P:=λr=>r=l) ?_ λe c=>?_;have⟨r,hr,d⟩:=step n;have⟨s,b⟩:=fX (f:=λg (p:List Int×(Int×(Int×Int)))=>FA g p.1 p.2) (x:=(l,0,len l,n)) (n:=1) hr;have⟨N,a⟩:=cD b;refine⟨s,b,?_⟩;cases N with
 |zero=>cases a
 |succ N=>exact(step n).get a
 grind[Nat.beq_refl,AB]
theorem AIO:Pl (ι .u64 0)=δ 0:=by decide+kernel
def AIY{s:Int}:An (Wx (0,s)) λr=>θ r<=1:=by
 unfold Wx;dsimp only;rw[F! o!,A!];refine AA (P:=λr:List Int=>θ r<=1) ?_ λe b=>AA (AIe b) λf d=>?_
 ·refine Cb (λ(t:Int×List Int)=>(t.1=0/\t.2=[])\/(t.1=1/\θ t.2<=1)) (λt=>(1-t.1).toNat) (.inl ⟨rfl,rfl⟩) ?_;rintro⟨i,l⟩ a;unfold gg;dsimp only at a⊢;rw[(by decide+kernel:(wi (1*(2^(min (ο 0) 64))))=1)];refine AC (λc=>?_) (λc=>An.done (by rcases a with⟨q,_⟩|⟨_,q⟩;omega;exact q));grind[AIO,AW,AQ,AA,Ac,An.next]
 grind[Nat.beq_refl,AB]
def AG3{a:CC}(c:AR [] a.2.2.1)(t:a.2.2.1.2.2.1=[])(p:a.2.2.2.1=[]):Vq a=δ []:=by
 obtain⟨q,j,v,k,_,rfl,_,_⟩:=y8 c.vb c.ds (WC c.vb) c.dis;rw[(by grind[F9]:F9 a.2.2.1=[])]at k;have r:v=[]:=k.eq_nil;subst r;have⟨V,o,y,l⟩:=vQ (L:=[]) (d:=0) (m:=1) He.nil g! g! (fs:=[]) g! (λf q=>by cases q);have h:V=[]:=List.eq_nil_iff_forall_not_mem.2 λx s=>by have⟨i,f,q,_⟩:=(l x).1 s;exact N! q (Nat.not_lt_zero _)
 subst h;have u:Aa cO (0,[])=δ []:=by rw[ES];rfl
 have w:Aa (Q7 []) (0,[])=δ []:=by rw[ES];rfl
 have l2:∀b:Int,Aa (cN (0,len ([]:List Int),b,ζ,ζ)) (wi (0+1))=δ ():=λb=>by rw[ES];rfl
 have l1:∀b:Int,Aa Vc (0,len ([]:List Int),b,ζ,ζ)=δ ():=λb=>by rw[ES];unfold Vc;dsimp only;rw[G! (show wi ((len ([]:List Int))-0)<=12 from by decide+kernel),B!,l2,AD]
 unfold Vq;rw[j,AD,p,o];rw[G! (show len (List.map (λx:NE=>x.2) [])=0 from rfl),B!];unfold J3;obtain⟨n,g,-,-⟩:=vk (x:=0) g!;have e:ι .u64 (len ([]:List Int))=((0:Nat):Int):=rfl;grind
def AIh{n:Int}{a:CC}(h:1<=n/\n<=64)(o:a.1.2.2.1=(1,([],0)))(c:AR [] a.2.2.1)(hr:RC a.2.2.1 0)(hn:a.2.2.1.2.1=n)(l:a.2.2.1.2.2.1=[])(m:a.2.2.2.1=[]):UL (a,3)=some ([],0):=by
 suffices p:An (UL (a,3)) λr=>r=([],0) by obtain⟨r,hr,rfl⟩:=p;exact hr
 have q:Dd ((1,([],0)):AZ):=⟨g!,g!,g!,g!,g!,λi e h=>by simp at h⟩
 obtain⟨v,b,rfl⟩:=HF c.vb;obtain⟨w,t,rfl⟩:=Ji q;unfold UL;dsimp only;rw[b,AD,Ca,cond_false,o,t,AD,Ca,cond_false,decide_eq_false g!,cond_false,decide_eq_false g!,cond_false,AG3 c l m,AD,decide_eq_false g!,cond_false];refine AA (P:=λr=>r=([],[])) ?_ λr hr=>AB (by rw[hr]);refine Cb (λ(s:Int×List (List Ad)×List Int)=>0<=s.1/\s.1<=4/\s.2=([],[])) (λs=>(4-s.1).toNat) ⟨AX _,u!,rfl⟩ ?_;rintro⟨i,_⟩ ⟨u,x,rfl⟩;dsimp only at u x;unfold gb;dsimp only;refine AC (λd=>?_) (λ_=>An.done rfl);refine AA (AIY (s:=i)) λg z=>AA (P:=λr=>r=([],[])) ?_ λr hr=>An.next ⟨by dsimp only;rw[AW];omega,by dsimp only;rw[AW];omega,hr⟩ (by dsimp only;rw[AW];omega)
 refine Cb (λ(s:Int×List (List Ad)×List Int)=>0<=s.1/\s.1<=g.length/\s.2=([],[])) (λs=>((g.length:Int)-s.1).toNat) ⟨AX _,d!,rfl⟩ ?_;rintro⟨j,_⟩ ⟨f,y,rfl⟩;dsimp only at f y;unfold gd;dsimp[len];refine AC (λd=>?_) (λ_=>An.done rfl);refine AA (AI f d) λk _=>?_;have A_:Aa (gf (j,([],[])) k) 0=some (.inr ()):=by rw[ES];rfl
 have B:Aa (WT [] k) (0,[])=some []:=by rw[ES];rfl
 grind[Av,AGU,Bool.not_true,AW,An.next]
def AEt:IT ()=δ ζ:=by
 suffices i:An (IT ()) λr=>r=ζ by obtain⟨r,hr,rfl⟩:=i;exact hr
 unfold IT;refine AA (AAU (n:=2) g!) λv h=>?_;have⟨a,b,c,d,e,f⟩:=h;have g:Q8 v.1=δ (3,0):=by unfold Q8;rw[AIh (n:=2) g! a b c d e f];rfl
 rw[g,AD,AGU (n:=2) g! a b c d e f];exact AB rfl
def AFU{f e:EN}(h:¬iY f e)(hn:f.1≠e.1):iY e f:=by unfold iY at*;omega
def ACQ{l:List EN}{e:EN}(F:l.Pairwise iY)(hn:∀x∈l,x.1≠e.1)(h:θ l<=16777000):An (CD (l,e)) λr=>θ r.1=θ l+1/\r.1.Pairwise iY/\∀y,y∈r.1↔y∈l\/y=e:=by
 unfold CD;refine AA (P:=λ(v:Int)=>0<=v/\v<=θ l/\(∀x∈l.take v.toNat,iY x e)/\∀x,l[v.toNat]?=δ x->¬iY x e) ?_ λv Y_=>?_
 ·refine Cb (λ(s:Int)=>0<=s/\s<=θ l/\∀x∈l.take s.toNat,iY x e) (λs=>((θ l:Int)-s).toNat) ⟨AX _,o!,λx a=>by simp at a⟩ (λs X_=>?_);have⟨G,T,H⟩:=X_;unfold Gd;dsimp[len];refine AC (λz=>?_) (λz=>An.done ⟨G,T,H,λx a=>by have:=Cd a;omega⟩);rw[AW];refine AA (AI G z) λA_ g=>?_;obtain⟨c,D_,B,R⟩:=AAk A_ e;rw[D_,AD];refine AC (λq=>An.next ⟨o!,o!,λx a=>?_⟩ o!) (λq=>An.done ⟨G,T,H,λx a=>?_⟩);rw[show(s+1).toNat=s.toNat+1 by omega,CI,g.1]at a;rcases Ao.1 a with w|w;exact H x w;rw[show x=A_ by simpa using w];exact B.1 q;rw[g.1]at a;rw[<-BH a];exact λw=>q (B.2 w)
 have⟨L,A_,U,v3⟩:=Y_;have o:∀x∈l.drop v.toNat,iY e x:=λx a=>by have⟨k,d⟩:=HC.1 a;rw[Iu]at d;have p:=Cd d;have S:l[v.toNat]?=δ (l[v.toNat]' o!):=As o!;have g:=AFU (v3 _ S) (hn _ (Pa _));obtain _|k:=k;rw[Jz,S]at d;rw[<-BH d];exact g;have:=(EU.1 F) v.toNat (v.toNat+(k+1)) o! p o!;rw[As p]at d;rw[<-BH d];exact kY g this
 have main:An (σ (WJ l 0 v) λt=>
  σ (WJ l v (len l)) λu=>
  σ (app [] t) λb=>
  σ (app b ([e]:List (Int×(Int×(Int×(Int×(Int×(Int×((Int×(Int×((Bool×BV)×(Bool×BV))))×BV))))))))) λO=>
  σ (app O u) λQ=>
  δ (Q,ζ)) λr=>θ r.1=θ l+1/\r.1.Pairwise iY/\∀y,y∈r.1↔y∈l\/y=e:=by
  refine AA (CA (AX _) L A_) λM i=>AA (CA L (by simp[len];omega) i!) λN E=>?_;have ad:=i.2;have I:=E.2;simp[len]at I;refine AA (Ac w!) λt j=>?_;have J:=j.2.1;simp[CU]at J;refine AA (Ac w!) λu m=>?_;have K:=m.2.1;simp[CU,Cg]at K;refine AA (Ac o!) λb n=>AB ?_;have af:=n.2.1;have C:M=l.take v.toNat:=by rw[i.1];simp
  have f:b=l.take v.toNat++[e]++l.drop v.toNat:=by rw[n.1,m.1,j.1,C,(by grind[List.take_of_length_le,List.length_drop]:N=l.drop v.toNat),CY]
  dsimp only;refine⟨o!,?_,λy=>?_⟩;rw[f,A5,List.pairwise_append];refine⟨F.sublist (List.take_sublist _ _),List.pairwise_cons.2 ⟨o,F.sublist (oU _ _)⟩,λx a y Z=>?_⟩;rcases A1.1 Z with w|w;rw[w];exact U x a;exact kY (U x a) (o y w);rw[f];conv=>rhs;rw[<-De v.toNat l]
  grind[List.mem_singleton]
 dsimp[len];refine AC (λz=>?_) (λ_=>main);refine AA (AI L z) λV W=>?_;obtain⟨c,D_,B,R⟩:=AAk V e;rw[D_,AD];exact AQ (λq=>N! (R.1 q).2 (hn V W.2)) (λ_=>main)
def AEg{s7:Bool×(Int×AY)}{e:EN}(d:s7.1=η)(hn:∀x∈s7.2.2.2.2.2.2.2,x.1≠e.1)(j:θ s7.2.2.2.2.2.2.2<=16777000):An (Aa (HS s7 e) (s7.1,0)) λr=>r=η:=by refine Cb (λ(s:Bool×Int)=>s.1=η/\0<=s.2/\s.2<=θ s7.2.2.2.2.2.2.2) (λs=>((θ s7.2.2.2.2.2.2.2:Int)-s.2).toNat) ⟨d,AX _,d!⟩ ?_;rintro⟨b,i⟩ ⟨a,c,g⟩;dsimp only at a c g;subst a;unfold HS;dsimp only[len];refine AC (λf=>?_) (λ_=>An.done rfl);rw[A!];refine AA (AI c f) λv h=>AQ (λq=>N! q (hn v h.2)) (λ_=>?_);rw[AW];exact An.next ⟨rfl,d!⟩ d!
def inR(F T lo hi:Int)(y:EN):Prop:=letI a:=y.2.2.2.2.2.2.1.1;ZK y=ζ/\lo<=a/\a<=hi/\F<=y.1/\y.1<=T
def AEf{e:List EN}{F T g f i:Int}(M:e.Pairwise λx y=>x.1<y.1)(P:θ e≤4096):
  An (Aa (Fu (e,F,T,g,f,i)) (η,0,F,T,g,f,i,[])) λr=>r.1=η/\∃c:List EN,r.2=(F,T,g,f,i,c)/\θ c<=θ e/\c.Pairwise iY/\∀y,y∈c↔y∈e/\inR F T g f y:=by
 refine Cb (λ(s:Bool×(Int×AY))=>s.1=η/\∃(k:Nat)(c:List EN),s.2=((k:Int),F,T,g,f,i,c)/\k<=θ e/\θ c<=k/\c.Pairwise iY/\∀y,y∈c↔y∈e.take k/\inR F T g f y) (λs=>θ e-s.2.1.toNat)
  ⟨rfl,0,[],rfl,Bo _,Ai _,List.Pairwise.nil,λy=>k!⟩ ?_
 rintro⟨Y_,X_⟩ ⟨q,k,c,rfl,Q,R,G,t⟩;dsimp only at q;subst q;unfold Fu;dsimp only;simp only[len];refine AC (λJ=>?_) (λJ=>An.done ⟨rfl,c,rfl,o!,G,by rw[BK o!]at t;exact t⟩);refine AA (AI o! J) λv D_=>?_;have w:=D_.1;rw[Cz]at w;have p:e.take (k+1)=e.take k++[v]:=by rw[CI,w];rfl
 have o:∀x∈e.take k,x.1≠v.1:=λx E O=>by obtain⟨j,u⟩:=HC.1 E;have C:=Cd u;rw[BJ]at C;rw[XT,C! o!]at u;rw[As o!]at u w;have:=(EU.1 M) j k o! o! o!;rw[BH u,BH w]at this;omega
 rw[AW]
 have d:¬inR F T g f v→
   An (δ (Step.next (η,(k:Int)+1,F,T,g,f,i,c)):Option (Step (Bool×(Int×AY)) (Bool×AY))) (Ls (λ(s:Bool×(Int×AY))=>s.1=η/\∃(k:Nat)(c:List EN),s.2=((k:Int),F,T,g,f,i,c)/\k<=θ e/\θ c<=k/\c.Pairwise iY/\∀y,y∈c↔y∈e.take k/\inR F T g f y) (λs=>θ e-s.2.1.toNat) (θ e-((k:Nat):Int).toNat)
    λr=>r.1=η/\∃c:List EN,r.2=(F,T,g,f,i,c)/\θ c<=θ e/\c.Pairwise iY/\∀y,y∈c↔y∈e/\inR F T g f y):=λhn=>by
  refine An.next ⟨rfl,k+1,c,rfl,o!,o!,G,λy=>?_⟩ d!
  rw[p,Ao,A7,t];constructor;rintro⟨a,b⟩;exact⟨.inl a,b⟩;rintro⟨a|a,b⟩;exact⟨a,b⟩;rw[a]at b;exact N! b hn
 refine AA Bs λb I=>AO (λK=>d λh=>?_) (λL=>?_);rw[I.2 (ZL.1 h.1)]at K;cases K;refine AC (λ_=>d λh=>by have:=h.2;omega) (λS=>AC (λ_=>d λh=>by have:=h.2;omega) (λU=>AC (λ_=>d λh=>by have:=h.2;omega) (λV=>AC (λ_=>d λh=>by have:=h.2;omega) (λW=>?_))));have B:inR F T g f v:=⟨ZL.2 (I.1 L),o!⟩
 have n:∀x∈c,x.1≠v.1:=λx E=>o x ((t x).1 E).1;refine AA (AEg (s7:=(η,(k:Int),F,T,g,f,i,c)) rfl n d!) λN z=>AA (ACQ G n o!) λH m=>An.next ⟨z,k+1,H.1,rfl,o!,o!,m.2.1,λy=>?_⟩ d!
 rw[m.2.2,t,p,Ao,A7];constructor;rintro(⟨l,A_⟩|l);exact⟨.inl l,A_⟩;subst l;exact⟨.inr rfl,B⟩;rintro⟨l|l,A_⟩;exact .inl ⟨l,A_⟩;exact .inr l
def AAg{p:Int}{e:EN}:Yp p e=ζ↔ZK e=ζ/\e.2.2.2.2.2.2.1.1=p:=by grind[Yp,ZK]
def AGm{n:Int}{L m:List EN}(Y_:LI n L)(A_:He L)(hl:1<=θ L/\θ L<=4096)(hn:1<=n/\n<=64)(M:m.Pairwise iY)(he:θ m<=4096)(K:∀y,y∈m↔y∈L/\inR 1 (θ L) 0 (n-1) y):VR (1,(θ L:Int),0,n-1,0,m):=by
 refine⟨⟨AX _,d!,d!,AX _,d!,d!,AX _,u!,he⟩,λi e p=>?_⟩;dsimp only at p⊢;have s:=(K e).1 (BM p);obtain⟨k,Q⟩:=Ci s.1;obtain⟨ao,ve⟩:=A_ k e Q;obtain⟨N,R,S,T,U⟩:=s.2;have d:=((Y_ k e Q).1 (ZL.1 N)).1;have look:0<BQ (L.take k) e.2.2.2.2.2.2.1.1->∃g∈m,g.1=BQ (L.take k) e.2.2.2.2.2.2.1.1/\g.2.2.2.2.2.2.1.1=e.2.2.2.2.2.2.1.1/\g.1<e.1:=λI=>by obtain⟨j,g,r,b,Z,hq⟩:=nq A_ I;have ag:=(A_ j g b).1;have al:=Cd b;obtain⟨V,W⟩:=AAg.1 Z;exact⟨g,(K g).2 ⟨BM b,V,o!⟩,o!,W,o!⟩
 have nn:=Sj A_ e.2.2.2.2.2.2.1.1 k;have l:∀g∈m,iY g e->∃j:Nat,j<i/\m[j]?=δ g:=λg b a=>by obtain⟨j,r⟩:=Ci b;refine⟨j,?_,r⟩;rcases Ob j i with q|q|q;exact q;subst q;rw[p]at r;cases r;exact N! a (mT _);have P:=Cd p;have B:=Cd r;have:=(EU.1 M) i j P B q;rw[As P]at p;rw[As B]at r;rw[BH p,BH r]at this;exact N! (kY this a) (mT _)
 have u:(∀g∈m,g.2.2.2.2.2.2.1.1=e.2.2.2.2.2.2.1.1->¬g.1<e.1)->e.2.2.2.2.1<1:=λh=>by rw[d];by_cases I:0<BQ (L.take k) e.2.2.2.2.2.2.1.1;obtain⟨g,F,O,G,H⟩:=look I;exact N! H (h g F G);omega
 refine⟨⟨ve,N,T,U,R,S⟩,λi0=>u λg b E a=>?_,λf i0 v=>?_⟩;obtain⟨j,r,_⟩:=l g b (.inr ⟨E,a⟩);omega;have C:=Cd p;have o:=Cd v;have w:iY f e:=by have:=(EU.1 M) (i-1) i o C o!;rw[As C]at p;rw[As o]at v;rw[BH p,BH v]at this;exact this
 have t:∀g∈m,iY g e->g=f\/iY g f:=λg b a=>by obtain⟨j,r,c⟩:=l g b a;by_cases J:j=i-1;subst J;rw[v]at c;cases c;exact .inl rfl;right;have B:=Cd c;have:=(EU.1 M) j (i-1) B o o!;rw[As B]at c;rw[As o]at v;rw[BH c,BH v]at this;exact this
 refine⟨w,λE=>?_,λE=>u λg b z a=>?_⟩;have x:=(K f).1 (BM v);obtain⟨jf,D_⟩:=Ci x.1;have ad:=(A_ jf f D_).1;have a:f.1<e.1:=by unfold iY at w;omega
 have af:=qx A_ D_ (AAg.2 ⟨x.2.1,E⟩) (k:=k) o!;have X_:=x.2.2.2.2.1;obtain⟨g,F,O,G,H⟩:=look o!;rw[d];rcases t g F (.inr ⟨G,H⟩)with q|q;rw[<-O,q];unfold iY at q;omega;rcases t g b (.inr ⟨z,a⟩)with q|q;rw[q]at z;exact E z;unfold iY at q w;omega
def AEe{x:List EN×Int×Int×Int×Int×Int}(h:∀e∈x.1,L3 e)(j:θ x.1<=16777000)(s:AY):An (Aa (HQ x) (0,s)) λr=>∃u,r=.inr u:=by
 refine Cb (λ(s:Int×AY)=>0<=s.1/\s.1<=θ x.1) (λs=>((θ x.1:Int)-s.1).toNat) ⟨AX _,d!⟩ ?_;rintro⟨i,s⟩ ⟨a,g⟩;dsimp only at a g;unfold HQ;dsimp only[len];refine AC (λd=>?_) (λ_=>An.done ⟨_,rfl⟩);refine AA (AI a d) λv f=>AA CG λb c=>AO (λq=>?_) (λ_=>?_);rw[c.2 (h v f.2)]at q;cases q
 ·rw[AW];exact An.next d! d!
def ACU{n:Int}{L:List EN}(t:LI n L)(c:He L)(k:1<=θ L/\θ L<=4096)(hn:1<=n/\n<=64):An (F8 (L,1,(θ L:Int),0,n-1,0)) λr=>r.2=0:=by
 have v:L.Pairwise λx y=>x.1<y.1:=EU.2 λi j h A z=>by have a:=(c i _ (As h)).1;have b:=(c j _ (As A)).1;omega
 unfold F8;refine AA Ge λF p=>AO (λq=>?_) (λ_=>?_);rw[p.2 ⟨AX _,d!,d!,AX _,d!,d!,AX _,u!⟩]at q;cases q;refine AA (AEe (λe w=>by obtain⟨i,h⟩:=Ci w;exact(c i e h).2) d! _) λG s=>?_;obtain⟨u,rfl⟩:=s;apply Av;refine AA (AEf v k.2) λB f=>?_;obtain⟨d,E,l,D,m,o⟩:=f;rw[d,A!,l];refine AC (λq=>?_) (λ_=>?_);simp only[len]at q;omega;refine AA XO λC g=>AO (λq=>?_) (λ_=>AB rfl);rw[g.2 (AGm t c k hn m o! o)]at q;cases q
noncomputable section

end
noncomputable section

end
noncomputable section

end
def AGJ{a:Type}{l:List a}{i:Nat}(h:i<θ l):ix l (i:Int)=δ l[i]:=by unfold ix;grind
end Go.Pm
