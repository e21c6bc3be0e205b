/- Texts of wip, joined and shortened by wip/tools/pack.py; nothing is assumed. -/
import Derived.Test.YtimajmppopkomaaGreatK8
import Derived.KernelRfl
noncomputable section
set_option linter.all false
namespace Go.Pm
open Go Go.Ab
set_option maxHeartbeats 400000
variable {B:Int->Prop}
def KL(B:Int->Prop)(k m:AQ):Prop:=m.1=k.1/\LX k.2.2.1 m.2.2.1/\SK B m/\D8 m.2.2.1
theorem KL.refl{k:AQ}(h:SK B k)(a:D8 k.2.2.1):KL B k k:=⟨rfl,LX.refl _,h,a⟩
def KL.trans{a b c:AQ}(h:KL B a b)(g:KL B b c):KL B a c:=⟨g.1.trans h.1,h.2.1.trans g.2.1,g.2.2⟩
def KS.kl{a b:AQ}(h:KS B a b):KL B a b:=⟨h.1,h.2.1,h.2.2.2.2.2,h.2.2.1⟩
def wR.kl{a b:AQ}{z:AD}(h:wR a z b)(c:SK B a)(d:z.2.1≠1/\z.2.1≠2/\z.2.1≠6/\z.2.1≠7):KL B a b:=⟨h.1,h.2.1,h.sk c d,h.2.2.1⟩
def SK.locks{k:AQ}{l:A1}(h:SK B k)(a:GL l):SK B (k.1,(k.2.1,(k.2.2.1,(k.2.2.2.1,(l,k.2.2.2.2.2))))):=⟨a,h.2⟩
def O4.idx{p:Bj}(h:O4 p){i j:Nat}{f g:A7}(a:p.2.1[i]? =some f)(b:p.2.1[j]? =some g)(e:g.1.1=f.1.1):j=i:=by have l1:=DU a;have l2:=DU b;rcases P7 i j with q|q|q;exact absurd e.symm (h.2.2.2.2.2.2 i j f g q o! a b);exact q.symm;exact absurd e (h.2.2.2.2.2.2 j i g f q o! b a)
def fh{x:Bj×Int}:Av (NP x) λr=>(∀g∈r.2.1,∃f∈x.1.2.1,f.1.1=g.1.1/\f.1=g.1)/\ ∀f∈x.1.2.1,f.2.1=true-> ∃g∈r.2.1,g.1.1=f.1.1/\g.2.1=true:=by unfold NP;refine AA Fm λv b=>?_;refine AC (λ_=>AB ⟨λg k=>⟨g,k,rfl,rfl⟩,λf a h=>⟨f,a,rfl,h⟩⟩) (λm=>?_);have d:=b.2.2.1 o!;have o:=d.1.2.1;have p:=d.1.2.2.1;refine AA (AI o! b.2.1) λl c=>?_;refine AA (LL d! ⟨d!,b.2.1⟩) λr hr=>AB ?_;subst hr;refine⟨yr c.1 rfl,λf a j=>?_⟩;by_cases e:f.1.1=l.1.1;have⟨i,n⟩:=Eh a;grind[Option.some.inj,List.mem_of_getElem?,List.getElem?_set_self,DU];exact⟨f,ua c.1 f a e,rfl,j⟩
def Zk{x:Bj×AW}:Av (KQ x) λr=>r.2=0->O4 x.1/\ ∃(i:Nat) (f g:A7),x.1.2.1[i]? =some f/\f.1.1=x.2.1/\r.1.2.1=x.1.2.1.set i g/\g.1=x.2/\g.2.1=true:=by unfold KQ;refine AA EY λv c=>?_;refine AO (λ_=>AB n!) (λb=>?_);have h:=(c.1 b).2.1;have j:=(c.1 b).2.2.1;refine AA No λ_ _=>?_;refine AL (λb=>AB λa=>absurd a b) (λ_=>?_);refine AA (Gi d!) λi d=>?_;refine AC (λ_=>AB n!) (λb=>?_);refine AA (AI o! d.2.1) λk e=>?_;refine AC (λ_=>AB n!) (λ_=>?_);refine AA (P:=λ_=>True) (AO (λ_=>AB trivial) (λ_=>AB trivial)) λl _=>?_;grind[AA,LL,AB,Option.some.inj]
def Lg.cell{e:AD}(h:Lg e):0<=e.2.2.2.2.2.2.1.2.1/\e.2.2.2.2.2.2.1.2.1<16:=by have a:=h.2.2.2.2.2.2.2.2;grind[UX,OP,Pg]
def KI.same{k:AQ}(h:KI B k){f g:A7}(a:f∈k.2.2.2.1.2.1)(b:g∈k.2.2.2.1.2.1)(e:g.1.1=f.1.1):g.1=f.1:=by have hr:=h.2.2 f a;rw[(h.2.1 f.1.1 hr.1 hr.2.1).1 g b e];exact((h.2.1 f.1.1 hr.1 hr.2.1).1 f a rfl).symm
def Uk{x:AQ×AD}(h:SK B x.1)(L:D8 x.1.2.2.1)(b:0<=x.2.2.2.2.2.2.2.1.2.1/\x.2.2.2.2.2.2.2.1.2.1<16)(s:x.2.2.1=1\/x.2.2.1=2)(hp:O4 x.1.2.2.2.1)(ad:kf x.1.2.2.2.1 x.2.2.2.2.2.2.2.1.1)(G: ∀f∈x.1.2.2.2.1.2.1,f.1.1=x.2.2.2.2.2.2.2.1.1->Gr f.1.2.2 x.2.2.2.2.2.2.2.1.2.1=some x.2.2.2.2.2.2.2.1.2.2.1):Av (KB x) λr=>KL B x.1 r.1/\(r.2=0->xr x.1.2.2.2.2.2.1 x.2.2.1 x.2.2.2.1 r.1.2.2.2.2.2.1):=by
 unfold KB;refine AA (F6 h.sb) λv hv=>?_;refine AL (λb=>AB ⟨KL.refl h L,λs=>absurd s b⟩) (λN=>?_);have⟨_,l,c⟩:=hv N;refine AA Iq λE S=>?_;refine AA (DQ b.1 b.2) λ_ _=>?_;refine AA (DQ b.1 b.2) λ_ _=>?_;refine AA Zk λv4 Z=>?_;refine AL (λb=>AB ⟨KL.refl h L,λs=>absurd s b⟩) (λO=>AB ⟨⟨l.1,l.2.1,?_,l.2.2.1⟩,λ_=>l.2.2.2.2.2.1⟩);have F:=l.2.2.2.2.2.2.2.1;have⟨_,i,f,g,p,a,d,o,J⟩:=Z O;have⟨_,_,_,_,_,_,a7,_,e,T,P,U,A,V,W,e7⟩:=l;have w:E.2=true:=by cases q:E.2<;>grind
 have y:E.1.1=x.2.2.2.2.2.2.2.1.1:=(S.1 w).2.2.2.1;have C:e.2.2.2.2.2.2.1.1=x.2.2.2.2.2.2.2.1.1:=congrArg (λz=>z.2.1.1) A;have hr:=h.ki.2.2 f (BM p);dsimp only at p a d o c;refine⟨F.1,F.2.1,F.2.2,?_⟩;have t:e.2.1=1\/e.2.1=2:=by rw[U];exact s
 have u: ∀n:Int,n≠1->n≠2->e.2.1≠n:=λn n1 n2 q=>by rcases t with D|D<;>rw[q]at D;exact n1 D;exact n2 D
 unfold KI;dsimp only;rw[l.1,a7,T,W (by rcases s with q|q<;>rw[q]<;>decide),d];have K:g.1.1=f.1.1:=by rw[o,a]
 have m:=BM p;have I:=(h.ki.2.1 f.1.1 hr.1 hr.2.1).1 f m rfl;have M:E.1=f.1:=by have⟨_,_,_,_,f',H,Q⟩:=S.1 w;rw[<-Q];exact h.ki.same m H (by rw[Q,a])
 have R:e.2.2.2.2.2.2.1.2.1=x.2.2.2.2.2.2.2.1.2.1:=congrArg (λz=>z.2.1.2.1) A;have Y:e.2.2.2.2.2.2.1.2.2.1=x.2.2.2.2.2.2.2.1.2.2.1:=congrArg (λz=>z.2.1.2.2.1) A;have X:e.2.2.2.2.2.2.1.2.2.2=x.2.2.2.2.2.2.2.1.2.2.2:=congrArg (λz=>z.2.1.2.2.2) A;refine⟨h.ki.1.app ⟨λq=>⟨V h.ki.2.1 q (by rw[C,<-y,<-a];exact hr.1) (by rw[C,<-y,<-a];exact hr.2.1),by rw[R,Y,C,<-y,<-a,<-I];exact G f m (by rw[a,y])⟩,λq=>absurd q (u 7 g! g!),λq=>absurd q (u 6 g! g!)⟩,?_,h.ki.2.2.set p K⟩;refine h.ki.2.1.change h.ki.2.2 t p (by rw[a,y,C]) (by rw[o,M,c,<-P];unfold upd;rw[R,X]) J (λj k hj q=>hp.idx p hj q) ?_;rw[P];exact iv L _
theorem Bq{x:Int}:Av (A9 x) λr=>r.1=5:=by grind[A9,AB]
theorem fw{x:Int}:Av (A9 x) λr=>r.1=5/\r.2.2.2.2=x:=by grind[A9,AB]
theorem AA4{l:List Ak}{id:Int}(h:l.length<=16777216)(m:fy l id):Av (El (l,id)) λr=>0<=r/\r<l.length:=by
 unfold El;refine AA (P:=λr=> ∃u:Int,r= .inl u/\0<=u/\u<l.length) ?_ λr hr=>?_;refine AS (λ(s:Int)=>0<=s/\s<=l.length/\ ∀(j:Nat) (t:Ak),j<s->l[j]? =some t->t.1≠id) (λ(s:Int)=>((l.length:Int)-s).toNat) ⟨Ag _,o!,λj t b=>absurd b o!⟩ (λs k=>?_);obtain⟨g,p,i⟩:=k;unfold Jn;have e:=AZ (x:=s+1);apply AC<;>intro d;simp only[len]at d;refine AA (AI g d) λq a=>?_;refine AV (λ_=>AB ⟨s,rfl,g,d⟩) (λc=>AB ?_);dsimp only at c;rw[e];refine⟨⟨o!,o!,λj t b f=>?_⟩,o!⟩;by_cases n:(j:Int)=s;have:s.toNat=j:=o!
 rw[this]at a;rw[f]at a;have:=Bg a.1;rw[this];exact c;exact i j t o! f;obtain⟨j,t,b,f⟩:=m;have:=DU b;simp only[len]at d;exact absurd f (i j t o! b);obtain⟨u,rfl,o⟩:=hr;exact BK (AB o)
def o7{l:List Ak}{id:Int}(h:l.length<=16777216)(a:fy l id):Av (CR (l,id)) λr=>0<=r/\r<l.length:=by grind[CR,AA,AA4,AB]
def Zp{x:AQ×Int}(h:SK B x.1)(k:D8 x.1.2.2.1)(j:fy x.1.2.2.2.2.2.1 x.2):Av (KY x) λr=>KL B x.1 r.1/\(r.2.1=1\/r.2.1=5):=by unfold KY;refine AA (o7 h.2.1 j) λo c=>?_;refine AA (AI c.1 c.2) λp _=>?_;refine AA (P:=λs=>(∃u,s= .inl u/\KL B x.1 u.1)\/ ∃u,s= .inr u/\KL B x.1 u.1/\(u.2.1=1\/u.2.1=5)) ?_ λs l=>?_;refine AV (λ_=>?_) (λ_=>?_);refine AA (JM h.2.1) λq d=>AB (.inl ⟨_,rfl,rfl,LX.refl _,⟨h.1,?_,h.2.2⟩,k⟩);have:=mD x.1.2.2.2.2.2.1 x.2;have e:=h.2.1;dsimp only at*;rw[d];omega;refine AA (F6 h.sb) λt f=>?_;refine AL (λn=>?_) (λm=>?_);grind[AA,Bq,AB,KL.refl];have b:=(f m).2.1.kl h u!;refine AA (Jo b.2.2.1 b.2.2.2) λv g=>AB (.inl ⟨_,rfl,b.trans g.1.kl⟩);rcases l with⟨u,rfl,a⟩|⟨u,rfl,a⟩;apply BK;refine AA (Lm a.2.2.1.1) λw i=>AB ⟨⟨a.1,a.2.1,a.2.2.1.locks i,a.2.2.2⟩,.inl rfl⟩;exact A5 (AB a)
def V2{x:AQ×Int×Cm}{a:Ak}{s:Int}(h:0<=s/\s<=a.2.2.2.2.1.length/\(a.2.2.2.2.1.length:Int)<=16777216):Av (Af (K0 x a) s) λr=>True:=by
 refine AS (λ(s:Int)=>0<=s/\s<=a.2.2.2.2.1.length/\(a.2.2.2.2.1.length:Int)<=16777216) (λ(s:Int)=>((a.2.2.2.2.1.length:Int)-s).toNat) h (λs c=>?_);unfold K0;repeat' with_reducible first|intro b|apply AC|apply AV|apply AJ|apply AB|(apply AA (G5);intro r hr)|(refine AM ?_ (AI ?_ ?_);rintro r ⟨hr,d⟩)
 all_goals exact l!
def AEY{l:List Ak}{i:Nat}{t:Ak}(h:l[i]? =some t):t.2.2.2.2.1.length<TP l:=by
 induction l generalizing i with
 |nil=>simp at h
 |cons a r b=>
  unfold TP;rw[Bo,Uy];cases i with
  |zero=>simp at h;rw[h];omega
  |succ i=>have:=b (i:=i) (by simpa using h);unfold TP at this;omega
def AFl{l:List Ak}(h: ∀(i:Nat) (t:Ak),l[i]? =some t->t.2.2.2.2.1.length<=4096):TP l<=l.length*4097:=by
 induction l with
 |nil=>simp[TP]
 |cons a r c=>have d:=h 0 a k!;have e:=c (λi t b=>h (i+1) t (by simpa using b));unfold TP at*;grind[List.length_cons]
def Xu.tp{l:List Ak}(h:Xu l):TP l<=262208:=by have:=AFl (l:=l) (λi t a=>(h.2 i t a).1);have:=h.1;omega
def YL{x:AQ×Int×Cm}(h:x.1.2.2.2.2.2.1.length<=16777216)(d:TP x.1.2.2.2.2.2.1<=262208)(c:fy x.1.2.2.2.2.2.1 x.2.1):Av (Jr x) λr=>True:=by unfold Jr;refine AA (o7 h c) λe a=>?_;refine AA (AI a.1 a.2) λf b=>?_;have:=AEY b.1;refine AA (V2 ⟨Ag _,o!⟩) λr _=>?_;grind[A8,AB]
def TD{x:AQ×Int×Int}(h:SK B x.1)(z:D8 x.1.2.2.1)(A:Xu x.1.2.2.2.2.2.1)(p:x.2.1≠0)(y:fy x.1.2.2.2.2.2.1 x.2.1):Av (Is x) λr=>KL B x.1 r.1/\(r.2.1=x.2.2\/r.2.1=5):=by
 unfold Is;refine AA (Zg h.1) λL c=>?_;refine AA (o7 h.2.1 y) λM n=>?_;refine AA (AI n.1 n.2) λN _=>?_;refine AV (λ_=>?_) (λ_=>?_);refine AA (JM h.2.1) λO t=>?_;refine AA (Lm c) λQ u=>AB ⟨⟨rfl,LX.refl _,⟨u,?_,h.2.2⟩,z⟩,.inl rfl⟩;have:=mD x.1.2.2.2.2.2.1 x.2.1;have q:=h.2.1;dsimp only at*;rw[t];omega;refine AA (F6 (h.locks c).sb) λf v=>?_;refine AL (λi=>?_) (λC=>?_);grind[AA,Bq,AB,KL.refl];have j:=(v C).2.1;have o:=j.2.2.2.2.2.1;have K:=(o.2.2.1 p (by show(4:Int)≠1;decide)).2;have D:=A.tp;have b:KL B x.1 f.1:=⟨j.1,j.2.1,(j.kl (h.locks c) u!).2.2⟩
 refine AA (P:=λr=>KL B x.1 r) ?_ λr hr=>AB ⟨hr,.inl rfl⟩;refine AS (λ(s:Int×AQ)=>0<=s.1/\s.1<=f.1.2.2.2.2.1.1.length/\KL B x.1 s.2/\s.2.2.2.2.2.2.1=f.1.2.2.2.2.2.1) (λs=>((f.1.2.2.2.2.1.1.length:Int)-s.1).toNat) (s:=((0:Int),f.1)) ⟨Ag _,d!,b,rfl⟩ (λs w=>?_);have⟨m,J,a,d⟩:=w;unfold Rw;have I:=b.2.2.1.1.1;refine AC (λi=>?_) (λ_=>AB a);simp[len]at i;have e:=AZ (x:=s.1+1);refine AA (AI m i) λR _=>?_;refine AV (λ_=>?_) (λ_=>AB ⟨⟨d!,d!,a,d⟩,d!⟩);refine AA (AI m i) λS _=>?_;refine AA (YL (by dsimp only;rw[d];exact b.2.2.1.2.1) (by dsimp only at*;rw[d];omega) (by dsimp only;rw[d];exact(o.2.2.2 p rfl))) λE _=>?_;refine AA (P:=λk=>KL B x.1 k/\k.2.2.2.2.2.1=f.1.2.2.2.2.2.1) ?_ λH g=>AB ⟨⟨d!,d!,g.1,g.2⟩,d!⟩;refine AO (λ_=>?_) (λ_=>AB ⟨a,d⟩);refine AA (AI m i) λF _=>?_;exact AA (T0 a.2.2.1.1) λG l=>AB ⟨⟨a.1,a.2.1,a.2.2.1.locks l,a.2.2.2⟩,d⟩
end Go.Pm
namespace Go.Pm
open Go Go.Ab
set_option maxHeartbeats 400000
variable {B:Int->Prop}
def Zm{x:AQ×Cs}:Av (KU x) λr=>r=0->x.2.1=4\/x.2.1=5\/x.2.1=6\/x.2.1=7\/(0<=x.2.2.2.1/\x.2.2.2.1<16):=by unfold KU;refine AA (P:=λv=>True) (AJ (λ_=>AB trivial) (λ_=>AA (P:=λ_=>True) (AJ (λ_=>AB trivial) (λ_=>AB trivial)) λ_ _=>AB trivial)) λi _=>?_;refine AA (P:=λs=>(∃u,s= .inl u/\u=1)\/ ∃u,s= .inr u/\(x.2.1=4\/x.2.1=5\/x.2.1=6\/x.2.1=7\/(0<=x.2.2.2.1/\x.2.2.2.1<16))) ?_ λs c=>?_;refine AJ (λ_=>?_) (λ_=>?_);refine AC (λ_=>AB (.inl ⟨_,rfl,rfl⟩)) (λ_=>?_);refine AC (λ_=>AB (.inl ⟨_,rfl,rfl⟩)) (λ_=>?_);refine AC (λ_=>AB (.inl ⟨_,rfl,rfl⟩)) (λe=>?_);refine AC (λ_=>AB (.inl ⟨_,rfl,rfl⟩)) (λf=>?_);refine AA (P:=λ_=>True) (AJ (λ_=>AB trivial) (λ_=>AB trivial)) λj _=>AB (.inr ⟨_,rfl,?_⟩);omega;refine AA (P:=λs=>(∃u,s= .inl u/\u=1)\/ ∃u,s= .inr u/\(x.2.1=4\/x.2.1=5\/x.2.1=6\/x.2.1=7)) ?_ λs c=>?_;refine AV (λh=>?_) (λ_=>?_);refine AC (λ_=>AB (.inl ⟨_,rfl,rfl⟩)) (λ_=>?_);refine AC (λ_=>AB (.inl ⟨_,rfl,rfl⟩)) (λ_=>AB (.inr ⟨_,rfl,o!⟩));refine AA (P:=λb=>b=true->x.2.1=4\/x.2.1=5\/x.2.1=6) ?_ λk g=>?_;grind[AV,AB,AA];simp_all[AJ,AB];grind[BK,AB,A5];rcases c with⟨u,rfl,d⟩|⟨u,rfl,d⟩;grind[BK,AB];apply A5;refine AO (λ_=>AB n!) (λ_=>?_);exact AC (λ_=>AB n!) (λ_=>AB λ_=>d)
def T5{x:Int×Cs}:Av (JW x) λr=>True:=by unfold JW;refine AV (λ_=>AB trivial) (λ_=>?_);refine AA (P:=λ_=>True) (AJ (λ_=>AB trivial) (λ_=>AB trivial)) λv _=>?_;exact AJ (λ_=>AB trivial) (λ_=>AB trivial)
def YM{x:AQ×Int×Cs}(h:SK B x.1):Av (Js x) λr=>r=0->VK x.1/\fy x.1.2.2.2.2.2.1 x.2.1/\(x.2.2.1=4\/x.2.2.1=5\/x.2.2.1=6\/x.2.2.1=7\/(0<=x.2.2.2.2.1/\x.2.2.2.2.1<16)):=by
 unfold Js;refine AA (Bz h.sb) λv j=>?_;refine AO (λ_=>AB n!) (λb=>?_);refine AA (Fo h.2.1) λk e=>?_;refine AC (λ_=>AB n!) (λg=>?_);refine AA (AI o! e.2.1) λl _=>?_;refine AL (λ_=>AB n!) (λ_=>?_);refine AA Zm λm f=>?_;refine AL (λb=>AB λa=>absurd a b) (λc=>?_);refine AA (IZ h.1) λn _=>?_;refine AA T5 λo _=>?_;have q:(0:Int)=0->VK x.1/\fy x.1.2.2.2.2.2.1 x.2.1/\(x.2.2.1=4\/x.2.2.1=5\/x.2.2.1=6\/x.2.2.1=7\/(0<=x.2.2.2.2.1/\x.2.2.2.2.1<16)):=λ_=>by have⟨t,i,d⟩:=e.2.2 o!;exact⟨j b,⟨_,t,i,d⟩,f c⟩
 refine AJ (λ_=>?_) (λ_=>AB q);refine AL (λ_=>?_) (λ_=>AB q);refine AO (λ_=>AB n!) (λ_=>?_);exact AO (λ_=>AB n!) (λ_=>AB q)
def Zo{x:AQ×Int×Cs}(h:SK B x.1)(k:D8 x.1.2.2.1)(n:O4 x.1.2.2.2.1)(a:0<=x.2.2.2.2.1/\x.2.2.2.2.1<16):Av (KX x) λr=>KL B x.1 r.1/\(r.2.1=1\/r.2.1=3\/r.2.1=5)/\(r.2.1=3->r.2.2.2.1=x.2.2.2.1/\ ¬kf x.1.2.2.2.1 x.2.2.2.1/\r.1=x.1):=by unfold KX;have t:=KL.refl h k;refine AA Iq λy m=>?_;refine AO (λa=>AB ⟨t,.inr (.inl rfl),λ_=>⟨rfl,m.2 a n,rfl⟩⟩) (λd=>?_);refine AV (λ_=>?_) (λ_=>?_);refine AA fh λz l=>?_;refine AA (DQ a.1 a.2) λ_ _=>?_;refine AA (DQ a.1 a.2) λ_ _=>?_;exact AB ⟨⟨rfl,LX.refl _,⟨h.1,h.2.1,h.2.2.1,h.ki.1,h.ki.2.1.frames l.1 l.2,h.ki.2.2.sub l.1⟩,k⟩,(.inl rfl),λs=>absurd s (by show(1:Int)≠3;decide)⟩;refine AA (DQ a.1 a.2) λ_ _=>?_;refine D9 (DQ a.1 a.2) λu o _=>?_;refine AA (P:=λv:Dx=>v.1=x.2.2.2.1/\v.2.1=x.2.2.2.2.1/\v.2.2.1=u) (AJ (λ_=>AB ⟨rfl,rfl,rfl⟩) (λ_=>AB ⟨rfl,rfl,rfl⟩)) λA b=>?_;have⟨_,_,j,i,f,p,c⟩:=m.1 d;refine AA (Uk h k (by dsimp only;rw[b.2.1];exact a) (.inl rfl) n (by dsimp only;rw[b.1];exact j) λg q e=>?_) λC w=>?_;dsimp only at e⊢;rw[b.2.1,b.2.2,h.ki.same p q (by rw[e,b.1,c,i]),c];exact o;grind[AA,AL,Bq,AB]
theorem be{x:List Int}:Av (LR x) λr=>True:=by unfold LR;refine AV (λ_=>AB trivial) (λa=>?_);simp only[len]at a;exact AA (AI (Ag _)) λ_ _=>AB trivial
def fm{x:AQ×Int}(h:SK B x.1):Av (NS x) λr=>True:=by unfold NS;refine AA (LJ h.1) λa _=>?_;grind[AA,be,AB]
def gh{x:AQ×Int×Cs}(h:SK B x.1)(i:D8 x.1.2.2.1):Av (Oo x) λr=>KL B x.1 r.1/\(r.2.1=3->r.2.2.2.1=x.2.2.2.1/\ ¬kf x.1.2.2.2.1 x.2.2.2.1/\r.1.2.2.2.1=x.1.2.2.2.1)/\(r.2.1=2\/r.2.1=3->r.1.2.2.2.2.2.1=x.1.2.2.2.2.2.1):=by
 unfold Oo;have q:=KL.refl h i;refine AA (YM h) λX I=>?_;refine AL (λ_=>?_) (λd=>?_);exact AA Bq λY V=>AB ⟨q,λd=>by dsimp only at d;omega,λ_=>rfl⟩;obtain⟨u,s,F⟩:=I d;have G:x.2.1≠0:=by obtain⟨j,t,M,W⟩:=s;have:=(u.2.2.2.2.2.1.2 j t M).2.2;omega
 refine AV (λ_=>?_) (λT=>?_);exact AA (Zp h i s) λZ w=>AB ⟨w.1,λd=>by have:=w.2;omega,λd=>by have:=w.2;omega⟩;refine AV (λ_=>?_) (λU=>?_);refine AA (TD h i u.2.2.2.2.2.1 G s) λv3 E=>AB ?_;have y:=E.2;dsimp only at y;exact⟨E.1,λd=>o!,λd=>o!⟩;refine AA (P:=λb=>b=true↔x.2.2.1=6\/x.2.2.1=7) ?_ λv4 J=>?_;refine AV (λp=>AB (by simp[p])) (λp=>AB (by simp[p]));refine AJ (λ_=>?_) (λk=>?_);refine AA dt λv5 z=>?_;refine AA (P:=λv=>v.2=0->v.1.length<=64) ?_ λv7 K=>?_;exact AJ (λ_=>AA dp λv6 p=>AB p) (λ_=>AB z);refine AL (λ_=>?_) (λd=>AB ⟨⟨rfl,LX.refl _,⟨h.1,?_,h.2.2⟩,i⟩,λd=>absurd d (by show(1:Int)≠3;decide),λd=>absurd d (by show¬((1:Int)=2\/(1:Int)=3);decide)⟩);exact AA Bq λS L=>AB ⟨q,λd=>by dsimp only at d;omega,λ_=>rfl⟩;have:=K d;dsimp only;omega;have g:0<=x.2.2.2.2.1/\x.2.2.2.2.1<16:=by
  have: ¬(x.2.2.1=6\/x.2.2.1=7):=λh=>by rw[J.2 h]at k;cases k
  omega
 refine AA T5 λv9 _=>?_;refine AA (X9 h.1) λC l=>?_;refine AL (λ_=>?_) (λ_=>?_);exact AA Bq λS L=>AB ⟨q,λd=>by dsimp only at d;omega,λ_=>rfl⟩;have f:=h.locks l;have H: ∀m,KL B (x.1.1,(x.1.2.1,(x.1.2.2.1,(x.1.2.2.2.1,(C.1,x.1.2.2.2.2.2))))) m->KL B x.1 m:=λm A=>⟨A.1,A.2.1,A.2.2⟩
 refine AJ (λ_=>?_) (λ_=>?_);refine AA (Zo f i u.2.2.2.1 g) λN e=>?_;refine AV (λz=>AB ⟨q,λd=>by dsimp only at d;omega,λ_=>rfl⟩) (λ_=>AB ⟨H _ e.1,λd=>?_,λd=>?_⟩);obtain⟨a,b,c⟩:=e.2.2 d;exact⟨a,b,by rw[c]⟩;have D:=e.2.1;obtain⟨a,b,c⟩:=e.2.2 o!;rw[c];refine AA (bW l) λO _=>?_;refine AC (λ_=>?_) (λ_=>?_);refine AA (TD f i u.2.2.2.2.2.1 G s) λQ n=>?_;have o:=n.2;dsimp only at o;exact AV (λz=>AB ⟨q,λd=>by dsimp only at d;omega,λ_=>rfl⟩) (λ_=>AB ⟨H _ n.1,λd=>o!,λd=>o!⟩);exact AA (fm f) λR _=>AB ⟨⟨rfl,LX.refl _,f,i⟩,λd=>absurd d (by show(2:Int)≠3;decide),λ_=>rfl⟩
end Go.Pm
namespace Go.Pm
open Go Go.Ab
set_option maxHeartbeats 400000
variable {B:Int->Prop}
def RTx(l:List Ak)(id:Int)(t:Ak):Prop:= ∃v,CR (l,id)=some v/\0<=v/\l[v.toNat]? =some t/\t.1=id
def RTx.uniq{l:List Ak}{id:Int}{t u:Ak}(h:RTx l id t)(g:RTx l id u):u=t:=by have⟨v,e,f,i,j⟩:=h;have⟨w,a,b,c,d⟩:=g;grind[Option.some.inj]
def NX(k:AQ)(id:Int)(e:AD):Prop:= ∃t lsn,RTx k.2.2.2.2.2.1 id t/\t.2.2.2.2.1[t.2.2.2.2.1.length-1]? =some lsn/\k.2.2.1.2.1[(lsn-k.2.2.1.1).toNat]? =some e
def NX.uniq{k m:AQ}{id:Int}{e f:AD}(h:NX k id e)(g:NX m id f)(o:m.2.2.2.2.2.1=k.2.2.2.2.2.1)(c:LX k.2.2.1 m.2.2.1):f=e:=by have⟨t,n,i,j,l⟩:=h;have⟨u,w,a,b,d⟩:=g;rw[o]at a;have:=i.uniq a;subst this;rw[j]at b;cases b;have:=c.get l;rw[c.1]at d;grind[Option.some.inj]
def Ic{x:AQ×Int}(h:SK B x.1):Av (FO x) λr=>r.2=0->VK x.1/\RTx x.1.2.2.2.2.2.1 x.2 r.1/\r.1.2.2.2.2.1.length<=4096/\r.1.1≠0:=by
 unfold FO;refine AA (Bz h.sb) λv i=>?_;refine AO (λ_=>AB n!) (λf=>?_);have c:=i f;refine D9 (Fo h.2.1) λj e d=>?_;refine AC (λ_=>AB n!) (λg=>?_);refine AA (AI o! d.2.1) λk _=>?_;refine AV (λ_=>AB n!) (λ_=>?_);refine AA (AI o! d.2.1) λl b=>?_;refine AB λ_=>⟨c,⟨j,e,o!,b.1,?_⟩,(c.2.2.2.2.2.1.2 _ _ b.1).1,?_⟩
 grind[Option.some.inj];have:=(c.2.2.2.2.2.1.2 _ _ b.1).2.2;dsimp only;omega
def dw{x:AQ×Int}(h:SK B x.1):Av (Hd x) λr=>r.2=true->VK x.1/\NX x.1 x.2 r.1/\Lg r.1:=by
 unfold Hd;refine AA (Ic h) λc f=>?_;refine AL (λ_=>AB λa=>by cases a) (λa=>?_);have⟨k,hr,o,_⟩:=f a;refine AV (λ_=>AB λa=>by cases a) (λj=>?_);simp only[len]at j;rw[(AZ (x:=len c.1.2.2.2.2.1-1) (by simp[len];omega))];refine AA (AI (by simp[len];omega) (by simp[len];omega)) λp _=>?_;refine AC (λ_=>AB λa=>by cases a) (λ_=>?_);refine AA (AI (by simp[len];omega) (by simp[len];omega)) λl g=>?_;refine AA G5 λq i=>?_;refine AB λa=>?_;have⟨d,m,e,n⟩:=i.1 (by simpa using a);refine⟨k,⟨c.1,l,hr,?_,e⟩,d⟩;have b:=g.1;have:(len c.1.2.2.2.2.1-1).toNat=c.1.2.2.2.2.1.length-1:=i!
 rw[this]at b;exact b
theorem gi{x:AQ×Ak×Cm×Int}(h:x.2.1.2.2.2.2.1.length<=16777216)(c:0<=x.2.2.2/\x.2.2.2<=x.2.1.2.2.2.2.1.length):Av (Oq x) λr=>r.2=true->Lg r.1/\r.1.2.2.2.2.2.2.1.1=x.2.2.1.1:=by unfold Oq;rw[(AZ (x:=x.2.2.2-1) (by omega))];refine AA (P:=λr=> ∀u,r= .inl u->u.1=true->Lg u.2/\u.2.2.2.2.2.2.2.1.1=x.2.2.1.1) ?_ λr hr=>A8 (λu a=>AB (hr u a)) (λ_ _=>AB λb=>by cases b);refine AS (λ(s:Int×AD)=> -1<=s.1/\s.1<x.2.1.2.2.2.2.1.length) (λ(s:Int×AD)=>(s.1+1).toNat) ⟨by dsimp only;omega,by dsimp only;omega⟩ (λs d=>?_);unfold Ul;rw[(AZ (x:=s.1-1) (by omega))];refine AC (λe=>?_) (λ_=>AB λu a=>by cases a);grind[AA,AI,G5,AV,AB]
def Rx{x:AQ×Int×Cm}(h:SK B x.1):Av (KZ x) λr=>r.2=true->VK x.1/\Lg r.1/\r.1.2.2.2.2.2.2.1.1=x.2.2.1:=by refine AA (Ic h) λf b=>AL (λ_=>AB λa=>by cases a) (λa=>AL (λ_=>AB λa=>by cases a) (λ_=>?_));have⟨d,_,e,_⟩:=b a;exact AA (gi d! ⟨by simp[len],by simp[len]⟩) λg c=>AB λa=>⟨d,c a⟩
def X8{x:Dx}:Av (Jk x) λr=>r=(x.1,(x.2.1,(x.2.2.2,x.2.2.1))):=by grind[Jk,AB]
def T7{x:AQ×Ak×AD}(h:SK B x.1)(t:D8 x.1.2.2.1)(u:O4 x.1.2.2.2.1)(A:Lg x.2.2)(v:x.2.1.1≠0):Av (GS x) λr=>KL B x.1 r.1/\(r.2.1=3->r.2.2.2.1=x.2.2.2.2.2.2.2.2.1.1/\ ¬kf x.1.2.2.2.1 x.2.2.2.2.2.2.2.2.1.1/\r.1=x.1)/\(r.2.1≠3->r.2.1≠5->r.2.2.1≠0/\TP r.1.2.2.2.2.2.1<TP x.1.2.2.2.2.2.1)/\(r.2.1=5->r.2.2.2.2.2≠0):=by unfold GS;have F:=KL.refl h t;refine AA Iq λG i=>?_;refine AO (λl=>AB ⟨F,λ_=>⟨rfl,i.2 l u,rfl⟩,λa=>absurd rfl a,λa=>absurd a (by show(3:Int)≠5;decide)⟩) (λc=>?_);refine AA X8 λH w=>?_;subst w;refine AA S8 λI j=>?_;refine AL (λl=>?_) (λo=>?_);grind[AA,fw,AB];refine AA (Uk h t A.cell (.inr rfl) u (i.1 c).2.2.1 λg D e=>by have⟨_,_,_,m,f,C,d⟩:=i.1 c;rw[h.ki.same C D (by rw[e,d,m]),d];exact(j.1 o).2) λp q=>?_;refine AL (λl=>?_) (λa=>?_);grind[AA,fw,AB];have E:=(q.2 a).2.2.1 v (by show(2:Int)≠1;decide);have n:=E.1 (by show(2:Int)≠4;decide);have b:KL B x.1 p.1:=q.1;refine AA (P:=λk=>KL B x.1 k/\k.2.2.2.2.2.1=p.1.2.2.2.2.2.1) ?_ λM s=>AB ⟨s.1,λa=>absurd a (by show(1:Int)≠3;decide),λ_ _=>⟨v,by rw[s.2];exact n⟩,λa=>absurd a (by show(1:Int)≠5;decide)⟩;refine AJ (λ_=>?_) (λ_=>AB ⟨b,rfl⟩);refine AA (Rx b.2.2.1) λJ _=>?_;refine AA (P:=λk=>KL B x.1 k/\k.2.2.2.2.2.1=p.1.2.2.2.2.2.1) ?_ λL z=>AB z;refine AO (λ_=>?_) (λ_=>AB ⟨b,rfl⟩);exact AA (T0 b.2.2.1.1) λK y=>AB ⟨⟨b.1,b.2.1,b.2.2.1.locks y,b.2.2.2⟩,rfl⟩
def T6{x:AQ×Int}(h:SK B x.1)(m:D8 x.1.2.2.1):Av (JX x) λr=>KL B x.1 r.1/\(r.2.1=3-> ∃e,NX x.1 x.2 e/\r.2.2.2.1=e.2.2.2.2.2.2.1.1/\ ¬kf x.1.2.2.2.1 e.2.2.2.2.2.2.1.1)/\(r.2.1≠3->r.2.1≠5->TP r.1.2.2.2.2.2.1<TP x.1.2.2.2.2.2.1)/\(r.2.1=5->r.2.2.2.2.2≠0):=by
 unfold JX;have D:=KL.refl h m;refine AA (Ic h) λA q=>?_;refine AL (λi=>?_) (λd=>?_);grind[AA,fw,AB];have⟨y,hr,n,o⟩:=q d;have f:Av (Option.bind (Hd x) λk=>
  bif (!k.2)then
   Option.bind (A9 14) λC=>
   some (x.1,C)
  else
  Option.bind (GS (x.1,(A.1,k.1))) λp=>
  some p) λr=>KL B x.1 r.1/\(r.2.1=3-> ∃e,NX x.1 x.2 e/\r.2.2.2.1=e.2.2.2.2.2.2.1.1/\ ¬kf x.1.2.2.2.1 e.2.2.2.2.2.2.1.1)/\(r.2.1≠3->r.2.1≠5->TP r.1.2.2.2.2.2.1<TP x.1.2.2.2.2.2.1)/\(r.2.1=5->r.2.2.2.2.2≠0):=by
  refine AA (dw h) λk u=>?_;refine AO (λ_=>?_) (λi=>?_);grind[AA,fw,AB];have⟨_,hn,w⟩:=u i;refine AA (T7 h m y.2.2.2.1 w o) λp g=>AB ⟨g.1,λd=>?_,λa b=>(g.2.2.1 a b).2,g.2.2.2⟩;have⟨a,b,_⟩:=g.2.1 d;exact⟨_,hn,a,b⟩
 refine AV (λ_=>?_) (λ_=>f);refine AV (λ_=>?_) (λ_=>f);refine AA (F6 h.sb) λE s=>?_;refine AL (λi=>?_) (λd=>?_);grind[AA,fw,AB];have l:=(s d).2.1;have z:=(l.2.2.2.2.2.1.2.2.1 (by have⟨v,_,_,_,j⟩:=hr;rw[<-j];exact o) (by show(5:Int)≠1;decide)).1 (by show(5:Int)≠4;decide);have c:=l.kl h u!;exact AA (Lm c.2.2.1.1) λF t=>AB ⟨⟨c.1,c.2.1,c.2.2.1.locks t,c.2.2.2⟩,λd=>absurd d (by show(1:Int)≠3;decide),λ_ _=>z,λd=>absurd d (by show(1:Int)≠5;decide)⟩
def dv{x:AQ×Int×Cm}(h:SK B x.1)(f:D8 x.1.2.2.1):Av (MQ x) λr=>KL B x.1 r.1/\(r.2.1=3->r.2.2.2.1=x.2.2.1/\ ¬kf x.1.2.2.2.1 x.2.2.1/\r.1=x.1)/\(r.2.1≠3->r.2.1≠5->r.2.2.1≠0->TP r.1.2.2.2.2.2.1<TP x.1.2.2.2.2.2.1):=by unfold MQ;have o:=KL.refl h f;refine AA (Ic h) λp i=>?_;refine AL (λ_=>?_) (λc=>?_);grind[AA,Bq,AB];have⟨m,hr,g,n⟩:=i c;refine AL (λ_=>?_) (λ_=>?_);grind[AA,Bq,AB];refine AA (Rx h) λq j=>?_;refine AO (λ_=>AB ⟨o,λc=>absurd c (by show(1:Int)≠3;decide),λ_ _ c=>absurd rfl c⟩) (λk=>?_);have⟨_,l,e⟩:=j k;refine AA (T7 h f m.2.2.2.1 l n) λs d=>AB ⟨d.1,λc=>?_,λa b _=>(d.2.2.1 a b).2⟩;have:=d.2.1 c;dsimp only at this;rw[e]at this;exact this
def Q7{x:AT×Int}(h:SK B x.1.1):Av (EZ x) λr=>True:=by unfold EZ;refine AA (Fo h.2.1) λc a=>?_;refine AC (λb=>?_) (λ_=>AB trivial);grind[AA,AI,AB]
end Go.Pm
namespace Go.Pm
open Go Go.Ab
set_option maxHeartbeats 400000
variable {B:Int->Prop}
def SR(B:Int->Prop)(x s:AT):Prop:=KL B x.1 s.1/\DJ B s.1.2.2.1 s.2
def SR.trans{a b c:AT}(h:SR B a b)(g:SR B b c):SR B a c:=⟨h.1.trans g.1,g.2⟩
def SvR.sr{a b:AT}(h:SvR B a b):SR B a b:=⟨h.1.kl,h.2⟩
open Classical in
noncomputable def flag(p:Prop):Nat:=if p then 1 else 0
theorem yP(p:Prop):flag p<=1:=by unfold flag;split<;>omega
def tk{p:Prop}(h:p):flag p=1:=by unfold flag;rw[if_pos h]
def tj{p:Prop}(h: ¬p):flag p=0:=by grind[flag]
def Xe{x:AT×Int}(h:SK B x.1.1)(C:D8 x.1.1.2.2.1)(A:DJ B x.1.1.2.2.1 x.1.2):Av (Er x) λr=>r.2=0->SR B x.1 r.1:=by unfold Er;refine AA (Bz h.sb) λv E=>?_;refine AO (λ_=>AB n!) (λm=>?_);refine AA (Fo h.2.1) λH _=>?_;refine AC (λ_=>AB n!) (λ_=>?_);refine AA (P:=λr=>(∀u,r= .inl u->u.1≠0)/\ ∀u,r= .inr u->SR B x.1 u.1) ?_ λr hr=>A8 (λu a=>AB λb=>absurd b (hr.1 u a)) (λu a=>AB λ_=>hr.2 u a);refine AS (λ(s:AT×AT)=>SR B x.1 s.1) (λ(s:AT×AT)=>2*TP s.1.1.2.2.2.2.2.1+flag (∃e,NX s.1.1 x.2 e/\ ¬kf s.1.1.2.2.2.1 e.2.2.2.2.2.2.1.1)) ⟨KL.refl h C,A⟩ (λs c=>?_);unfold Po;have d:=c.1.2.2;refine AA (Q7 d.1) λI _=>?_;refine AJ (λ_=>?_) (λ_=>AB ⟨λu a=>(by cases a),λu a=>(by cases a;exact c)⟩);refine AA (T6 d.1 d.2) λJ z=>?_;have⟨k1,D,F,G⟩:=z;apply AV<;>intro i;grind[AB];refine AA (P:=λr=>(∃u,r= .inl u/\u.1≠0)\/ ∃u,r= .inr u/\SR B s.1 u.1/\2*TP u.1.1.2.2.2.2.2.1+flag (∃e,NX u.1.1 x.2 e/\ ¬kf u.1.1.2.2.2.1 e.2.2.2.2.2.2.1.1)<2*TP s.1.1.2.2.2.2.2.1+flag (∃e,NX s.1.1 x.2 e/\ ¬kf s.1.1.2.2.2.1 e.2.2.2.2.2.2.1.1)) ?_ λr hr=>?_;apply AV<;>intro o;have⟨e,k,p,q⟩:=D o;refine AA (He d.1 c.2) λK i=>?_;refine AL (λm=>AB (.inl ⟨_,rfl,m⟩)) (λb=>AB (.inr ⟨_,rfl,(i b).1.sr,?_⟩));have⟨l,g⟩:=i b;have n:=l.1.2.2.2.2.1;rw[tk (⟨e,k,q⟩: ∃e,NX s.1.1 x.2 e/\ ¬kf s.1.1.2.2.2.1 e.2.2.2.2.2.2.1.1),tj,n];dsimp only;omega;rintro⟨f,t,y⟩;have:=k.uniq t n l.1.2.1;subst this;dsimp only at g;rw[p]at g;exact y g;refine AB (.inr ⟨_,rfl,⟨k1,c.2.up k1.2.1⟩,?_⟩);grind[yP,kf];rcases hr with⟨u,rfl,a⟩|⟨u,rfl,a⟩;refine BK (AB ⟨λw j=>?_,λw j=>(by cases j)⟩);cases j;exact a;exact A5 (AB ⟨c.trans a.1,a.2⟩)
def gl{x:AT×Int×Cs}(h:SK B x.1.1)(K:D8 x.1.1.2.2.1)(J:DJ B x.1.1.2.2.1 x.1.2):Av (Ov x) λr=>SR B x.1 r.1/\(r.2.1=2->r.1.1.2.2.2.2.2.1=x.1.1.2.2.2.2.2.1):=by
 unfold Ov;refine AA (P:=λr=>SR B x.1 r.1/\(r.2.1=2->r.1.1.2.2.2.2.2.1=x.1.1.2.2.2.2.2.1)) ?_ λr hr=>AB hr;refine AS (λ(s:AT×AT×BQ)=>SR B x.1 s.1/\s.1.1.2.2.2.2.2.1=x.1.1.2.2.2.2.2.1) (λ(s:AT×AT×BQ)=>flag (¬kf s.1.1.2.2.2.1 x.2.2.2.1)) ⟨⟨KL.refl h K,J⟩,rfl⟩ (λs l=>?_);obtain⟨l,o⟩:=l;have y:=l.1.2.2;unfold Up;refine AA (gh y.1 y.2) λf E=>?_;obtain⟨k1,L,z⟩:=E;have j:SR B x.1 (f.1,s.1.2):=⟨l.1.trans k1,l.2.up k1.2.1⟩
 have g:=k1.2.2;apply AV<;>intro q;obtain⟨a,b,c⟩:=L q;have d:=z (.inr q);refine AA (He g.1 j.2) λT F=>?_;refine AL (λ_=>?_) (λi=>AB ?_);refine AA Bq λU R=>AB ⟨j,λ_=>?_⟩;dsimp only at*;rw[d,o];obtain⟨t,v⟩:=F i;refine⟨⟨j.trans t.sr,?_⟩,?_⟩;have:=t.1.2.2.2.2.1;dsimp only at*;rw[this,d,o];dsimp only at*;rw[tk b,tj];omega;intro hn;rw[a]at v;exact hn v;have k: ∀(Q:Step (AT×(AT×BQ)) (AT×BQ)->Prop),(∀r:AT×BQ,SR B x.1 r.1/\(r.2.1=2->r.1.1.2.2.2.2.2.1=x.1.1.2.2.2.2.2.1)->Q (.done r))-> ∀c:Int,c≠2->f.2.1=c->Av (Option.bind (EZ ((f.1,s.1.2),x.2.1)) λA=>
  Option.bind ((
    bif A then
     Option.bind (Er ((f.1,s.1.2),x.2.1)) λn=>
     bif (n.2 !=0)then
      Option.bind (A9 n.2) λC=>
      some (.inl ((f.1,s.1.2),C))
     else
     some (.inr (n.1,s.2))
    else
    some (.inr ((f.1,s.1.2),s.2))):(Option ((AT×BQ)⊕ (AT×(AT×BQ))))) λO=>
  Sum.elim (λM=>some (Step.done M))
  (λN=>some (.done (N.1,f.2))) O) Q:=by
  intro Q w c S I;refine AA (Q7 g.1) λA _=>?_;refine AA (P:=λr=>(∃u,r= .inl u/\SR B x.1 u.1/\u.2.1=5)\/ ∃u,r= .inr u/\SR B x.1 u.1) ?_ λr hr=>?_;refine AJ (λ_=>?_) (λ_=>AB (.inr ⟨_,rfl,j⟩));refine AA (Xe g.1 g.2 j.2) λn G=>?_;refine AL (λ_=>?_) (λi=>AB (.inr ⟨_,rfl,j.trans (G i)⟩));exact AA Bq λC H=>AB (.inl ⟨_,rfl,j,H⟩);rcases hr with⟨u,rfl,m⟩|⟨u,rfl,m⟩;exact BK (AB (w _ ⟨m.1,λi=>by have:=m.2;omega⟩));exact A5 (AB (w _ ⟨m,λi=>by dsimp only at i;omega⟩))
 have e:SR B x.1 (f.1,s.1.2)/\(f.2.1=2->f.1.2.2.2.2.2.1=x.1.1.2.2.2.2.2.1):=⟨j,λi=>by rw[z (.inl i),o]⟩
 refine AV (λD=>k _ (λr hr=>hr) 4 g! D) (λ_=>?_);refine AV (λp=>?_) (λ_=>AB e);refine AV (λ_=>k _ (λr hr=>hr) 1 g! p) (λ_=>?_);exact AV (λ_=>k _ (λr hr=>hr) 1 g! p) (λ_=>AB e)
def bc{x:AQ}(h:SK B x)(d:D8 x.2.2.1):Av (LP x) λr=>r.2.2=0->KL B x r.1:=by unfold LP;refine AA (Bz h.sb) λv e=>?_;refine AO (λ_=>AB n!) (λb=>?_);refine AC (λ_=>AB n!) (λ_=>?_);refine AA TC λf c=>?_;refine AL (λb=>AB λa=>absurd a b) (λa=>AB λ_=>⟨rfl,LX.refl _,⟨h.1,?_,h.2.2⟩,d⟩);have:=(c a).2;dsimp only;omega
def bk{x:AT}(h:SK B x.1)(e:D8 x.1.2.2.1)(d:DJ B x.1.2.2.1 x.2):Av (LY x) λr=>r.2.2=0->SR B x r.1:=by unfold LY;refine AA (bc h e) λf b=>?_;exact AL (λc=>AB λa=>absurd a c) (λa=>AB λ_=>⟨b a,d.up (b a).2.1⟩)
def bd{x:AQ×Int}(h:SK B x.1)(n:D8 x.1.2.2.1):Av (LQ x) λr=>r.2.2=0->KL B x.1 r.1/\O4 x.1.2.2.2.1/\kf x.1.2.2.2.1 x.2/\(∃f∈r.1.2.2.2.1.2.1,f.1=r.2.1)/\r.2.1.2.1<=r.1.2.2.1.2.2:=by
 unfold LQ;refine AA (Bz h.sb) λv q=>?_;refine AO (λ_=>AB n!) (λp=>?_);refine AA Iq λs o=>?_;refine AO (λ_=>AB n!) (λj=>?_);have⟨a,b,c,d,e⟩:=o.1 j;refine AA (Jo h n) λt i=>AB λ_=>⟨i.1.kl,a,c,by dsimp only;rw[i.2.1];exact e,i.2.2 ?_⟩
 have⟨f,m,k⟩:=e;have g:=h.ki.2.2 f m;have:=congrArg (λz=>z.2.1) ((h.ki.2.1 f.1.1 g.1 g.2.1).1 f m rfl);have:=iv n f.1.1;rw[Pe,k]at*;dsimp only;omega
def bn{x:AT×Int}(h:SK B x.1.1)(j:D8 x.1.1.2.2.1)(i:DJ B x.1.1.2.2.1 x.1.2):Av (La x) λr=>r.2=0->SR B x.1 r.1:=by unfold La;refine AA (bd h j) λn l=>?_;refine AL (λm=>AB λe=>absurd e m) (λe=>?_);have⟨a,b,c,d,k⟩:=l e;refine AA Fm λo f=>?_;refine AA (AI (f.2.2.2 b c) f.2.1) λp _=>?_;refine AO (λ_=>AB λ_=>⟨KL.refl h j,i⟩) (λ_=>?_);exact AA (TG a.2.2.1 a.2.2.2 (i.up a.2.1) d k) λq g=>AB λe=>⟨a.trans (g e).1.kl,(g e).2.1⟩
end Go.Pm
namespace Go.Pm
open Go Go.Ab
set_option maxHeartbeats 400000
def VDs(l:List Ae)(p:Int):Prop:= ∀(i:Nat) (d:Ae),l[i]? =some d->((i:Int)<=d.1/\d.1<p/\1<=d.2.1/\d.2.1<=d.2.2/\d.2.2<=1099511627776)/\ ∀f,0<i->l[i-1]? =some f->f.1<d.1
def VIs(x:Bh):Prop:=1<=x.length/\x.length<=64/\ ∀r∈x,(0<=r.1/\r.1<=1099511627776)/\(0<=r.2.1/\r.2.1<=1099511627776)/\0<=r.2.2/\r.2.2<=1099511627776
def VDs.len{l:List Ae}{p:Int}(h:VDs l p)(b:p<=64):l.length<=64:=by refine Sn λa=>?_;have:=(h (l.length-1) _ (At o!)).1;omega
def AGv{l:List Ae}{p:Int}(A:l.length<=16777216):Av (FN (l,p)) λr=>r=true->VDs l p:=by
 refine AA (P:=λr=>r= .inl false\/(r= .inr ()/\VDs l p)) ?_ λr hr=>?_
 ·refine Dg (λ(s:Int)=>0<=s/\s<=l.length/\ ∀(i:Nat) (d:Ae),(i:Int)<s->l[i]? =some d->((i:Int)<=d.1/\d.1<p/\1<=d.2.1/\d.2.1<=d.2.2/\d.2.2<=1099511627776)/\ ∀f,0<i->l[i-1]? =some f->f.1<d.1) (λs=>((l.length:Int)-s).toNat) ⟨Ag _,o!,λi d y=>o!⟩ (λs w=>?_);have⟨t,B,m⟩:=w;unfold G0;dsimp[len];refine AC (λn=>?_) (λn=>Av.done (.inr ⟨rfl,λi d a=>m i d (by have:=DU a;omega) a⟩));obtain⟨k,rfl⟩:=FF t;refine AA (AI t n) λv g=>?_;have g:=g.1;rw[Dk]at g;refine AC (λ_=>Av.done (.inl rfl)) (λq1=>AC (λ_=>Av.done (.inl rfl)) (λq2=>AC (λ_=>Av.done (.inl rfl)) (λq3=>AC (λ_=>Av.done (.inl rfl)) (λq4=>AC (λ_=>Av.done (.inl rfl)) (λq5=>?_)))));rw[AZ (x:=(k:Int)+1)];have b:((k:Int)<=v.1/\ ∀f,0<k->l[k-1]? =some f->f.1<v.1)-> ∀(i:Nat) (d:Ae),(i:Int)<(k:Int)+1->l[i]? =some d->((i:Int)<=d.1/\d.1<p/\1<=d.2.1/\d.2.1<=d.2.2/\d.2.2<=1099511627776)/\ ∀f,0<i->l[i-1]? =some f->f.1<d.1:=λq i d y a=>by by_cases h:i=k;subst h;rw[g]at a;cases a;exact⟨⟨q.1,o!⟩,q.2⟩;exact m i d o! a
  refine AC (λe=>?_) (λe=>Av.next ⟨o!,o!,b ⟨o!,λf u=>absurd u o!⟩⟩ o!);rw[AZ (x:=(k:Int)-1)];refine AA (AI) λz c=>?_;have c:=c.1;rw[show((k:Int)-1).toNat=k-1 by omega]at c;refine AC (λ_=>Av.done (.inl rfl)) (λq6=>?_);have j:=(m (k-1) z o! c).1.1;refine Av.next ⟨o!,o!,b ⟨o!,λf _ o=>?_⟩⟩ o!
  rw[c]at o;cases o;omega
 grind[BK,AB,A5]
def ABP{x:Int}:Av (Gw x) λr=>r=true->0<=x/\x<=1099511627776:=by refine AC (λh=>AB λa=>⟨o!,of_decide_eq_true a⟩) (λ_=>AB λa=>by cases a)
def AFX{x:Bh}:Av (D3 x) λr=>r=true->VIs x:=by
 refine AC (λ_=>AB λa=>by cases a) (λd=>AC (λ_=>AB λa=>by cases a) (λe=>?_));simp[len]at d e;refine AA (P:=λr=>r= .inl false\/(r= .inr ()/\VIs x)) ?_ λr hr=>?_
 ·refine Dg (λ(s:Int)=>0<=s/\s<=x.length/\ ∀r∈x.take s.toNat,(0<=r.1/\r.1<=1099511627776)/\(0<=r.2.1/\r.2.1<=1099511627776)/\0<=r.2.2/\r.2.2<=1099511627776) (λs=>((x.length:Int)-s).toNat) ⟨Ag _,o!,λr hr=>by simp at hr⟩ (λs g=>?_);have⟨i,p,c⟩:=g;unfold JL;dsimp[len];refine AC (λb=>?_) (λb=>Av.done (.inr ⟨rfl,o!,o!,by rw[BS o!]at c;exact c⟩));refine AA (AI i b) λv h=>AA ABP λj m=>AO (λ_=>Av.done (.inl rfl)) (λq=>AA ABP λk n=>AO (λ_=>Av.done (.inl rfl)) (λt=>AA ABP λl o=>AO (λ_=>Av.done (.inl rfl)) (λu=>?_)));rw[AZ (x:=s+1)];have f: ∀r∈x.take (s+1).toNat,(0<=r.1/\r.1<=1099511627776)/\(0<=r.2.1/\r.2.1<=1099511627776)/\0<=r.2.2/\r.2.2<=1099511627776:=λr hr=>by rw[show(s+1).toNat=s.toNat+1 by omega,Dt,h.1]at hr;grind
  grind[AV,Av.next,AL,Av.done]
 grind[BK,AB,A5]
def VCk(c:CN):Prop:=1<=c.1/\c.1<=64/\1<=c.2.1/\c.2.1<=1073741825/\VDs c.2.2.2.1 c.1/\VIs c.2.2.2.2/\c.2.2.2.2.length=c.1
def AGh{c:CN}(d:c.2.2.2.1.length<=16777216):Av (G7 c) λr=>r=true->VCk c:=by refine AC (λ_=>AB λa=>by cases a) (λf=>AC (λ_=>AB λa=>by cases a) (λg=>AC (λ_=>AB λa=>by cases a) (λh=>AC (λ_=>AB λa=>by cases a) (λi=>?_))));refine AA Dz λo b=>AO (λ_=>AB λa=>by cases a) (λe=>AA (AGv d) λp j=>AO (λ_=>AB λa=>by cases a) (λl=>AA AFX λq k=>AO (λ_=>AB λa=>by cases a) (λm=>AL (λ_=>AB λa=>by cases a) (λn=>?_))));refine AA (QM ⟨Ag _,o!,by have:=(b e).1;omega⟩) λr hr=>?_;grind[VCk,A8,AB]
def dB(d:Ae):BY:=Df d.1 1++(Df d.2.1 8++Df d.2.2 8)
def rB(r:Dq):BY:=Df r.1 8++(Df r.2.1 8++Df r.2.2 8)
def sF(l:List Ae):BY:=(l.map dB).flatten
def oM(l:List Dq):BY:=(l.map rB).flatten
def AEp(d:Ae):(dB d).length=17:=rfl
def AFL(r:Dq):(rB r).length=24:=rfl
def AAx(l:List Ae)(d:Ae):sF (l++[d])=sF l++dB d:=by grind[sF,List.flatten_append]
def ABx(l:List Dq)(d:Dq):oM (l++[d])=oM l++rB d:=by grind[oM,List.flatten_append]
def vI(l:List Ae)(d:Ae):sF (d::l)=dB d++sF l:=rfl
theorem wF(l:List Dq)(d:Dq):oM (d::l)=rB d++oM l:=rfl
theorem im: ∀l:List Ae,(sF l).length=17*l.length
 |[]=>rfl
 |d::l=>by rw[vI,Ad,AEp,im l,By];omega
theorem ou: ∀l:List Dq,(oM l).length=24*l.length
 |[]=>rfl
 |d::l=>by rw[wF,Ad,AFL,ou l,By];omega
def i8r{n:Int}(a:0<=n)(b:n<=1099511627776):cF 8 n:=⟨n!,o!⟩
def i1r{n:Int}(a:0<=n)(b:n<256):cF 1 n:=⟨λ_=>q!,o!⟩
def i2r{n:Int}(a:0<=n)(b:n<65536):cF 2 n:=⟨λ_=>q!,o!⟩
def i4r{n:Int}(a:0<=n)(b:n<4294967296):cF 4 n:=⟨λ_=>q!,o!⟩
def ACu{x:Bh}(h:VIs x):Av (H9 x) λr=>r.1=Df (x.length:Int) 2++oM x\/r.1=[]:=by
 have⟨c,d,e⟩:=h;refine AA AFX λi b=>AO (λ_=>AB (.inr rfl)) (λ_=>?_);rw[Hl k! g! g!,AE,Cn];refine AA (P:=λr=>r=Df (x.length:Int) 2++oM x) (Dg (λ(s:BY×Int)=> ∃k:Nat,k<=x.length/\s=(Df (x.length:Int) 2++oM (x.take k),(k:Int))) (λs=>x.length-s.2.toNat) ⟨0,B8 _,by simp[oM]⟩ ?_) λr hr=>AB (.inl hr);rintro s ⟨k,f,rfl⟩;unfold Ib;dsimp[len];refine AC (λa=>?_) (λa=>Av.done q!);have g:(Df (x.length:Int) 2++oM (x.take k)).length<=2000:=by grind[List.length_append,A0,ou,List.length_take]
 rw[(by unfold ix;rw[if_pos o!,Int.toNat_natCast,List.getElem?_eq_getElem o!]:ix x (k:Int)=some x[k]),Option.bind_some,Hl o! g! g!,Option.bind_some,Option.bind_some,Hl (by rw[List.length_append,A0];simp only[Int.reduceToNat];omega) g! g!,Option.bind_some,Option.bind_some,Hl (by rw[List.length_append,List.length_append,A0,A0];simp only[Int.reduceToNat];omega) g! g!,Option.bind_some,AZ];refine Av.next ⟨k+1,o!,?_⟩ o!
 rw[(by simp_all:x.take (k+1)=x.take k++[x[k]]),ABx];simp only[Ay];exact Dj rfl o!
def ACn{x:Bh}(h:VIs x):Av (Ek (Df (x.length:Int) 2++oM x)) λr=>r.2=0->r.1=x:=by
 have⟨t,u,i⟩:=h;have y:(Df (x.length:Int) 2++oM x).length=2+24*x.length:=by rw[Ad,A0,ou]
 unfold Ek;have d:=(gq (x:=Df (x.length:Int) 2++oM x) (p:=[]) (rest:=oM x) (at_:=0) (k:=2) (n:=(x.length:Int)) rfl rfl o! g! g! (i2r o! o!)).1;rw[show(((2:Nat)):Int)=2 from rfl]at d;rw[d,AE];have m:wi (len (Df (x.length:Int) 2++oM x)-2)=24*(x.length:Int):=by grind[AZ]
 have o:wi (24*((x.length:Int),(0:Int)).1)=24*(x.length:Int):=AZ q!;rw[show((((x.length:Int),(0:Int)):Int×Int).2 !=0)=false from rfl,cond_false,decide_eq_false o!,cond_false,decide_eq_false o!,cond_false];refine AA (P:=λr=>r=x) ?_ λr hr=>?_
 ·refine Dg (λ(s:Int×List Dq)=> ∃k:Nat,k<=x.length/\s=((k:Int),x.take k)) (λs=>x.length-s.1.toNat) ⟨0,B8 _,rfl⟩ ?_;rintro s ⟨k,w,rfl⟩;unfold Ia;dsimp only;refine AC (λl=>?_) (λl=>Av.done (by rw[BS o!]));have b:k<x.length:=o!
  have a:(oM (x.take k)).length=24*k:=by grind[ou,List.length_take]
  have c:Df (x.length:Int) 2++oM x=(Df (x.length:Int) 2++oM (x.take k))++(Df x[k].1 8++(Df x[k].2.1 8++(Df x[k].2.2 8++oM (x.drop (k+1))))):=by rw[(by grind[wF,List.drop_eq_getElem_cons,oM,List.flatten_append,List.take_append_drop]:oM x=oM (x.take k)++(rB x[k]++oM (x.drop (k+1))))];unfold rB;simp[Ay]
  have⟨q1,q2,q3⟩:=i x[k] (U2 b);have e:=(gq (at_:=2+24*(k:Int)) (k:=8) c (by rw[Ad,A0,a];omega) o! g! g! (i8r q1.1 q1.2)).1;rw[<-Ay]at c;have f:=(gq (at_:=10+24*(k:Int)) (k:=8) c (by simp[Ad,A0,a];omega) o! g! g! (i8r q2.1 q2.2)).1;rw[<-Ay]at c;have g:=(gq (at_:=18+24*(k:Int)) (k:=8) c (by simp[Ad,A0,a];omega) o! g! g! (i8r q3.1 q3.2)).1;rw[show(((8:Nat)):Int)=8 from rfl]at e f g;rw[AZ (x:=24*(k:Int)),AZ (x:=2+24*(k:Int)),AZ (x:=10+24*(k:Int)),AZ (x:=18+24*(k:Int)),e,AE,f,AE,g,AE,AZ (x:=(k:Int)+1)];refine AA (Ac (by rw[Ba];simp;omega)) λz j=>Av.next ⟨k+1,b,?_⟩ d!
  rw[j.1,(by simp_all:x.take (k+1)=x.take k++[x[k]])];exact Dj d! rfl
 subst hr;exact AA AFX λA v=>AO (λ_=>AB λq=>absurd (show(28:Int)=0 from q) g!) (λ_=>AB λ_=>rfl)
def ACv{c:CN}(l:c.2.2.2.1.length<=16777216):Av (Gk c) λr=>r.1.length<=8192->r.1=[]\/(VCk c/\ ∃b g:BY,r.1=Df c.1 2++(Df c.2.1 4++(Df (b.length:Int) 4++(b++(Df (c.2.2.2.1.length:Int) 1++(sF c.2.2.2.1++g)))))/\(g=Df (c.2.2.2.2.length:Int) 2++oM c.2.2.2.2\/g=[])):=by
 unfold Gk;refine AA (AGh l) λB n=>AO (λ_=>AB λ_=>.inl rfl) (λe=>?_);have m:=n e;have⟨a1,a2,a3,a4,a5,a6,a7⟩:=id m;have t:=a5.len a2;refine AA Ru λx z=>?_;rw[Hl k! g! g!,AE,Cn,Hl (by rw[A0];decide) g! g!,AE,Hl (by simp only[Ad,A0];decide) g! g!,AE];refine AA (Cp (by simp[Ad,A0,Int.reduceToNat];omega)) λj q=>?_;have w:=q.2;simp[Ad,A0,Int.reduceToNat]at w;dsimp[len];rw[Hl o! g! g!,AE];refine AA (P:=λr=>r=j++(Df (c.2.2.2.1.length:Int) 1++sF c.2.2.2.1)) ?_ λh o=>?_
 ·refine Dg (λ(s:BY×Int)=> ∃k:Nat,k<=c.2.2.2.1.length/\s=(j++(Df (c.2.2.2.1.length:Int) 1++sF (c.2.2.2.1.take k)),(k:Int))) (λs=>c.2.2.2.1.length-s.2.toNat) ⟨0,B8 _,by simp[sF]⟩ ?_;rintro s ⟨k,A,rfl⟩;unfold Ie;dsimp[len];refine AC (λe=>?_) (λe=>Av.done q!);have a:k<c.2.2.2.1.length:=o!
  have u:ix c.2.2.2.1 (k:Int)=some c.2.2.2.1[k]:=by unfold ix;rw[if_pos o!,Int.toNat_natCast,List.getElem?_eq_getElem a]
  have l:(j++(Df (c.2.2.2.1.length:Int) 1++sF (c.2.2.2.1.take k))).length<=100000000:=by grind[List.length_append,A0,im,List.length_take]
  rw[u,AE,Hl o! g! g!,AE,AE,Hl (by rw[Ad,A0];simp only[Int.reduceToNat];omega) g! g!,AE,AE,Hl (by rw[Ad,Ad,A0,A0];simp only[Int.reduceToNat];omega) g! g!,AE,AZ];refine Av.next ⟨k+1,a,?_⟩ q!
  have f:c.2.2.2.1.take (k+1)=c.2.2.2.1.take k++[c.2.2.2.1[k]]:=t!
  rw[f,AAx];unfold dB;grind[List.append_assoc,Prod.ext]
 refine AA (Rs.and (ACu a6)) λi d=>?_;have v:h.length<=100000000:=by grind[List.length_append,A0,im]
 refine AA (Cp o!) λy p=>AB λ_=>.inr ⟨m,x.1,i.1,?_,d.2⟩;grind[List.append_assoc]
def ACo{c:CN}(Q:VCk c){b l s:BY}(J:s=Df c.1 2++(Df c.2.1 4++(Df (b.length:Int) 4++(b++(Df (c.2.2.2.1.length:Int) 1++(sF c.2.2.2.1++l))))))(X:s.length≤8192)(v:l=Df (c.2.2.2.2.length:Int) 2++oM c.2.2.2.2∨l=[]):
  Av (DA s) λr=>r.2=0->r.1.1=c.1/\r.1.2.2.2.1=c.2.2.2.1/\r.1.2.2.2.2=c.2.2.2.2:=by
 obtain⟨a1,a2,a3,a4,a5,a6,a7⟩:=id Q;have O:=a5.len a2;have d:=J;have y:=congrArg List.length J;simp only[Ad,A0,im]at y;have F:=(gq (x:=s) (p:=[]) (at_:=0) (k:=2) (n:=c.1) (show s=[]++(Df c.1 2++_)from d) rfl o! g! g! (i2r o! o!)).1;have G:=(gq (at_:=2) (k:=4) (n:=c.2.1) d (by rw[A0];rfl) o! g! g! (i4r o! o!)).1;rw[<-Ay]at d;have H:=(gq (at_:=6) (k:=4) (n:=(b.length:Int)) d (by rw[Ad,A0,A0];rfl) o! g! g! (i4r o! o!)).1;rw[<-Ay,<-Ay]at d;have I:=(gq (at_:=10+(b.length:Int)) (k:=1) (n:=(c.2.2.2.1.length:Int)) d (by simp only[Ad,A0];omega) o! g! g! (i1r o! o!)).1;rw[<-Ay]at d;rw[show(((2:Nat)):Int)=2 from rfl]at F;rw[show(((4:Nat)):Int)=4 from rfl]at G H;rw[show(((1:Nat)):Int)=1 from rfl]at I;have w:((((Df c.1 2++Df c.2.1 4)++Df (b.length:Int) 4)++b)++Df (c.2.2.2.1.length:Int) 1).length=11+b.length:=by simp only[Ad,A0];omega
 generalize V:(((Df c.1 2++Df c.2.1 4)++Df (b.length:Int) 4)++b)++Df (c.2.2.2.1.length:Int) 1=P at d w;unfold DA;rw[F,AE,G,AE,H,AE];dsimp only[len];rw[show((0:Int) !=0)=false by decide,cond_false,AZ (x:=(s.length:Int)-10),decide_eq_false o!,cond_false,AZ (x:=10+(b.length:Int))];refine AA (Ch g!) λY L=>?_;rw[I,AE];dsimp only;rw[show((0:Int) !=0)=false by decide,cond_false,AZ (x:=(s.length:Int)-(10+(b.length:Int))),AZ (x:=(s.length:Int)-(10+(b.length:Int))-1),AZ (x:=17*(c.2.2.2.1.length:Int)),decide_eq_false o!,cond_false,AZ (x:=10+(b.length:Int)+1)];refine AA (P:=λr=>r=((P.length:Int)+17*c.2.2.2.1.length,(c.2.2.2.1,(c.1,(c.2.1,([],[])))))) ?_ λR m=>?_
 ·refine Dg (λ(q:Int×Int×List Ae×Int×Int×List Ak×Bh)=> ∃k:Nat,k<=c.2.2.2.1.length/\q=((P.length:Int)+17*k,((k:Int),(c.2.2.2.1.take k,(c.1,(c.2.1,([],[]))))))) (λq=>c.2.2.2.1.length-q.2.1.toNat) ⟨0,B8 _,?_⟩ ?_;refine Dj ?_ rfl;dsimp only;omega;rintro q ⟨k,W,rfl⟩;unfold Lu;dsimp only;refine AC (λN=>?_) (λN=>Av.done (by rw[BS o!,show k=c.2.2.2.1.length by omega]));have e:k<c.2.2.2.1.length:=o!
  have z:sF c.2.2.2.1=sF (c.2.2.2.1.take k)++(dB c.2.2.2.1[k]++sF (c.2.2.2.1.drop (k+1))):=by rw[<-vI,<-So e];unfold sF;rw[<-List.flatten_append,<-Mh,EP]
  have f:(sF (c.2.2.2.1.take k)).length=17*k:=by rw[im,Ba];omega
  have i:s=(P++sF (c.2.2.2.1.take k))++(Df c.2.2.2.1[k].1 1++(Df c.2.2.2.1[k].2.1 8++(Df c.2.2.2.1[k].2.2 8++(sF (c.2.2.2.1.drop (k+1))++l)))):=by rw[d,z];unfold dB;simp only[Ay]
  obtain⟨q1,q2,q3,q4,q5⟩:=(a5 k _ (At e)).1;have C:=(gq (at_:=(P.length:Int)+17*k) (k:=1) i (by rw[Ad,f];omega) o! g! g! (i1r o! o!)).1;rw[<-Ay]at i;have D:=(gq (at_:=(P.length:Int)+17*k+1) (k:=8) i (by simp only[Ad,A0,f];omega) o! g! g! (i8r o! o!)).1;rw[<-Ay]at i;have E:=(gq (at_:=(P.length:Int)+17*k+9) (k:=8) i (by simp only[Ad,A0,f];omega) o! g! g! (i8r o! o!)).1;rw[show(((1:Nat)):Int)=1 from rfl]at C;rw[show(((8:Nat)):Int)=8 from rfl]at D E;rw[C,AE,AZ (x:=(P.length:Int)+17*k+1),D,AE,AZ (x:=(P.length:Int)+17*k+9),E,AE,AZ (x:=(P.length:Int)+17*k+17),AZ (x:=(k:Int)+1)];refine AA (Ac (by rw[Ba];simp;omega)) λZ M=>Av.next ⟨k+1,e,?_⟩ d!
  have B:c.2.2.2.1.take (k+1)=c.2.2.2.1.take k++[c.2.2.2.1[k]]:=by rw[Dt,At e];rfl
  rw[M.1,B];refine Dj ?_ (Dj ?_ rfl);dsimp only;omega;dsimp only;omega
 subst m;refine AA (Rt (by rw[L.1,Ba,GF];omega)) λS _=>?_;refine AL (λg=>AB λh=>absurd h g) (λ_=>?_);dsimp only;have A:UN s ((P.length:Int)+17*(c.2.2.2.1.length:Int)) (s.length:Int)=some l:=by
  unfold UN;rw[if_pos o!,d,<-Ay];have u:(P++sF c.2.2.2.1).length=((P.length:Int)+17*(c.2.2.2.1.length:Int)).toNat:=by rw[Ad,im];omega
  rw[<-u,PM,BS (by rw[Ad];omega)]
 rw[A,AE];rcases v with rfl|rfl;refine AA ((Rr o!).and (ACn a6)) λT o=>?_;refine AL (λg=>AB λh=>absurd h g) (λj=>?_);refine AA (N1 d!) λU _=>?_;refine AO (λ_=>AB λh=>absurd (show(24:Int)=0 from h) g!) (λ_=>AB λ_=>⟨rfl,rfl,o.2 j⟩);have K:Ek []=some ([],5):=by unfold Ek;have:=fx (a:=[]) (t:=[]) (k:=2) g! g! g!;rw[Dr,if_neg g!]at this;rw[show((([]:BY).length:Nat):Int)=0 from rfl]at this;rw[this];rfl
 rw[K,AE];exact AB λh=>absurd (show(5:Int)=0 from h) g!
variable {B:Int->Prop}
def bY{x:Bj}:Av (LK x) λr=>r.length<=64/\(∀d∈r,∃f∈x.2.1,f.1.1=d.1/\d.2.2=f.1.2.1)/\(O4 x-> ∀f∈x.2.1,f.2.1=true->0<=f.1.1->f.1.1<64-> ∃d∈r,d.1=f.1.1):=by
 unfold LK;refine AA EY λv B=>AO (λm=>AB ⟨k!,k!,λo=>absurd (B.2 o) (by simp[m])⟩) (λm=>?_);have o:=B.1 m;have R:=o.2.1;have S:=o.2.2.1;refine AA (P:=λr=>r.length<=64/\(∀d∈r,∃f∈x.2.1,f.1.1=d.1/\d.2.2=f.1.2.1)/\ ∀f∈x.2.1,f.2.1=true->0<=f.1.1->f.1.1<64-> ∃d∈r,d.1=f.1.1) ?_ λr hr=>AB ⟨hr.1,hr.2.1,λ_=>hr.2.2⟩;refine Dg (λ(s:Int×List Ae)=>0<=s.1/\s.1<=64/\s.2.length<=s.1/\(∀d∈s.2,∃f∈x.2.1,f.1.1=d.1/\d.2.2=f.1.2.1)/\ ∀f∈x.2.1,f.2.1=true->0<=f.1.1->f.1.1<s.1-> ∃d∈s.2,d.1=f.1.1) (λ(s:Int×List Ae)=>(64-s.1).toNat) ⟨Ag _,u!,k!,k!,λf _ _ i k=>absurd k d!⟩ (λs I=>?_);have⟨k,O,Q,p,q⟩:=I;unfold Rq;rw[(AZ (x:=s.1+1))];refine AC (λm=>?_) (λm=>Av.done ⟨o!,p,λf h c i k=>q f h c i o!⟩);refine AA (Gi d!) λL b=>?_;refine AC (λa=>?_) (λa=>Av.next ⟨d!,d!,d!,p,λf h c i k=>?_⟩ d!)
 ·have⟨g,A,t⟩:=b.2.2.1 a;have D: ∀w,x.2.1[L.toNat]? =some w->w=g:=λw C=>by rw[A]at C;exact(Bg C).symm
  refine AA (AI a b.2.1) λM y=>?_;have E:=D M y.1;subst E;refine AA (P:=λl=>l.length<=s.2.length+1/\(∀d∈l,∃f∈x.2.1,f.1.1=d.1/\d.2.2=f.1.2.1)/\ ∀f∈x.2.1,f.2.1=true->0<=f.1.1->f.1.1<s.1+1-> ∃d∈l,d.1=f.1.1) ?_ λV H=>Av.next ⟨d!,d!,d!,H.2⟩ d!
  refine AJ (λn=>?_) (λn=>AB ⟨o!,p,λf h c i k=>?_⟩);refine AA (AI a b.2.1) λT _=>AA (AI a b.2.1) λN z=>?_;have F:=D N z.1;subst F;refine AA (Ac w!) λU G=>AB ⟨?_,λd c=>?_,λf h c i k=>?_⟩;grind;grind;rw[G.1];by_cases e:f.1.1<s.1;have⟨d,J,K⟩:=q f h c i e;grind[List.mem_append_left];exact⟨_,OS _ (BA.2 rfl),d!⟩;by_cases e:f.1.1<s.1;exact q f h c i e;have⟨j,u⟩:=Eh h;have:=o.uniq u A (by dsimp only at t;omega);subst this;rw[n]at c;cases c
 by_cases e:f.1.1<s.1;grind;have⟨j,u⟩:=Eh h;exact absurd ⟨j,f,u,by dsimp only at k⊢;omega⟩ (b.2.2.2 o!)
def gj{x:AQ}(h:SK B x):Av (Ou x) λr=>r.2=0->r.1.2.2.2.1.length<=16777216/\r.1.1=x.1/\ui x.1 x.2.2.1.2.1 r.1.2.2.2.1 r.1.2.2.2.2:=by
 unfold Ou;refine AA (Bz h.sb) λv hv=>AO (λ_=>AB n!) (λo=>?_);have J:=hv o;have ad:=J.2.1;have⟨al,n,H⟩:=h.ki;refine AA (P:=λr=>r.1.length<=16777216/\r.2=(x.1,(x.2.1,(x.2.2.2.2.2.1,x.2.2.2.2.2.2.1)))/\(∀d∈r.1,d.2.2=Bw x.2.2.1.2.1 d.1)/\ ∀p,0<=p->p<x.1->(∀d∈r.1,d.1≠p)->(∀d∈x.2.2.2.2.2.2.2,d.1≠p)/\ ∀f∈x.2.2.2.1.2.1,f.1.1=p->f.2.1=false) ?_ λr hr=>AB λ_=>⟨hr.1,by rw[hr.2.1],λp g i=>⟨λd a e=>by rw[hr.2.2.1 d a,e],λw D=>?_⟩⟩
 rotate_left 1;dsimp only at D;rw[hr.2.1]at D;have⟨_,_,c⟩:=n p g i;exact⟨(c w D).1,λa=>(c w D).2 (hr.2.2.2 p g i a).1 (hr.2.2.2 p g i a).2⟩;refine Dg (λ(s:Int×(List Ae)×Int×Int×(List Ak)×Bh)=>0<=s.1/\s.1<=x.1/\s.2.1.length<=65*s.1/\s.2.2=(x.1,(x.2.1,(x.2.2.2.2.2.1,x.2.2.2.2.2.2.1)))/\(∀d∈s.2.1,d.2.2=Bw x.2.2.1.2.1 d.1)/\ ∀p,0<=p->p<s.1->(∀d∈s.2.1,d.1≠p)->(∀d∈x.2.2.2.2.2.2.2,d.1≠p)/\ ∀f∈x.2.2.2.1.2.1,f.1.1=p->f.2.1=false) (λ(s:Int×(List Ae)×Int×Int×(List Ak)×Bh)=>(x.1-s.1).toNat) ⟨Ag _,by have:=J.1;dsimp only;omega,k!,rfl,k!,λp g i=>absurd i d!⟩ (λs hI=>?_);have⟨h1,h2,h3,R,S,b⟩:=hI;unfold Um;have e:=AZ (x:=s.1+1);rw[e];refine AC (λo=>?_) (λ_=>Av.done ⟨o!,R,S,λp g i=>b p g o!⟩);refine AA (Jp h.sb) λv2 y=>AA (P:=λl=>l.1.length<=s.2.1.length+1/\l.2=s.2.2/\(∀d∈l.1,d.2.2=Bw x.2.2.1.2.1 d.1)/\(∀d∈s.2.1,d∈l.1)/\((∀d∈l.1,d.1≠s.1)-> ∀d∈x.2.2.2.2.2.2.2,d.1≠s.1)) ?_ λW F=>?_;refine AJ (λm=>AA (Ac w!) λv6 b=>AB ?_) (λm=>AB ⟨o!,rfl,S,λd a=>a,λ_=>y.2 m⟩);have⟨q1,q2⟩:=y.1 m;have K:=b.2.1;simp at K;refine⟨d!,rfl,λd a=>?_,λd a=>by dsimp only;rw[b.1];exact HQ _ a,λhn=>absurd q2 (hn _ (by dsimp only;rw[b.1];exact OS _ (BA.2 rfl)))⟩;dsimp only at a;rw[b.1,An]at a;rcases a with a|a;grind;rw[BA]at a;subst a;exact(n _ (by dsimp only at q2;omega) (by dsimp only at q2;omega)).2.1 _ q1 rfl;have⟨a1,a2,a3,a4,a5⟩:=F;refine AA bY λE L=>?_;have⟨b1,Y,Z⟩:=L;refine AA (P:=λl=>l.1.length<=s.2.1.length+65/\l.2=s.2.2/\(∀d∈l.1,d.2.2=Bw x.2.2.1.2.1 d.1)/\(∀d∈W.1,d∈l.1)/\ ∀d∈E,d.1=s.1->d∈l.1) ?_ λao k=>Av.next ⟨d!,d!,d!,by dsimp only;rw[k.2.1,R],k.2.2.1,λp g i hn=>?_⟩ d!
 rotate_left 1;have⟨_,_,_,N,c5⟩:=k;dsimp only at i hn;by_cases u:p<s.1;exact b p g u λd a=>hn d (N d (a4 d a));have ep:p=s.1:=o!
 subst ep;refine⟨a5 λd a=>hn d (N d a),λf C Q=>?_⟩;cases hb:f.2.1 with
 |false=>rfl
 |true=>have⟨d,G,q⟩:=Z J.2.2.2.1 f C hb o! o!;exact absurd (q.trans Q) (hn d (c5 d G (q.trans Q)))
 refine Dg (λ(t:Int×(List Ae)×Int×Int×(List Ak)×Bh)=>0<=t.1/\t.1<=E.length/\t.2.1.length<=s.2.1.length+1+t.1/\t.2.2=s.2.2/\(∀d∈t.2.1,d.2.2=Bw x.2.2.1.2.1 d.1)/\(∀d∈W.1,d∈t.2.1)/\ ∀(j:Nat) (d:Ae),(j:Int)<t.1->E[j]? =some d->d.1=s.1->d∈t.2.1) (λ(t:Int×(List Ae)×Int×Int×(List Ak)×Bh)=>((E.length:Int)-t.1).toNat) ⟨Ag _,d!,d!,a2,a3,λd a=>a,λj d I=>absurd I d!⟩ (λt hJ=>?_);have⟨j1,j2,j3,U,M,V,j7⟩:=hJ;unfold Un;have e2:=AZ (x:=t.1+1);rw[e2];refine AC (λo=>?_) (λo=>Av.done ⟨o!,U,M,V,λd a O=>?_⟩);rotate_left 1;grind[List.getElem?_of_mem,DU];simp[len]at o;refine AA (AI j1 o) λX z=>?_;refine AA (P:=λl=>l.1.length<=t.2.1.length+1/\l.2=t.2.2/\(∀d∈l.1,d.2.2=Bw x.2.2.1.2.1 d.1)/\(∀d∈t.2.1,d∈l.1)/\(X.1=s.1->X∈l.1)) ?_ λv9 A=>Av.next ⟨d!,d!,d!,A.2.1.trans U,A.2.2.1,λd a=>A.2.2.2.1 d (V d a),λj d I a O=>?_⟩ d!
 rotate_left 1;dsimp only at I;by_cases u:(j:Int)<t.1;grind;have:j=t.1.toNat:=o!
 subst this;rw[z.1]at a;have:=Bg a;subst this;exact A.2.2.2.2 O;refine AV (λT=>AA (Ac w!) λv6 b=>AB ?_) (λT=>AB ⟨o!,rfl,M,λd a=>a,λe=>absurd e T⟩);have K:=b.2.1;simp at K;refine⟨d!,rfl,λd a=>?_,λd a=>by dsimp only;rw[b.1];exact HQ _ a,λ_=>by dsimp only;rw[b.1];exact OS _ (BA.2 rfl)⟩;dsimp only at a;rw[b.1,An]at a;rcases a with a|a;exact M d a;rw[BA]at a;subst a;have⟨f,C,f1,f2⟩:=Y d z.2;have hr:=H f C;rw[f2,(n d.1 o! o!).1 f C f1,Pe]
theorem ACq: ∃c e,DA []=some (c,e)/\e≠0:=⟨(0,(0,([],([],[])))),5,by kernel_rfl,g!⟩
theorem dx{x:AQ}(h:SK B x):Av (QL x) λr=>r.2.2=0->KL B x r.1:=by
 refine AA (gj h) λM u=>AL (λb=>AB λa=>absurd a b) (λa=>?_);have⟨o,L,C⟩:=u a;refine AA ((Zr o).and (ACv o)) λE j=>AC (λ_=>AB λa=>absurd a (by decide)) (λf=>?_);simp[len]at f;have d: ∀c,DA E.1=some (c,0)->c.1=x.1->ui x.1 x.2.2.1.2.1 c.2.2.2.1 c.2.2.2.2:=by intro c b _;rcases j.2 (by omega)with e|⟨g,D,K,A,i⟩;grind[ACq,Option.some.inj];have⟨_,q2,q3⟩:=(ACo g A (by omega) i).get b rfl;rw[q2,q3];exact C
 refine AA (F6 h.sb) λN v=>AL (λb=>AB λa=>absurd a b) (λa=>?_);have⟨_,⟨a1,a2,a3,a4,a5,a6,a7,a8,e,k,s,t,l,I,m,J⟩,w⟩:=v a;dsimp only at a1 a2 a4 a7 k s t l m w;have y:=a2.1;refine AA (Jl.and (o8 a3 (by grind))) λO n=>AB λ_=>?_;have⟨F,p,G,H,_⟩:=n.1 n.2;refine⟨a1,a2.trans (LX.of G p H),⟨a8.1,a8.2.1,a8.2.2,?_⟩,F⟩;unfold KI;rw[a1,a4,a7,p,k,m (by decide)];refine⟨h.ki.1.app ⟨λq=>by omega,λq=>by omega,λ_=>?_⟩,h.ki.2.1.app ⟨by omega,by omega⟩,h.ki.2.2⟩;rw[(congrArg (λz=>z.2.2) l)];exact d
def V4{x:AT}(h:SK B x.1)(d:DJ B x.1.2.2.1 x.2):Av (K2 x) λr=>r.2.2=0->SR B x r.1:=by exact AA (dx h) λe b=>AL (λc=>AB λa=>absurd a c) (λa=>AB λ_=>⟨b a,d.up (b a).2.1⟩)
end Go.Pm
namespace Go.Pm
open Go Go.Ab
set_option maxHeartbeats 400000
theorem Zq{x:BY}(h:x.length<=1099511627776):Av (DA x) λr=>r.2=0->pC r.1/\r.1.2.2.2.1.length<=65536:=by unfold DA;refine AA (Ca h) λO _=>AA (Ca h) λQ _=>AA (Ca h) λc w=>AL (λa=>AB n!) (λj=>?_);have⟨a1,a2,a3,_⟩:=w j;have a4:=a3 q!;dsimp only at a1 a2;rw[(AZ (x:=len x-10) q!)];refine AC (λa=>AB n!) (λa=>?_);simp[len]at a;rw[(AZ (x:=10+c.1))];refine AA (Ch g!) λR y=>AA (Ca h) λd z=>AL (λa=>AB n!) (λk=>?_);have⟨o,p,q,t⟩:=z k;have G:=q q!;have H:=t q!;dsimp only at o p;rw[(AZ (x:=len x-(10+c.1)) q!)];rw[(AZ (x:=len x-(10+c.1)-1) q!)];rw[(AZ (x:=17*d.1))];refine AC (λa=>AB n!) (λi=>?_);simp[len]at i;rw[(AZ (x:=10+c.1+1))];refine AA (P:=λr=>r.1=10+c.1+1+17*d.1/\r.2.1.length<=65536) ?_ λB e=>?_;refine AS (λ(s:Int×Int×List Ae×Int×Int×List Ak×Bh)=>0<=s.2.1/\s.2.1<=d.1/\s.1=10+c.1+1+17*s.2.1/\s.2.2.1.length<=s.2.1) (λ(s:Int×Int×List Ae×Int×Int×List Ak×Bh)=>(d.1-s.2.1).toNat) ⟨Ag _,q!,q!,k!⟩ (λs A=>?_);have⟨J,K,L,M⟩:=A;unfold Lu;refine AC (λa=>AA (Ca h) λ_ _=>AA (Ca h) λ_ _=>AA (Ca h) λ_ _=>AA (Ac w!) λS I=>?_) (λa=>AB ⟨q!,q!⟩);grind[List.length_cons,List.length_nil,AZ,AB];have N:=y.2;refine AA (Rt o!) λC u=>AL (λa=>AB λb=>absurd b a) (λm=>AA (Ch o! (by simp[len];omega) i!) λD f=>?_);have l:=f.2;simp[len]at l;exact AA (Rr o!) λE v=>AL (λa=>AB λb=>absurd b a) (λn=>AA (N1 d!) λF g=>AO (λa=>AB n!) (λa=>AB λ_=>⟨g a,e.2⟩))
def Lg.data{e:AD}(h:Lg e):e.2.2.2.2.2.2.2.length<=8192:=by have a:=h.2.2.2.2.2.2.2.2;grind[UX]
theorem Zs{x:Ah}:Av (Ot x) λr=>r.2.2=true->(pC r.1/\r.1.2.2.2.1.length<=65536)/\ ∃(i:Nat) (e:AD),x.2.1[i]? =some e/\e.2.1=6/\e.1=r.2.1/\DA e.2.2.2.2.2.2.2=some (r.1,0):=by
 refine AA Bn λv j=>AO (λ_=>AB λc=>by cases c) (λa=>?_);have f:=j.1 a;have g:=f.2.2.1;have e:=AZ (x:=len x.2.1-1) (by grind);refine AA (P:=λr=> ∀u,r= .inl u->(pC u.2.2/\u.2.2.2.2.2.1.length<=65536)/\ ∃(i:Nat) (e:AD),x.2.1[i]? =some e/\e.2.1=6/\e.1=u.1/\DA e.2.2.2.2.2.2.2=some (u.2.2,0)) ?_ λr hr=>A8 (λu b=>AB λ_=>hr u b) (λ_ _=>AB λc=>by cases c);refine AS (λ(s:Int×CN)=> -1<=s.1/\s.1<x.2.1.length) (λ(s:Int×CN)=>(s.1+1).toNat) ⟨by grind,by grind⟩ (λs d=>?_);unfold Q6;rw[(AZ (x:=s.1-1) (by omega))];refine AC (λa=>?_) (λ_=>AB λu b=>by cases b);have k:((-1<=s.1-1/\s.1-1<x.2.1.length)/\(s.1-1+1).toNat<(s.1+1).toNat):=⟨by omega,by omega⟩
 refine AA (AI a d.2) λo l=>AL (λ_=>AB k) (λm=>?_);refine AA (AI a d.2) λp h=>?_;have n:=(f.2.2.2.2.2 _ _ h.1).2.data;grind[D9,Zq,AV,AA,AI,AB]
def DG2(x:List Ae×AD)(l:List Ae):Prop:= ∀d∈l,(d.1=x.2.2.2.2.2.2.2.1.1/\d.2.2=x.2.1)\/(d.1≠x.2.2.2.2.2.2.2.1.1/\d∈x.1)
def DG1(x:List Ae×AD)(l:List Ae):Prop:= ∀d∈l,∃c∈x.1,c.1=d.1/\c.2.2=d.2.2
def DK(x:List Ae×AD)(i:Int)(l:List Ae):Prop:= ∀(j:Nat) (d:Ae),(j:Int)<i->x.1[j]? =some d->d.1≠x.2.2.2.2.2.2.2.1.1->d∈l
def DG2.snoc{x:List Ae×AD}{l m:List Ae}{d:Ae}(h:DG2 x l)(e:m=l++[d])(b:(d.1=x.2.2.2.2.2.2.2.1.1/\d.2.2=x.2.1)\/(d.1≠x.2.2.2.2.2.2.2.1.1/\d∈x.1)):DG2 x m:=by subst e;intro c a;rcases An.1 a with a|a;exact h c a;grind
def DG1.snoc{x:List Ae×AD}{l m:List Ae}{d:Ae}(h:DG1 x l)(e:m=l++[d])(b: ∃c∈x.1,c.1=d.1/\c.2.2=d.2.2):DG1 x m:=by subst e;intro c a;rcases An.1 a with a|a;exact h c a;grind
def DK.snoc{x:List Ae×AD}{l m:List Ae}{d:Ae}{i:Int}(h:DK x i l)(e:m=l++[d]):DK x i m:=λj c b a hn=>by rw[e];exact HQ _ (h j c b a hn)
def DK.next{x:List Ae×AD}{l:List Ae}{v:Ae}{i k:Int}(h:DK x i l)(d:0<=i)(f:k=i+1)(m:x.1[i.toNat]? =some v)(g:v.1≠x.2.2.2.2.2.2.2.1.1->v∈l):DK x k l:=λj c e b hn=>by by_cases a:(j:Int)<i;exact h j c a b hn;grind
def Xc{x:List Ae×AD}{s:Bool×Int×List Ae}(o:x.2.2.1=7)(h:0<=s.2.1/\s.2.1<=x.1.length/\x.1.length<=1000000/\s.2.2.length<=s.2.1+1/\(s.1=false->(s.2.2.length:Int)<=s.2.1)/\DG1 x s.2.2/\DK x s.2.1 s.2.2):Av (Af (F3 x) s) λr=>(r.2.length<=x.1.length+1/\(r.1=false->r.2.length<=x.1.length))/\DG1 x r.2/\DK x x.1.length r.2:=by
 refine AS (λ(s:Bool×Int×List Ae)=>0<=s.2.1/\s.2.1<=x.1.length/\x.1.length<=1000000/\s.2.2.length<=s.2.1+1/\(s.1=false->(s.2.2.length:Int)<=s.2.1)/\DG1 x s.2.2/\DK x s.2.1 s.2.2) (λ(s:Bool×Int×List Ae)=>((x.1.length:Int)-s.2.1).toNat) h (λs i=>?_);have⟨g,t,v,w,b,c,f⟩:=i;unfold F3;repeat' with_reducible first|intro a|apply AC|apply AO|apply AV|apply AJ|(apply A2;try dsimp only)|apply BX|apply Bl|apply Mn|(apply BK;try dsimp only)|(apply A5;try dsimp only)|(apply A8<;>(intro u l;try subst l))|apply AB|(apply AA (B7);intro r hr)|(refine AM ?_ (AI ?_ ?_);rintro r ⟨hr,q⟩)|(refine AM ?_ (Ac ?_);rintro r ⟨hr,p,k⟩)
 all_goals try dsimp[len]at*
 all_goals try (have e:=AZ (x:=s.2.1+1))
 all_goals try (have m:=b v!)
 all_goals (try simp only[By,Bs]at*)
 all_goals first
  |omega
  |exact⟨⟨o!,λh=>by have:=b h;omega⟩,c,λj d n=>f j d o!⟩
  |(exfalso;grind;done)
  |(refine⟨⟨o!,o!,o!,o!,by first|(intro h;have:=b h;omega)|(intro h;cases h),?_,?_⟩,o!⟩
    first|exact c|exact c.snoc v! (by refine⟨_,v!,?_,?_⟩<;>rfl)
    ·first|exact f.next g e v! (λhn=>absurd v! hn)|exact(f.snoc v!).next g e v! (by first|(intro hn;exact absurd v! hn)|(intro _;subst_vars;simp)))
def Xd{x:List Ae×AD}{s:Bool×Int×List Ae}(q:x.2.2.1=1\/x.2.2.1=2)(h:0<=s.2.1/\s.2.1<=x.1.length/\x.1.length<=1000000/\s.2.2.length<=s.2.1+1/\(s.1=false->(s.2.2.length:Int)<=s.2.1)/\DG2 x s.2.2/\DK x s.2.1 s.2.2/\(s.1=true-> ∃d∈s.2.2,d.1=x.2.2.2.2.2.2.2.1.1)):Av (Af (F3 x) s) λr=>(r.2.length<=x.1.length+1/\(r.1=false->r.2.length<=x.1.length))/\DG2 x r.2/\DK x x.1.length r.2/\(r.1=true-> ∃d∈r.2,d.1=x.2.2.2.2.2.2.2.1.1):=by
 refine AS (λ(s:Bool×Int×List Ae)=>0<=s.2.1/\s.2.1<=x.1.length/\x.1.length<=1000000/\s.2.2.length<=s.2.1+1/\(s.1=false->(s.2.2.length:Int)<=s.2.1)/\DG2 x s.2.2/\DK x s.2.1 s.2.2/\(s.1=true-> ∃d∈s.2.2,d.1=x.2.2.2.2.2.2.2.1.1)) (λ(s:Bool×Int×List Ae)=>((x.1.length:Int)-s.2.1).toNat) h (λs l=>?_);have⟨i,w,y,z,c,a,f,k⟩:=l;unfold F3;repeat' with_reducible first|intro b|apply AC|apply AO|apply AV|apply AJ|(apply A2;try dsimp only)|apply BX|apply Bl|apply Mn|(apply BK;try dsimp only)|(apply A5;try dsimp only)|(apply A8<;>(intro u n;try subst n))|apply AB|(apply AA (B7);intro r hr)|(refine AM ?_ (AI ?_ ?_);rintro r ⟨hr,v⟩)|(refine AM ?_ (Ac ?_);rintro r ⟨hr,t,m⟩)
 all_goals try dsimp[len]at*
 all_goals try (have e:=AZ (x:=s.2.1+1))
 all_goals try (have o:=c v!)
 all_goals (try simp only[By,Bs]at*)
 all_goals first
  |omega
  |exact⟨⟨o!,λh=>by have:=c h;omega⟩,a,λj d p=>f j d o!,k⟩
  |(exfalso;grind;done)
  |(refine⟨⟨o!,o!,o!,o!,by first|(intro h;have:=c h;omega)|(intro h;cases h)|trivial,?_,?_,?_⟩,o!⟩
    first|exact a.snoc v! (by exact .inl ⟨v!,rfl⟩)|exact a.snoc v! (by exact .inr ⟨v!,v!⟩)|refine DG2.snoc (DG2.snoc a v! (by exact .inl ⟨rfl,rfl⟩)) v! (by exact .inr ⟨o!,v!⟩)
    ·first|exact(f.snoc v!).next i e v! (by first|(intro hn;exact absurd v! hn)|(intro _;subst_vars;simp))|exact((f.snoc v!).snoc v!).next i e v! (by intro _;subst_vars;simp)
    first|(intro h;refine(k h).elim λd g=>⟨d,by subst_vars;simp[g.1],g.2⟩)|(intro _;subst_vars;refine⟨_,OS _ (BA.2 rfl),?_⟩;assumption)|(intro _;subst_vars;refine⟨_,HQ _ (OS _ (BA.2 rfl)),?_⟩;rfl))
def bg{x:List Ae×AD}(h:x.1.length<=1000000):Av (G8 x) λr=>r.length<=x.1.length+1/\(¬(x.2.2.1=1\/x.2.2.1=2)->x.2.2.1≠7->r=x.1)/\(x.2.2.1=7->DG1 x r/\DK x x.1.length r)/\(x.2.2.1=1\/x.2.2.1=2->DG2 x r/\DK x x.1.length r/\ ∃d∈r,d.1=x.2.2.2.2.2.2.2.1.1):=by
 refine AA B7 λB m=>AO (λb=>?_) (λb=>?_);have i: ¬(x.2.2.1=1\/x.2.2.1=2):=λq=>by rw[m.2 q]at b;cases b
 refine AL (λhn=>AB ⟨o!,λ_ _=>rfl,λe=>absurd e hn,λq=>absurd q i⟩) (λo=>?_);refine AA (Xc o ⟨Ag _,q!,h,k!,k!,by simp[DG1],λj d g=>absurd g q!⟩) λv f=>?_;refine AO (λp=>AA B7 λs n=>AA (P:=λl=>l=v.2) (AJ (λa=>absurd (n.1 a) i) (λ_=>AB rfl)) λl c=>AB ?_) (λ_=>AB ⟨f.1.1,λ_ q=>absurd o q,λ_=>f.2,λq=>absurd q i⟩);grind;have k:=m.1 b;refine AA (Xd k ⟨Ag _,q!,h,k!,k!,by simp[DG2],λj d g=>absurd g q!,λq=>by cases q⟩) λv f=>?_;have⟨⟨s,z⟩,t,u,A⟩:=f;refine AO (λp=>AA B7 λw n=>AA (P:=λl=>l=v.2++[(x.2.2.2.2.2.2.2.1.1,(x.2.1,x.2.1))]) (AJ (λa=>?_) (λa=>?_)) λl c=>AB ?_) (λy=>AB ⟨s,λq=>absurd k q,λq=>absurd q o!,λ_=>⟨t,u,A y⟩⟩);grind[AA,Ac,AB];grind;have:=z p;refine⟨q!,λq=>absurd k q,λq=>absurd q o!,λ_=>⟨t.snoc c (.inl ⟨rfl,rfl⟩),u.snoc c,_,by rw[c];exact OS _ (BA.2 rfl),rfl⟩⟩
def ui.other{n:Int}{L:List AD}{D:List Ae}{R:List Dq}{e:AD}(h:ui n L D R)(a: ¬(e.2.1=1\/e.2.1=2)):ui n (L++[e]) D R:=by
 intro p b c;have:bC p e=false:=by simp only[not_or]at a;simp[bC,a.1,a.2]
 rw[O2,this,if_neg g!];exact h p b c
def ui.change{n:Int}{L:List AD}{D r:List Ae}{R:List Dq}{e:AD}(h:ui n L D R)(v:e.2.1=1\/e.2.1=2)(o: ∀p,Bw L p<e.1)(k:DG2 (D,e) r)(m:DK (D,e) D.length r)(u: ∃d∈r,d.1=e.2.2.2.2.2.2.1.1):ui n (L++[e]) r R:=by intro p s t;have⟨a,b⟩:=h p s t;rw[O2,(by grind[bC]:bC p e=(e.2.2.2.2.2.2.1.1==p))];by_cases i:e.2.2.2.2.2.2.1.1=p;rw[beq_iff_eq.2 i,if_pos rfl];refine⟨λd f c=>?_,λw g=>⟨by have:=(b w g).1;have:=o p;omega,λhn=>?_⟩⟩;rcases k d f with q|q;grind;grind;grind;rw[beq_eq_false_iff_ne.2 i,if_neg g!];refine⟨λd f c=>?_,λw g=>⟨(b w g).1,λhn=>(b w g).2 λd f c=>?_⟩⟩;rcases k d f with q|q;grind;exact a d q.2 c;have⟨j,l⟩:=Eh f;exact hn d (m j d (by have:=DU l;omega) l (λq=>i (q.symm.trans c))) c
def ui.index{n:Int}{L:List AD}{D r:List Ae}{R:List Dq}{e:AD}{w:Dq}(h:ui n L D R)(A:e.2.1=7)(B:e.2.2.2.2.2.1=Bw L e.2.2.2.2.2.2.1.1)(y:0≤e.2.2.2.2.2.2.1.1)(k:DG1 (D,e) r)(l:DK (D,e) D.length r)(C:R[e.2.2.2.2.2.2.1.1.toNat]? =some w):
  ui n (L++[e]) r (R.set e.2.2.2.2.2.2.1.1.toNat ((if e.2.2.2.2.2.1>w.1 then e.2.2.2.2.2.1 else w.1),w.2)):=by
 refine ui.other ?_ o!;intro p s t;have⟨a,b⟩:=h p s t;refine⟨λd g f=>?_,λu i=>?_⟩;have⟨c,z,v,x⟩:=k d g;grind;by_cases o:e.2.2.2.2.2.2.1.1=p;grind;rw[EA o!]at i;refine⟨(b u i).1,λhn=>(b u i).2 λd g f=>?_⟩;have⟨j,m⟩:=Eh g;exact hn d (l j d q! m (λq=>o (q.symm.trans f))) f
def rM{n:Int}{L:List AD}{D r:List Ae}{R:List Dq}{q:Bh×Int}{e:AD}(h:ui n L D R)(l:EOK n L e)(m: ∀p,Bw L p<e.1)
  (j:r.length<=D.length+1/\(¬(e.2.1=1\/e.2.1=2)->e.2.1≠7->r=D)/\(e.2.1=7->DG1 (D,e) r/\DK (D,e) D.length r)/\(e.2.1=1\/e.2.1=2->DG2 (D,e) r/\DK (D,e) D.length r/\ ∃d∈r,d.1=e.2.2.2.2.2.2.1.1))
  (k:q.2=0->q.1.length=R.length/\(e.2.1≠7->q.1=R)/\(e.2.1=7->0<=e.2.2.2.2.2.2.1.1/\ ∃w,R[e.2.2.2.2.2.2.1.1.toNat]? =some w/\q.1=R.set e.2.2.2.2.2.2.1.1.toNat ((if e.2.2.2.2.2.1>w.1 then e.2.2.2.2.2.1 else w.1),w.2)))
  (t:q.2=0):ui n (L++[e]) r q.1:=by
 have⟨_,g,f,c⟩:=j;have⟨_,u,v⟩:=k t;by_cases b:e.2.1=7;have⟨i,w,s,o⟩:=v b;rw[o];exact h.index b (l.2.1 b) i (f b).1 (f b).2 s;rw[u b];by_cases a:e.2.1=1\/e.2.1=2;exact h.change a m (c a).1 (c a).2.1 (c a).2.2;rw[g a b];exact h.other a
variable {B:Int->Prop}
def HL(l:List Ak):Prop:=l.length<=64/\ ∀t∈l,t.2.2.2.2.1.length<=4097
def Xu.hl{l:List Ak}(h:Xu l):HL l:=⟨h.1,λt b=>by have⟨i,a⟩:=Fg.1 b;have:=(h.2 i t a).1;omega⟩
def HL.set{l:List Ak}{i:Nat}{n:Ak}(h:HL l)(hn:n.2.2.2.2.1.length<=4097):HL (l.set i n):=⟨by rw[iY];exact h.1,λt a=>by rcases Ux a with q|q;exact h.2 t q;rw[q];exact hn⟩
def HL.rm{l:List Ak}{id:Int}(h:HL l):HL (z0 l id):=⟨by have:=mD l id;have:=h.1;omega,λt a=>h.2 t (Bc.1 a).1⟩
def Xu.lens{l:List Ak}{i:Nat}{t:Ak}(h:Xu l)(a:l[i]? =some t):t.2.2.2.2.1.length<=4096:=(h.2 i t a).1
def ACO{x:List Ak×AD}:Av (GR x) λr=>r.2=0->HL r.1:=by refine AA Dz λz j=>AO (λb=>AB n!) (λb=>?_);have c:=j b;have n:=c.1;refine AA CM λA y=>AO (λb=>AB n!) (λ_=>AV (λb=>AB λ_=>c.hl) (λp=>AA (IB q!) λB g=>AC (λb=>AB n!) (λo=>AA (AI o! g.2.1) λC m=>?_)));have f:=c.lens m.1;refine AL (λb=>AB n!) (λ_=>AA (P:=λs=>(∃u,s= .inl u/\u.2.2.2.2.1.length<=4097)\/ ∃u,s= .inr u/\(u.2=0->HL u.1)) ?_ λs h=>?_);refine AV (λ_=>?_) (λ_=>?_);grind[AA,Ac,AB];refine AA (P:=λs=>(∃u,s= .inr u/\u.2.2.2.2.1.length<=4097)\/ ∃u,s= .inl u/\(u.2=0->HL u.1)) (AV (λ_=>AA (Q5 ⟨Ag _,q!,f,k!⟩) λq k=>AV (λ_=>AB (.inr ⟨_,rfl,n!⟩)) (λ_=>AB (.inl ⟨_,rfl,q!⟩))) (λ_=>AV (λ_=>AB (.inl ⟨_,rfl,q!⟩)) (λ_=>AA (JM q!) λt d=>AB (.inr ⟨_,rfl,λ_=>by rw[d];exact c.hl.rm⟩)))) λs h=>?_;grind[A5,AB,BK];rcases h with⟨u,rfl,i⟩|⟨u,rfl,i⟩;refine BK (AA (M6 o!) λv l=>?_);refine AA (LN q! ⟨q!,g.2.1⟩) λw e=>AB λ_=>?_;rw[e];exact c.hl.set q!;exact A5 (AB i)
def AN(n c:Int)(L:List AD)(m:Nat)(a:CY):Prop:=a.1=n/\HL a.2.2.2.1/\a.2.2.2.2.2.1.length<=m/\a.2.2.1=c/\ui n L a.2.2.2.2.2.1 a.2.2.2.2.2.2
def dz{x:CY×AD}{n c:Int}{L:List AD}{m:Nat}(h:AN n c L m x.1)(f:m<=1000000)(d:EOK n L x.2)(e: ∀p,Bw L p<x.2.1):Av (MR x) λr=>r.2=0->AN n c (L++[x.2]) (m+1) r.1:=by
 unfold MR;have⟨a1,a2,a3,a5,a6⟩:=h;have a4:=a2.1;repeat' with_reducible first|apply AC<;>intro b|apply AL<;>intro b|apply AJ<;>intro b|(apply A2;try dsimp only)|apply BX|apply Bl|apply Mn|(apply BK;try dsimp only)|(apply A5;try dsimp only)|apply AB|(apply AA ACO;intro r hr)|(refine AM ?_ (Fo ?_);intro r hr)|(apply AA (TC);intro r hr)|(apply AA (T2);intro r hr)|(apply AA (B7);intro r hr)|(refine AM ?_ (bg ?_);intro r hr)
 all_goals try dsimp[len]at*
 all_goals first|omega|(intro a;exact absurd a v!)|(intro a;exact absurd a g!)|(intro _;unfold AN;refine⟨by first|assumption|grind,q!,by first|omega|grind,by first|assumption|grind,?_⟩;exact rM a6 d e v! v! v!)|grind
def Uj{x:Int}:Av (NQ x) λr=> ∀w∈r.1,w.1=0:=by refine AC (λ_=>AB k!) (λ_=>AC (λ_=>AB k!) (λ_=>?_));grind[AA,vP,AB]
def bi{x:Ah×Int}(n:D8 x.1)(u:x.1.1=1)(m:LI x.2 x.1.2.1):Av (PZ x) λr=>r.2=0-> ∃k:Nat,k<=x.1.2.1.length/\AN x.2 k (x.1.2.1.take k) 65536 r.1:=by
 refine AA Zs λv j=>AO (λ_=>?_) (λb=>?_);refine AC (λb=>AB n!) (λ_=>?_);exact AA Uj λy l=>AB λ_=>⟨0,B8 _,rfl,⟨k!,λt o=>by simp at o⟩,k!,rfl,λp _ _=>⟨k!,λw q=>by have:=l w (BM q);exact⟨by rw[this];exact Ag _,λ_=>this⟩⟩⟩
 have⟨⟨d,f⟩,i,e,a,g,s,h⟩:=j b;refine AL (λb=>AB n!) (λhn=>AB λ_=>⟨i+1,DU a,rfl,d.2.2.1.hl,f,?_,?_⟩);have:=(n.2.2.2.2.2 i e a).1;grind;rw[Dt,a];exact((m i e a).2.2 g _ h hn).other o!
def dy{x:Ao×Ao}:Av (Fb x) λr=>True:=by exact AL (λ_=>AB trivial) (λ_=>AL (λ_=>AB trivial) (λ_=>AB trivial))
def YO{x:List Ao×Ao}{s:Int}(h:0<=s/\s<=x.1.length/\(x.1.length:Int)<=16777216):Av (Af (N2 x) s) λr=>0<=r/\r<=x.1.length:=by
 refine AS (λ(s:Int)=>0<=s/\s<=x.1.length/\(x.1.length:Int)<=16777216) (λ(s:Int)=>((x.1.length:Int)-s).toNat) h (λs a=>?_);unfold N2;repeat' with_reducible first|apply AJ<;>intro b|apply AB|(apply AA (dy);intro r hr)|(refine AM ?_ (AI ?_ ?_);rintro r ⟨hr,c⟩)
 all_goals exact l!
def eA{x:List Ao×Ao}(h:x.1.length<=1000000):Av (QP x) λr=>r.length<=x.1.length+1:=by
 refine AA (YO ⟨Ag _,o!⟩) λp d=>?_;have a:Av (Option.bind (cH x.1 0 p) λb=>
 Option.bind (cH x.1 p (len x.1)) λc=>
 Option.bind (app [] b) λe=>
 Option.bind (app e ([x.2]:List (Int×((Int×Int)×Int)))) λf=>
 Option.bind (app f c) λg=>
 some g) λr=>r.length<=x.1.length+1:=by refine AA (B5 (Ag _) d.1 d.2) λb i=>AA (B5 d.1 q! q!) λc j=>?_;grind[AA,Ac,AB]
 refine AC (λk=>?_) (λ_=>a);exact AA (AI d.1 k) λl _=>AJ (λ_=>AB o!) (λ_=>a)
def bh{x:Ah×List Ak}(h:HL x.2):Av (LV x) λr=>r.1.length<=262208:=by unfold LV;have k:=h.1;refine AA (P:=λr=>(∀u,r= .inl u->u.1.length<=262208)/\ ∀u,r= .inr u->u.length<=262208) ?_ λr hr=>A8 (λu a=>AB (hr.1 u a)) (λu a=>AB (hr.2 u a));refine AS (λ(s:List Ao×Int)=>0<=s.2/\s.2<=x.2.length/\s.1.length<=4097*s.2) (λ(s:List Ao×Int)=>((x.2.length:Int)-s.2).toNat) ⟨Ag _,q!,k!⟩ (λs d=>?_);have⟨f,m,n⟩:=d;unfold Ry;rw[(AZ (x:=s.2+1))];refine AC (λb=>?_) (λ_=>AB ⟨λu a=>(by cases a),λu a=>q!⟩);simp[len]at b;have⟨t,i,j⟩:=AI (l:=x.2) f b;have v:=h.2 t j.2;refine AA (P:=λr=>(∀u,r= .inl u->u.1.length<=262208)/\ ∀u,r= .inr u->u.length<=4097*(s.2+1)) ?_ λr hr=>?_;refine AS (λ(q:List Ao×Int)=>0<=q.2/\q.2<=t.2.2.2.2.1.length/\q.1.length<=4097*s.2+q.2) (λ(q:List Ao×Int)=>((t.2.2.2.2.1.length:Int)-q.2).toNat) ⟨Ag _,q!,q!⟩ (λq e=>?_);have⟨g,o,p⟩:=e;unfold Rz;rw[i];apply A2;rw[(AZ (x:=q.2+1))];refine AC (λb=>?_) (λ_=>AB ⟨λu a=>(by cases a),λu a=>q!⟩);simp[len]at b;refine A2 (AA (AI g b) λw _=>AA G5 λy _=>AL (λ_=>AB ⟨λu a=>q!,λu a=>(by cases a)⟩) (λ_=>AL (λ_=>AB ⟨λu a=>(by cases a;simp),λu a=>(by cases a)⟩) (λ_=>A2 (AL (λ_=>AB ⟨λu a=>(by cases a;simp),λu a=>(by cases a)⟩) (λ_=>AA (eA q!) λz c=>AB ?_)))));dsimp only at c;exact⟨⟨q!,o!,d!⟩,o!⟩;grind[A8,AB]
def YN{x:Ah×Int}(c:D8 x.1)(M:x.1.1=1)(G:LI x.2 x.1.2.1):Av (Jt x) λr=>r.2=0->r.1.1=x.2/\HL r.1.2.2.2.1/\r.1.2.2.2.2.1.length<=262208/\r.1.2.2.2.2.2.1.length<=70000/\ui x.2 x.1.2.1 r.1.2.2.2.2.2.1 r.1.2.2.2.2.2.2:=by
 unfold Jt;refine AA Bn λv Q=>AO (λ_=>AB n!) (λa=>?_);have O:=Q.1 a;have H:=O.2.2.1;refine AC (λ_=>AB n!) (λ_=>AC (λ_=>AB n!) (λ_=>AA (bi c M G) λv1 I=>AL (λa=>AB λb=>absurd b a) (λD=>?_)));have⟨k,N,K⟩:=I D;refine AA (P:=λr=>(∀u,r= .inl u->u.1≠0)/\ ∀u,r= .inr u->AN x.2 k x.1.2.1 70000 u.1) ?_ λr hr=>A8 (λu d=>AB λb=>absurd b (hr.1 u d)) (λu d=>?_);refine AS (λ(s:Int×CY×CY)=>0<=s.1/\s.1<=x.1.2.1.length/\AN x.2 k (x.1.2.1.take (max k s.1.toNat)) (65536+s.1.toNat) s.2.1) (λ(s:Int×CY×CY)=>((x.1.2.1.length:Int)-s.1).toNat) ⟨Ag _,d!,by simpa using K⟩ (λs z=>?_);have⟨m,R,f⟩:=z;unfold QN;have e:=AZ (x:=s.1+1);rw[e];refine AC (λa=>?_) (λ_=>AB ⟨λu d=>(by cases d),λu d=>?_⟩);simp[len]at a;have en:(s.1+1).toNat=s.1.toNat+1:=o!
 refine AA (AI m a) λv3 J=>?_;have n3:=(c.2.2.2.2.2 _ _ J.1).1;refine AC (λB=>AB ⟨⟨d!,d!,?_⟩,d!⟩) (λB=>?_);have⟨q1,q2,q3,q4,q5⟩:=f;have n:max k (s.1+1).toNat=max k s.1.toNat:=o!
 exact⟨q1,q2,d!,q4,by dsimp only;rw[n];exact q5⟩;have q4:=f.2.2.2.1;have n:max k s.1.toNat=s.1.toNat:=o!
 rw[n]at f;refine AA (AI m a) λZ F=>?_;have i:x.1.2.1.take (max k (s.1+1).toNat)=x.1.2.1.take s.1.toNat++[Z]:=by grind[List.take_add_one]
 refine AA (dz f o! (G _ _ F.1) λp=>?_) λv5 h5=>?_;have n4:=(c.2.2.2.2.2 _ _ F.1).1;refine lW _ _ d! λe L=>?_;have⟨j,A⟩:=Eh L;have C:=DU A;rw[Ba]at C;rw[Kg o!]at A;have:=(c.2.2.2.2.2 j e A).1;dsimp only;omega;grind[AL,AB];cases d;have⟨q1,q2,q3,q4,q5⟩:=f;simp[len]at*;rw[BS o!]at q5;exact⟨q1,q2,o!,q4,q5⟩;have⟨q1,q2,q3,_,q5⟩:=hr.2 u d;have S:=q2.1;refine AA (P:=λl=>HL l) ?_ λX h=>?_;refine AS (λ(s:Int×List Ak)=>0<=s.1/\s.1<=u.1.2.2.2.1.length/\s.2.length<=s.1/\ ∀t∈s.2,t.2.2.2.2.1.length<=4097) (λ(s:Int×List Ak)=>((u.1.2.2.2.1.length:Int)-s.1).toNat) ⟨Ag _,d!,k!,λt i=>by simp at i⟩ (λs z=>?_);have⟨m,R,f,E⟩:=z;unfold QO;have e:=AZ (x:=s.1+1);rw[e];refine AC (λa=>?_) (λ_=>AB ⟨o!,E⟩);simp[len]at a;refine AA (AI m a) λT _=>?_;refine AA (P:=λl=>l.length<=s.2.length+1/\ ∀t∈l,t.2.2.2.2.1.length<=4097) ?_ λW g=>AB ⟨⟨d!,d!,by have:=g.1;dsimp only;omega,g.2⟩,d!⟩;refine AC (λ_=>AA (AI m a) λU o=>AA (Ac w!) λV q=>AB ⟨?_,λt i=>?_⟩) (λ_=>AB ⟨o!,E⟩);grind;rw[q.1]at i;rcases An.1 i with w|w;exact E t w;simp at w;rw[w];exact q2.2 _ o.2;exact AA (bh h) λY y=>AL (λa=>AB λb=>absurd b a) (λb=>AB λ_=>⟨q1,h,y,q3,q5⟩)
def Ui{x:Int}:Av (KA x) λr=>r.1.2.1=[]:=by
 unfold KA;repeat' with_reducible first|apply AC<;>intro a|apply AB
 all_goals rfl
def bj{x:Ah×CY×Int}(t:D8 x.1)(h:HL x.2.1.2.2.2.1/\x.2.1.2.2.2.2.1.length<=262208/\x.2.1.2.2.2.2.2.1.length<=70000)(q:LI x.2.1.1 x.1.2.1)(e:ui x.2.1.1 x.1.2.1 x.2.1.2.2.2.2.2.1 x.2.1.2.2.2.2.2.2):Av (LW x) λr=>r.2=0->r.1.1=x.2.1.1/\SK B r.1/\D8 r.1.2.2.1/\LX x.1 r.1.2.2.1:=by
 unfold LW;have⟨a1,a2,a3⟩:=h;have a4:=a1.1;refine AA Ui λj f=>AL (λ_=>AB n!) (λ_=>?_);have k:SK B (x.2.1.1,(x.2.1.2.1,(x.1,(j.1,((x.2.1.2.2.2.2.1,[]),(x.2.1.2.2.2.1,(x.2.1.2.2.2.2.2.2,x.2.1.2.2.2.2.2.1))))))):=⟨⟨q!,k!⟩,q!,q!,q,λp g i=>⟨q!,(e p g i).1,λw l=>⟨((e p g i).2 w l).1,λhn _=>((e p g i).2 w l).2 hn⟩⟩,by unfold FD;dsimp only;rw[f];simp⟩
 refine AA (Bz k.sb) λy _=>AO (λ_=>AB n!) (λ_=>AA (P:=λr=>(∀u,r= .inl u->u.1≠0)/\ ∀u,r= .inr u->KL B (x.2.1.1,(x.2.1.2.1,(x.1,(j.1,((x.2.1.2.2.2.2.1,[]),(x.2.1.2.2.2.1,(x.2.1.2.2.2.2.2.2,x.2.1.2.2.2.2.2.1))))))) u.1) ?_ λr hr=>A8 (λu a=>AB λb=>absurd b (hr.1 u a)) (λu a=>AB λ_=>?_));refine AS (λ(s:Int×AQ×AQ)=>0<=s.1/\s.1<=x.2.1.2.2.2.1.length/\KL B (x.2.1.1,(x.2.1.2.1,(x.1,(j.1,((x.2.1.2.2.2.2.1,[]),(x.2.1.2.2.2.1,(x.2.1.2.2.2.2.2.2,x.2.1.2.2.2.2.2.1))))))) s.2.1) (λ(s:Int×AQ×AQ)=>((x.2.1.2.2.2.1.length:Int)-s.1).toNat) ⟨Ag _,q!,KL.refl k t⟩ (λs o=>?_);have⟨m,v,d⟩:=o;unfold R0;rw[(AZ (x:=s.1+1))];refine AC (λc=>?_) (λ_=>AB ⟨λu a=>(by cases a),λu a=>q!⟩);simp[len]at c;refine AA (AI m c) λz _=>AV (λ_=>AB ⟨⟨q!,o!,d⟩,o!⟩) (λ_=>AA (AI m c) λA _=>AA (F6 d.2.2.1.sb) λC n=>?_);refine AL (λc=>AB ⟨λu a=>(by cases a;exact c),λu a=>(by cases a)⟩) (λb=>AB ⟨⟨o!,o!,d.trans ((n b).2.1.kl d.2.2.1 u!)⟩,o!⟩);have:=hr.2 u a;exact⟨this.1,this.2.2.1,this.2.2.2,this.2.1⟩
end Go.Pm
namespace Go.Pm
open Go Go.Ab
set_option maxHeartbeats 400000
variable {B:Int->Prop}
def eH{x:AT×Int×Cm}(h:SK B x.1.1)(p:D8 x.1.1.2.2.1)(o:DJ B x.1.1.2.2.1 x.1.2):Av (MW x) λr=>SR B x.1 r.1/\(r.2.1≠0->TP r.1.1.2.2.2.2.2.1<TP x.1.1.2.2.2.2.2.1):=by
 unfold MW;refine AA (P:=λr=>SR B x.1 r.2.2/\(r.1≠0->TP r.2.2.1.2.2.2.2.2.1<TP x.1.1.2.2.2.2.2.1)) ?_ λr hr=>AB hr;refine AS (λ(s:Int×AT×AT)=>SR B x.1 s.2.1/\TP s.2.1.1.2.2.2.2.2.1<=TP x.1.1.2.2.2.2.2.1/\(s.1≠0->TP s.2.1.1.2.2.2.2.2.1<TP x.1.1.2.2.2.2.2.1)) (λ(s:Int×AT×AT)=>2*TP s.2.1.1.2.2.2.2.2.1+flag (¬kf s.2.1.1.2.2.2.1 x.2.2.1)) ⟨⟨KL.refl h p,o⟩,Ai _,λe=>absurd rfl e⟩ (λs d=>?_);obtain⟨d,v,j⟩:=d;have k:=d.1.2.2;unfold TI;refine AA (dv k.1 k.2) λw n=>?_;obtain⟨k1,q,t⟩:=n;refine AV (λ_=>AB ⟨d,j⟩) (λm=>?_);refine AA (P:=λr=>(∃u,r= .inl u/\u.1=s.1/\u.2.2=s.2.1)\/ ∃u,r= .inr u/\SR B s.2.1 u.2.1/\(TP u.2.1.1.2.2.2.2.2.1<TP s.2.1.1.2.2.2.2.2.1\/(u.1=s.1/\TP u.2.1.1.2.2.2.2.2.1=TP s.2.1.1.2.2.2.2.2.1/\kf u.2.1.1.2.2.2.1 x.2.2.1/\ ¬kf s.2.1.1.2.2.2.1 x.2.2.1))) ?_ λr hr=>?_;apply AV<;>intro l;obtain⟨a,b,c⟩:=q l;refine AA (He k.1 d.2) λy i=>?_;refine AL (λ_=>AB (.inl ⟨_,rfl,rfl,rfl⟩)) (λe=>AB (.inr ⟨_,rfl,(i e).1.sr,.inr ⟨rfl,?_,?_,b⟩⟩));have:=(i e).1.1.2.2.2.2.1;exact congrArg TP this;have:=(i e).2;rw[a]at this;exact this;refine AV (λ_=>AB (.inl ⟨_,rfl,rfl,rfl⟩)) (λc0=>AB (.inr ⟨_,rfl,⟨k1,d.2.up k1.2.1⟩,.inl (t l m c0)⟩));rcases hr with⟨u,rfl,g⟩|⟨u,rfl,g⟩;refine BK (AB ?_);dsimp only;rw[g.1,g.2];exact⟨d,j⟩;refine A5 (AB ?_);obtain⟨q1,q2⟩:=g;rcases q2 with q2|⟨q2,q3,q4,q5⟩;have f:=yP (¬kf u.2.1.1.2.2.2.1 x.2.2.1);exact⟨⟨d.trans q1,o!,λ_=>o!⟩,by first|omega|(dsimp only;omega)⟩;refine⟨⟨d.trans q1,o!,λe=>by rw[q3];exact j (by rw[<-q2];exact e)⟩,?_⟩;try dsimp only
 rw[tk q5,tj (λh=>h q4),q3];omega
def R1{x:AQ×Int}(h:SB x.1):Av (ID x) λr=>True:=by unfold ID;refine AA (Bz h) λv c=>?_;refine AA (P:=λ_=>True) ?_ λr _=>A8 (λ_ _=>AB trivial) (λ_ _=>AB trivial);refine AJ (λ_=>?_) (λ_=>AB trivial);refine AA (Fo h.2.1) λd a=>?_;refine AC (λb=>?_) (λ_=>AB trivial);refine AA (AI b a.2.1) λ_ _=>?_;refine AV (λ_=>?_) (λ_=>AB trivial);exact AA (AI b a.2.1) λ_ _=>AB trivial
theorem YQ{x:AQ}{s:Int×List Int}(h:0<=s.1/\s.1<=x.2.2.2.2.2.1.length/\x.2.2.2.2.2.1.length<=16777216/\s.2.length<=s.1/\SB x):Av (Af (N3 x) s) λr=>True:=by
 refine AS (λ(s:Int×List Int)=>0<=s.1/\s.1<=x.2.2.2.2.2.1.length/\x.2.2.2.2.2.1.length<=16777216/\s.2.length<=s.1/\SB x) (λ(s:Int×List Int)=>((x.2.2.2.2.2.1.length:Int)-s.1).toNat) h (λs c=>?_);unfold N3;repeat' with_reducible first|refine AC ?_ ?_<;>intro a|refine AJ ?_ ?_<;>intro a|(refine A2 ?_;try dsimp only)|refine BX ?_|refine Bl ?_|refine AB ?_|(refine AM ?_ (R1 ?_);intro r hr)|(refine AM ?_ (AI ?_ ?_);rintro r ⟨hr,e⟩)|(refine AM ?_ (Ac ?_);rintro r ⟨hr,d,b⟩)
 all_goals ((try dsimp only[len]at*);(try first|omega|assumption|grind[AZ]))
def eC{x:AQ}(h:SK B x):Av (MS x) λr=>True:=by unfold MS;exact AA (YQ ⟨Ag _,d!,h.2.1,k!,h.sb⟩) λ_ _=>AB trivial
theorem V3{x:AQ×Int}{c:Ao×Bool}{a:List Int}{s:Int×Cm}(h:0<=s.1/\s.1<=a.length/\a.length<=16777216/\SB x.1):Av (Af (K1 x c a) s) λr=>True:=by
 refine AS (λ(s:Int×Cm)=>0<=s.1/\s.1<=a.length/\a.length<=16777216/\SB x.1) (λ(s:Int×Cm)=>((a.length:Int)-s.1).toNat) h (λs d=>?_);unfold K1;repeat' with_reducible first|refine AC ?_ ?_<;>intro b|refine AJ ?_ ?_<;>intro b|refine AB ?_|(refine AM ?_ (R1 ?_);intro r hr)|(refine AM ?_ (AI ?_ ?_);rintro r ⟨hr,e⟩)
 all_goals ((try dsimp only[len]at*);(try first|omega|assumption|grind[AZ]))
def YP{x:AQ×Int}(h:SK B x.1):Av (Ju x) λr=>True:=by unfold Ju;refine AA (IZ h.1) λb _=>?_;refine AO (λ_=>AB trivial) (λ_=>?_);refine AA (LJ h.1) λc a=>?_;refine AA (V3 ⟨Ag _,d!,o!,h.sb⟩) λr _=>?_;exact A8 (λ_ _=>AB trivial) (λ_ _=>AB trivial)
def gp{x:AT×Int×Cs}(h:SK B x.1.1)(k:D8 x.1.1.2.2.1)(j:DJ B x.1.1.2.2.1 x.1.2):Av (Ow x) λr=>SR B x.1 r.1:=by unfold Ow;refine AA (P:=λr=>SR B x.1 r.1) ?_ λr hr=>AB hr;refine AS (λ(s:AT×AT×BQ)=>SR B x.1 s.1) (λ(s:AT×AT×BQ)=>TP s.1.1.2.2.2.2.2.1) ⟨KL.refl h k,j⟩ (λs c=>?_);have g:=c.1.2.2;unfold Ur;refine AA (gl g.1 g.2 c.2) λm e=>?_;have b:=c.trans e.1;have a:=b.1.2.2;refine AL (λ_=>AB b) (λi=>?_);have l:=e.2 i;refine AA (YP a.1) λn _=>?_;refine AO (λ_=>AB b) (λ_=>?_);refine AA (eH a.1 a.2 b.2) λo f=>?_;have d:=b.trans f.1;refine AL (λ_=>?_) (λ_=>?_);exact AA Bq λp _=>AB d;refine AV (λ_=>AB d) (λc0=>AB ⟨d,?_⟩);have:=f.2 c0;dsimp only at*;rw[l]at this;exact this
def eG{x:AT}(h:SK B x.1)(p:D8 x.1.2.2.1)(g:DJ B x.1.2.2.1 x.2):Av (MV x) λr=>r.2.2=0->SR B x r.1:=by
 unfold MV;refine AA (Bz h.sb) λv H=>?_;refine AO (λ_=>AB n!) (λc=>?_);refine AC (λc=>?_) (λ_=>?_);simp only[len]at c;refine AA (AI (Ag _) c) λJ _=>?_;exact AA (He h g) λK y=>AB λa=>(y a).1.sr;refine AA (eC h) λF _=>?_;refine AV (λ_=>AB λ_=>⟨KL.refl h p,g⟩) (λk=>?_);simp only[len]at k;refine AA (P:=λr=>r.2.1=0->SR B x r.2.2) ?_ λr hr=>AB hr;obtain⟨id,t,G⟩:=(AI (l:=F) (i:=0) (Ag _))
 refine AS (λ(s:AT×AT)=>SR B x s.1) (λ(s:AT×AT)=>flag (∃e,NX s.1.1 id e/\ ¬kf s.1.1.2.2.2.1 e.2.2.2.2.2.2.1.1)) ⟨KL.refl h p,g⟩ (λs b=>?_);have j:=b.1.2.2;unfold TH;rw[t];apply A2;refine AA (T6 j.1 j.2) λL A=>?_;obtain⟨k1,C,I,D⟩:=A;refine AV (λz=>AB λa=>absurd a (D z)) (λ_=>?_);refine AL (λ_=>AB λ_=>⟨b.1.trans k1,b.2.up k1.2.1⟩) (λq=>?_);obtain⟨e,n,u,w⟩:=C q;refine AA (He j.1 b.2) λM o=>?_;refine AL (λc=>AB λa=>absurd a c) (λa=>AB ⟨b.trans (o a).1.sr,?_⟩);obtain⟨m,d⟩:=o a;have E:=m.1.2.2.2.2.1;rw[tk (⟨e,n,w⟩: ∃e,NX s.1.1 id e/\ ¬kf s.1.1.2.2.2.1 e.2.2.2.2.2.2.1.1),tj];omega;rintro⟨f,q1,q2⟩;have:=n.uniq q1 E m.1.2.1;subst this;dsimp only at d;rw[u]at d;exact q2 d
end Go.Pm
namespace Go.Pm
open Go Go.Ab
set_option maxHeartbeats 400000
def runN{S R:Type}(f:S->Option (Step S R)):Nat->S->Option R
 |0,_=>none
 |n+1,s=>
  match f s with
  |some (.next s')=>runN f n s'
  |some (.done r)=>some r
  |none=>none
def uY{S R:Type}{f:S->Option (Step S R)}{r:R}: ∀{n:Nat} {s:S},runN f n s=some r->Af f s=some r
 |0,s,h=>by cases h
 |n+1,s,h=>by simp only[runN]at h;rw[Ce];split at h;rename_i b e;rw[e];exact uY h;rename_i a e;rw[e];exact h;cases h
def Tb:BY:=[80,77,76,71,1,0,0,0,0,0,0,0]
def ADU:Aj (([80,77,76,71]:List UInt8),(1,8))=some Tb:=by rw[(by kernel_rfl:Aj (([80,77,76,71]:List UInt8),(1,8))=Option.bind (Af (Gd (([80,77,76,71]:List UInt8),(1,8))) (([80,77,76,71]:List UInt8),0)) λa=>some a),uY (n:=10) (r:=Tb) (by kernel_rfl)];rfl
def AC1:As (Tb,(4,8))=some (1,0):=by rw[(by kernel_rfl:As (Tb,(4,8))=Option.bind (Af (Gc (Tb,(4,8))) (0,0)) λa=>some ((wi a),0)),uY (n:=10) (r:=1) (by kernel_rfl)];rfl
def kO(a b:List AD):Kb (a++b)=Kb a++Kb b:=by grind[Kb]
def AEt:MI 1=some (JS Tb):=by unfold MI;rw[ADU,AE,Z6 g!,AE]
def ACz{e:AD}(h:Lg e):Io e=some (JS (B6 e)):=by grind[Io,nW,Z6,Rh]
def D8.ent{l:Ah}(h:D8 l){e:AD}(a:e∈l.2.1):Lg e:=by have⟨k,b⟩:=Fg.1 a;exact(h.2.2.2.2.2 k e b).2
def ACh{l:Ah}{a:Int}(h:D8 l)(D:l.1=1):Av (G4 (l,a)) λr=> ∃m:Nat,r=JS Tb++(Kb (l.2.1.take l.2.2.toNat)++(Kb (l.2.1.drop l.2.2.toNat)).take m):=by
 have O:=h.2.2.1;have Q:=h.2.2.2.1;have R:=h.2.2.2.2.1;have b: ∀k:List AD,(∀e∈k,e∈l.2.1)->(Kb k).length<=8400*k.length:=λk w=>og λe d=>h.ent (w e d);have⟨v,H,g⟩:=Bn (x:=l);have g:=g.2 h;subst g;unfold G4;dsimp only;rw[H,AE,C3,cond_false,D,AEt,AE];refine AA (P:=λr=>r=(JS Tb++Kb (l.2.1.take l.2.2.toNat),Kb (l.2.1.drop l.2.2.toNat))) ?_ λK o=>?_
 ·refine Dg (λ(s:BY×BY×Int)=> ∃k:Nat,k<=l.2.1.length/\s=(JS Tb++Kb ((l.2.1.take k).take l.2.2.toNat),(Kb ((l.2.1.take k).drop l.2.2.toNat),(k:Int)))) (λs=>l.2.1.length-s.2.2.toNat) ⟨0,B8 _,by simp[Kb]⟩ ?_;rintro s ⟨k,w,rfl⟩;unfold Ro;dsimp[len];refine AC (λB=>?_) (λB=>Av.done (by rw[BS (l:=l.2.1) (i:=k) o!]));have f:k<l.2.1.length:=o!
  have I:ix l.2.1 (k:Int)=some l.2.1[k]:=by unfold ix;rw[if_pos o!,Int.toNat_natCast,List.getElem?_eq_getElem f]
  have j:=h.2.2.2.2.2 k _ (At f);have t:l.2.1.take (k+1)=l.2.1.take k++[l.2.1[k]]:=t!
  have E:(l.2.1.take k).length=k:=q!
  have y:(JS Tb++Kb ((l.2.1.take k).take l.2.2.toNat)).length<=40000000:=by
   have:=b ((l.2.1.take k).take l.2.2.toNat) λe d=>Fh (Fh d);have c:(JS Tb).length=20:=by rw[GI];rfl
   grind[List.length_append,List.length_take]
  have z:(Kb ((l.2.1.take k).drop l.2.2.toNat)).length<=40000000:=q!
  have C:=Rh j.2;rw[I,AE,AE,AE,ACz j.2,AE,AE,AZ (x:=(k:Int)+1)];refine AA (P:=λr=>r=(JS Tb++Kb ((l.2.1.take (k+1)).take l.2.2.toNat),Kb ((l.2.1.take (k+1)).drop l.2.2.toNat))) ?_ λJ n=>?_;apply AC<;>intro S;have q:k+1<=l.2.2.toNat:=o!
  refine AA (Cp (by rw[GI];omega)) λN u=>AB ?_;grind[List.drop_of_length_le,List.length_take,List.take_of_length_le,Ri,List.append_assoc];have q:l.2.2.toNat<=k:=o!
  refine AA (Cp (by rw[GI];omega)) λN u=>AB ?_;rw[u.1,t,cK o!,mW o!,Ri]
  ·rw[n];exact Av.next ⟨k+1,f,by rw[show(k:Int)+1=((k+1:Nat):Int) by omega]⟩ d!
 subst o;dsimp[len];have A: ∃m:Nat,(if(((Kb (l.2.1.drop l.2.2.toNat)).length:Int)<(if(0>a)then 0 else a))then((Kb (l.2.1.drop l.2.2.toNat)).length:Int)else(if(0>a)then 0 else a))=(m:Int)/\m<=(Kb (l.2.1.drop l.2.2.toNat)).length:=by refine⟨(if(((Kb (l.2.1.drop l.2.2.toNat)).length:Int)<(if(0>a)then 0 else a))then((Kb (l.2.1.drop l.2.2.toNat)).length:Int)else(if(0>a)then 0 else a)).toNat,?_,?_⟩;split<;>split<;>omega;split<;>split<;>omega
 have⟨m,F,G⟩:=A;rw[F];refine AA (Ch (Ag _)) λL c=>?_;have y:(JS Tb++Kb (l.2.1.take l.2.2.toNat)).length<=40000000:=by
  have:=b (l.2.1.take l.2.2.toNat) λe d=>Fh d;have c:(JS Tb).length=20:=by rw[GI];rfl
  rw[Ad];rw[Ba]at this;omega
 have z:(Kb (l.2.1.drop l.2.2.toNat)).length<=40000000:=by have:=b (l.2.1.drop l.2.2.toNat) λe d=>OT d;rw[GF]at this;omega
 refine AA (Cp (by have:=c.2;omega)) λM p=>AB ⟨m,?_⟩;rw[p.1,c.1,Ay];simp
def AFg{n:Nat}(h:n<=8392):cF 4 (n:Int):=⟨λ_=>q!,o!⟩
def AC0{p q s t:BY}(d:p.length<=8392)(e:q.length<=8392)(h:JS p++s=JS q++t):p=q/\s=t:=by
 have c:p.length=q.length:=by have a:=h;unfold JS at a;simp at a;have:=(L5 a (by rw[A0,A0])).1;have:=Yk g! (AFg d) (AFg e) this;omega
 have⟨b,f⟩:=L5 h (by rw[GI,GI,c]);have g:=(L5 b q!).2;grind[List.append_inj]
def AE5{b:List AD}{t y z:BY}{d:Nat}(hn:b.length<=4096)(D: ∀(i:Nat) (e:AD),b[i]? =some e->e.1=1+i/\Lg e)(G:t++y=Kb b)(M:t=Kb (b.take d)++z):Av (JV (JS Tb++t)) λr=>r.2=0-> ∃k:Nat,k<=b.length/\min d b.length<=k/\r.1=(1,(b.take k,(k:Int))):=by
 have S:=og (l:=b) λe A=>by obtain⟨k,m⟩:=Fg.1 A;exact(D k e m).2
 have U:t.length<=40000000:=by have:=congrArg List.length G;rw[Ad]at this;omega
 have C:(JS Tb).length=20:=by rw[GI];rfl
 have W:(JS Tb++t).length<=50000000:=by rw[Ad];omega
 unfold JV;have o:BT (JS Tb++t,0)=some (Tb,(20,0)):=by refine(SN (a:=[]) (t:=JS Tb++t) w!).trans (congrArg some ?_);rw[jt g!];rfl
 rw[o,AE];dsimp only;rw[show((0:Int) !=0)=false by decide,cond_false,show(len Tb !=12)=false by decide,cond_false,show UN Tb 0 4=some [80,77,76,71]from rfl,AE,bne_self_eq_false,cond_false,AC1,AE];dsimp only;rw[decide_eq_false g!,cond_false,decide_eq_false g!,cond_false,show wi ((1:Int)-1)=0 from rfl];refine AA (P:=λr=> ∃k:Nat,k<=b.length/\min d b.length<=k/\((∃u,r= .inl u/\u.2=(1,(b.take k,(k:Int))))\/ ∃u,r= .inr u/\(u.2.1,(u.1,u.2.2.1))=(1,(b.take k,(k:Int))))) ?_ λr hr=>?_
 ·refine Dg (λ(s:Int×List AD×Int×Int×Ah)=> ∃(k:Nat) (z:Ah) (c:BY),k<=b.length/\s=(((JS Tb++Kb (b.take k)).length:Int),(b.take k,(1,((k:Int),z))))/\t=Kb (b.take k)++c) (λs=>b.length-s.2.1.length) ⟨0,(0,([],0)),t,B8 _,by simp[Kb,C],by simp[Kb]⟩ ?_;rintro s ⟨k,z,c,m,rfl,hr⟩;have E:(b.take k).length=k:=by rw[Ba];omega
  have H:k<min d b.length-> ∃p R,p.length<=8392/\c=JS p++R:=λn=>by
   have g:k<b.length:=o!
   have N:b.take d=b.take (k+1)++(b.take d).drop (k+1):=by
    conv=>lhs;rw[<-EP (k+1) (b.take d)]
    rw[Kq,P8 o!]
   have O:b.take (k+1)=b.take k++[b[k]]:=by rw[Dt,At g];rfl
   rw[N,O,kO,Ri,Ay,Ay]at M;exact⟨_,_,Rh (D k _ (At g)).2,(L5 (hr.symm.trans M) rfl).2⟩
  unfold TA;dsimp only[len];refine AC (λQ=>?_) (λQ=>Av.done ⟨k,m,Nat.le_of_not_lt λn=>?_,.inr ⟨_,rfl,rfl⟩⟩);rotate_left 1;omega;have w:JS Tb++t=(JS Tb++Kb (b.take k))++c:=by rw[hr,Ay]
  have F:=congrArg List.length w;rw[@Ad _ (JS Tb++Kb (b.take k)) _]at F;have o:BT (JS Tb++t,((JS Tb++Kb (b.take k)).length:Int))=some (UF (JS Tb++Kb (b.take k)).length c):=by
   conv=>lhs;arg 1;rw[w]
   exact SN o!
  rw[o,AE];refine AL (λB=>Av.done ⟨k,m,Nat.le_of_not_lt λn=>?_,.inl ⟨_,rfl,rfl⟩⟩) (λB=>?_);obtain⟨p,R,T,V⟩:=H n;rw[V,jt T]at B;exact B rfl;obtain⟨X,⟨q,J⟩,Y⟩:=un B;have j:Kb b=Kb (b.take k)++Kb (b.drop k):=by rw[<-kO,EP]
  have f:c++y=Kb (b.drop k):=by rw[hr,Ay,j]at G;exact(L5 G rfl).2
  by_cases g:k<b.length
  ·have h:=D k _ (At g);rw[So g,lX,J,Ay]at f;obtain⟨I,Z⟩:=AC0 X (Rh h.2) f;rw[I,ABl h.2,AE];dsimp only;rw[show((0:Int) !=0)=false by decide,cond_false,AZ (x:=(k:Int)+1),show(b[k].1 !=(k:Int)+1)=false by rw[h.1];exact bne_eq_false_iff_eq.2 o!,cond_false];have v:b.take (k+1)=b.take k++[b[k]]:=by rw[Dt,At g];rfl
   refine AA (Ac (by rw[By,Bs];omega)) λv6 L=>?_;refine Av.next ⟨k+1,z,q,g,?_,?_⟩ ?_
   rw[L.1,Y,I,v,Ri,<-Ay,Ad (bs:=JS (B6 b[k])),GI];refine Dj ?_ (Dj rfl (Dj rfl (Dj ?_ rfl)));dsimp only;omega;dsimp only;rw[h.1];omega;rw[hr,v,Ri,Ay,<-I,<-J];dsimp only;rw[L.2.1,E];simp only[By,Bs];omega
  exfalso;rw[aD o!]at f;have K:=congrArg List.length f;rw[J,Ad,Ad,GI]at K;simp[Kb]at K
 obtain⟨k,m,A,⟨u,rfl,o⟩|⟨u,rfl,o⟩⟩:=hr;exact BK (AB λ_=>⟨k,m,A,o⟩);exact A5 (AB λ_=>⟨k,m,A,o⟩)
variable {B:Int->Prop}
def CB(n:Int)(P:List AD)(s:BY):Prop:= ∃es t y z,∃d:Nat,s=JS Tb++t/\t++y=Kb es/\es.length<=4096/\Lf es/\LI n es/\P=es.take d/\t=Kb (es.take d)++z
def vE{n a:Int}{l:Ah}(h:D8 l)(b:l.1=1)(c:LI n l.2.1):Av (G4 (l,a)) (CB n (dl l)):=by
 refine(ACh h b).mono λr ⟨m,hr⟩=>⟨l.2.1,_,(Kb (l.2.1.drop l.2.2.toNat)).drop m,_,l.2.2.toNat,hr,?_,h.2.2.1,h.num b,c,rfl,rfl⟩
 rw[Ay,EP,<-kO,EP]
def CB.open_{n:Int}{P:List AD}{s:BY}(h:CB n P s):Av (JV s) λr=>r.2=0->D8 r.1/\r.1.1=1/\LI n r.1.2.1/\ ∃m,P=(dl r.1).take m:=by
 obtain⟨b,t,y,z,d,rfl,p,hn,c,g,rfl,j⟩:=h;refine(AE5 hn c p j).mono λr hr u=>?_;obtain⟨k,v,o,e⟩:=hr u;rw[e];have w:(b.take k).length=k:=q!
 refine⟨⟨Ag _,q!,q!,q!,d!,λi f l=>?_⟩,rfl,?_,min d b.length,?_⟩;have:=c.take k i f l;exact this;rw[<-EP k b]at g;exact g.pre;unfold dl;dsimp only;rw[Dk,Kq,Kq,P8 (a:=min d b.length) o!,P8 o];rcases Nat.le_total d b.length with q|q;rw[P8 q];rw[Nat.min_eq_right q,BS q,Hs]
def SQB(B:Int->Prop)(n:Int)(s:AT):Prop:=s.1.1=n/\SK B s.1/\D8 s.1.2.2.1/\DJ B s.1.2.2.1 s.2
def SQ(n:Int)(s:AT):Prop:= ∃B,SQB B n s
def SQB.sr{n:Int}{s r:AT}(h:SQB B n s)(g:SR B s r):SQ n r:=⟨B,g.1.1.trans h.1,g.1.2.2.1,g.1.2.2.2,g.2⟩
def eE{P:List AD}{x:Bf×BY×Int×Int}(n:CB x.2.2.1 P x.2.1)(o:DP B P x.1):Av (QS x) λr=>r.2=0->SQ x.2.2.1 r.1:=by refine AA n.open_ λp j=>AL (λa=>AB λb=>absurd b a) (λc=>?_);obtain⟨f,g,h,m,i⟩:=j c;refine AA (YN f g h) λq k=>AL (λa=>AB λb=>absurd b a) (λd=>?_);obtain⟨a1,a2,a3,a4,a5⟩:=k d;refine AA (bj (B:=B) f ⟨a2,a3,a4⟩ q! q!) λs l=>AL (λa=>AB λb=>absurd b a) (λe=>AB λ_=>?_);obtain⟨q1,q2,q3,q4⟩:=l e;exact⟨B,q1.trans a1,q2,q3,DJ.up ⟨g,o.up i⟩ q4⟩
def eF{P:List AD}{x:Bf×BY×Int×Int}(b:CB x.2.2.1 P x.2.1)(c:DP B P x.1):Av (QT x) λr=>r.2=0->SQ x.2.2.1 r.1:=by exact AA (eE b c) λd a=>AB a
theorem AFV{n o:BY}{c:Nat}(hn:n.length=256)(p:o.length=256)(h:n.take 8=n.drop 248)(d:o.take 8=o.drop 248)(j:n.take 8=o.take 8->n=o)(b:(n.take c++o.drop c).take 8=(n.take c++o.drop c).drop 248):n.take c++o.drop c=n\/n.take c++o.drop c=o:=by
 have g: ∀i:Nat,(n.take c++o.drop c)[i]? =if i<c then n[i]? else o[i]? :=λi=>by grind
 have q: ∀{l:BY},l.take 8=l.drop 248-> ∀i:Nat,i<8->l[i]? =l[248+i]? :=λ{l} e i a=>by have:=congrArg (λl:BY=>l[i]?) e;rw[Kg a,L6]at this;exact this
 by_cases m:c<8;refine .inr (I5 λi=>?_);rw[g i];split;rename_i a;have:=q b i (by omega);rw[g,g,if_pos a,if_neg (by omega),<-q d i (by omega)]at this;exact this;rfl;refine .inl ?_;by_cases k:c<=248;have e:n=o:=j (I5 λi=>by by_cases a:i<8;have:=q b i a;rw[g,g,if_pos (by omega),if_neg (by omega),<-q d i a]at this;rw[Kg a,Kg a];exact this;rw[Cj (by rw[Ba];omega),Cj (by rw[Ba];omega)]);rw[e,EP];refine I5 λi=>?_;rw[g i];split;rfl;rename_i a;by_cases f:i<256;have:=q b (i-248) (by omega);rw[g,g,if_pos (by omega),if_neg (by omega),show 248+(i-248)=i by omega,q h (i-248) (by omega),show 248+(i-248)=i by omega]at this;exact this.symm;rw[Cj (by omega),Cj (by omega)]
def ACE:(eu 256).take 8=(eu 256).drop 248:=g!
def DP.tear{P:List AD}{d t:Bf}{p:Int}{o n m:BY}{c:Nat}(h:DP B P d)(z:0≤p)(f:B p)(E:DI t)(I:d.1[p.toNat]? =some o)(H:m=n.take c++o.drop c)(F:t.1=Bb d.1 p m){x:AW}(r:HO x)(hn:n=Hw x)(D:AEU P p n)(N:1≤x.2.1)
  (M: ∀j,(st (P.take j) p).2.1=x.2.1->st (P.take j) p=x) (K: ∀j,HO (st (P.take j) p)): ∃A,DP A P t:=by
 have g:=(h.2 _ _ I).1 (by rw[IH z];exact f);rw[IH z]at g;have y: ∀(i:Nat) (s:BY),i≠p.toNat->t.1[i]? =some s->d.1[i]? =some s:=λi s l a=>by rw[F]at a;unfold Bb at a;rwa [EA o!]at a
 have w: ∀s:BY,t.1[p.toNat]? =some s->s=m:=λs a=>by rw[F]at a;unfold Bb at a;grind
 by_cases b:dead m;refine⟨λj=>B j/\j≠p,E,λi s a=>?_⟩;by_cases l:i=p.toNat
 subst l;rw[w s a];exact⟨λf=>absurd (IH z) f.2,.inr b⟩;have:=h.2 i s (y i s l a);exact⟨λf=>this.1 f.1,this.2.imp_left λf=>⟨f,o!⟩⟩;have C:m.take 8=m.drop 248:=by by_cases L:m=eu 256;rw[L];exact ACE;by_cases J: ∃q,HO q/\m=Hw q;obtain⟨q,q1,q2⟩:=J;rw[q2,To,lS q1];exact absurd ⟨L,λq q1 q2=>J ⟨q,q1,q2⟩⟩ b
 have v:o.take 8=o.drop 248/\(n.take 8=o.take 8->n=o):=by rcases g with rfl|⟨j,rfl⟩;refine⟨ACE,λe=>?_⟩;rw[hn,To]at e;have:=Yk (k:=8) (n:=x.2.1) (m:=0) g! ⟨n!,by have:=r.2.2.1;omega,by have:=r.2.2.2.1;omega⟩ ⟨n!,g!,g!⟩ e;omega;refine⟨To.trans (lS (K j)).symm,λe=>?_⟩;rw[hn,To,To]at e;have G:=K j;have:=Yk (k:=8) g! ⟨n!,by have:=r.2.2.1;omega,by have:=r.2.2.2.1;omega⟩ ⟨n!,by have:=G.2.2.1;omega,by have:=G.2.2.2.1;omega⟩ e;rw[hn,M j this.symm]
 have u:=AFV (c:=c) (by rw[hn];exact bD r) (h.1.2.1 _ _ I) (by rw[hn,To,lS r]) v.1 v.2 (by rw[<-H];exact C);rw[<-H]at u;refine⟨B,E,λi s a=>?_⟩;by_cases l:i=p.toNat
 subst l;rw[w s a,IH z];refine⟨λ_=>?_,.inl f⟩;rcases u with e|e<;>rw[e];exact D;exact g;exact h.2 i s (y i s l a)
def bm{x:AT×Int×Int×Int}(h:SK B x.1.1)(D:D8 x.1.1.2.2.1)(v:DJ B x.1.1.2.2.1 x.1.2):Av (LZ x) λr=> ∃A P,DP A P r.1/\CB x.1.1.1 P r.2:=by
 unfold LZ;refine AA Fm λi Q=>AC (λO=>?_) (λ_=>AA (vE D v.1 h.ki.1) λL E=>AB (⟨B,dl x.1.1.2.2.1,v.2,E⟩: ∃A P,DP A P x.1.2/\CB x.1.1.1 P L));have⟨J,f,G,m⟩:=Q.2.2.1 O;obtain⟨g,M,Y,c⟩:=AI O Q.2.1;have e:=Bg (Y.symm.trans G);subst e;dsimp only at M m c;rw[M];refine A2 (AA (P:=λr:AQ×Bf=>(∃A,DP A (dl r.1.2.2.1) r.2)/\D8 r.1.2.2.1/\r.1.2.2.1.1=1/\LI x.1.1.1 r.1.2.2.1.2.1) ?_ λv8 W=>?_);rotate_left 1;obtain⟨⟨A,R⟩,S,T,N⟩:=W;refine AA (vE S T N) λv9 X=>AB ?_;exact⟨A,dl v8.1.2.2.1,R,X⟩;refine AJ (λF=>?_) (λ_=>?_);rotate_left 1;apply AB;exact⟨⟨B,v.2⟩,D,v.1,h.ki.1⟩;have⟨t,n,_⟩:=J.2.2.2.2.2.1 i.toNat g (by have:=DU G;omega) G;have n:=n F;apply A2;rw[Z5 t];refine A2 (A2 (AA (Jo h D) λu a=>AA (di v.2.1) λv6 U=>?_));have b:=v.up a.1.2.1;have q:=h.ki.2.2 g c;have K:=a.1.2.2.1.num b.1;have N:=a.1.2.2.1.2.2.1;have C:=a.1.2.2.2.2.2.ki;have s:g.1=st u.2.2.1.2.1 x.2.2.1:=by have:=(C.2.1 x.2.2.1 o! (by rw[a.1.1];dsimp only;omega)).1 g (by rw[a.2.1];exact c) m;exact this
 have I:=Xo K (p:=x.2.2.1) ⟨o!,by rw[<-m];exact t.2.1⟩ o!;have y:Bw u.2.2.1.2.1 x.2.2.1=g.1.2.1:=by rw[<-Pe,<-s]
 have w:=a.2.2 (by have:=iv D g.1.1;have:=congrArg (λz=>z.2.1) ((h.ki.2.1 g.1.1 q.1 q.2.1).1 g c rfl);rw[Pe]at this;dsimp only;omega);refine AA (P:=λd=> ∃A,DP A (dl u.2.2.1) d) (AV (λZ=>AB ?_) (λ_=>AB ⟨B,b.2⟩)) λv7 V=>AB ⟨V,a.1.2.2.1,b.1,by have:=C.1;rw[a.1.1]at this;exact this⟩;obtain⟨t1,o,t2,t3,t4⟩:=U Z;refine b.2.tear t2 (by rw[<-m];exact q.2.2.2) t1 t3 rfl t4 t rfl ?_ o! (λj H=>?_) λj=>?_;refine .inr ⟨(dl u.2.2.1).length,?_⟩;rw[Hs];unfold dl;dsimp only at w⊢;rw[AB4 K o!,<-s];unfold dl at H⊢;rw[Kq]at H⊢;rw[s,<-Hs (l:=u.2.2.1.2.1)];rw[Hs];have:=jG K (p:=x.2.2.1) (j:=min j u.2.2.1.2.2.toNat) (k:=u.2.2.1.2.1.length) (by rw[Hs,y,<-H,Pe]);rwa [Hs]at this;unfold dl;rw[Kq];exact I _
def Es{x:Int}:Av (EE x) λr=>True:=by exact AL (λ_=>AA Bq λ_ _=>AB trivial) (λ_=>AB trivial)
end Go.Pm
namespace Go.Pm
open Go Go.Ab
set_option maxHeartbeats 400000
def Zt{m:Nat}{c:AT×Bool}{s:Int×List Int×AT×Bool}(i:m<=16777216)(h:0<=s.1/\s.1<=m/\s.2.1.length=m/\s.2.2=c):Av (Af Ox s) λr=>r.1.length=m/\r.2=c:=by refine AS (λ(s:Int×List Int×AT×Bool)=>0<=s.1/\s.1<=m/\s.2.1.length=m/\s.2.2=c) (λ(s:Int×List Int×AT×Bool)=>((m:Int)-s.1).toNat) h (λs g=>?_);obtain⟨b,j,d,f⟩:=g;unfold Ox;have e:=AZ (x:=s.1+1);rw[e];refine AC (λa=>?_) (λ_=>AB ⟨d,f⟩);simp only[len]at a;refine AA (AI b a) λ_ _=>?_;refine AA (AI b a) λ_ _=>?_;exact AB ⟨⟨d!,d!,by simp[Bb,d],f⟩,d!⟩
def ft{n:Int}{x:AT×List Ko}(h:SQ n x.1):Av (NV x) λr=>SQ n r.1:=by
 unfold NV;refine AA (P:=λr=>SQ n r.2.2.2.1) ?_ λr hr=>AB hr;refine AS (λ(s:Int×List BQ×List Int×List I1×AT×Bool)=>0<=s.1/\s.1<=1000/\s.2.1.length<=s.1/\s.2.2.1.length<=s.1/\s.2.2.2.1.length<=s.1/\SQ n s.2.2.2.2.1) (λ(s:Int×List BQ×List Int×List I1×AT×Bool)=>(1000-s.1).toNat) ⟨Ag _,d!,k!,k!,k!,h⟩ (λs X=>?_);obtain⟨Z,i2,i3,i4,i5,o⟩:=X;obtain⟨B,i⟩:=id o;obtain⟨q1,q2,q3,q4⟩:=id i;unfold T9;refine AC (λS=>?_) (λ_=>AB o);refine AC (λY=>?_) (λ_=>AB o);refine AO (λ_=>?_) (λ_=>AB o);simp only[len]at S;have e:=AZ (x:=s.1+1);have b: ∀(v:BQ) (t:List Int×List I1×AT×Bool),t.1.length<=s.1+1->t.2.1.length<=s.1+1->SQ n t.2.2.1-> ∀Q:Step (Int×((List BQ)×((List Int)×((List I1)×(AT×Bool))))) ((List BQ)×((List Int)×((List I1)×(AT×Bool))))->Prop,(∀a:Int×List BQ×List Int×List I1×AT×Bool,(0<=a.1/\a.1<=1000/\a.2.1.length<=a.1/\a.2.2.1.length<=a.1/\a.2.2.2.1.length<=a.1/\SQ n a.2.2.2.2.1)/\(1000-a.1).toNat<(1000-s.1).toNat->Q (.next a))->Av (Option.bind (app s.2.1 ([v]:List (Int×(Int×(Int×((Bool×BY)×Int)))))) λD=>some (.next ((wi (s.1+1)),(D,t)))) Q:=by intro v t h1 O G Q I;refine AA (Ac w!) λD W=>AB (I _ ?_);have l7:=W.2.1;simp only[By,Bs]at l7;rw[e];exact⟨⟨d!,d!,d!,d!,d!,G⟩,d!⟩
 have same: ∀(v:BQ) (Q:Step (Int×((List BQ)×((List Int)×((List I1)×(AT×Bool))))) ((List BQ)×((List Int)×((List I1)×(AT×Bool))))->Prop),(∀a:Int×List BQ×List Int×List I1×AT×Bool,(0<=a.1/\a.1<=1000/\a.2.1.length<=a.1/\a.2.2.1.length<=a.1/\a.2.2.2.1.length<=a.1/\SQ n a.2.2.2.2.1)/\(1000-a.1).toNat<(1000-s.1).toNat->Q (.next a))->Av (Option.bind (app s.2.1 ([v]:List (Int×(Int×(Int×((Bool×BY)×Int)))))) λD=>some (.next ((wi (s.1+1)),(D,s.2.2)))) Q:=λv Q I=>b v s.2.2 o! o! o Q I;refine AA (AI Z S) λv1 _=>?_;refine AV (λ_=>?_) (λ_=>?_);refine AA (bk q2 q3 q4) λv2 O=>?_;refine AA (P:=λr=>r.1.length<=s.1+1/\r.2=s.2.2.2.2) ?_ λv4 R=>?_;refine AV (λ_=>?_) (λ_=>AB ⟨d!,rfl⟩);refine AA (Ac w!) λv3 G=>AB ⟨?_,rfl⟩;have:=G.2.1;simp at this;dsimp only;omega;refine AA (P:=λr=>SQ n r.1) ?_ λv5 V=>?_;refine AV (λf=>AB (i.sr (O f))) (λ_=>AB (by rw[R.2];exact o));refine AA Es λv6 _=>?_;exact b _ (v4.1,(s.2.2.2.1,v5)) R.1 d! V _ (λ_ h=>h);refine AV (λ_=>?_) (λ_=>?_);refine AC (λ_=>AA Bq λN _=>same _ _ (λ_ h=>h)) (λc1=>?_);refine AC (λ_=>AA Bq λN _=>same _ _ (λ_ h=>h)) (λT=>?_);simp only[len]at T;have U:=AZ (x:=v1.2.1-1);rw[U];refine AA (AI) λad _=>?_;refine AA (AI) λal _=>?_;refine AV (λ_=>AA Bq λN _=>same _ _ (λ_ h=>h)) (λ_=>?_);refine AA (AI) λao _=>?_;refine AA (AI) λap _=>?_;refine AA (gp q2 q3 q4) λJ E=>?_;have u:=i.sr E;refine AV (λ_=>same _ _ (λ_ h=>h)) (λ_=>?_);refine AV (λ_=>?_) (λ_=>?_);refine AA (P:=λr=>r.1.length<=s.1+1/\SQ n r.2.1) ?_ λK y=>b _ (s.2.2.1,K) d! y.1 y.2 _ (λ_ h=>h);refine AV (λ_=>?_) (λ_=>AB ⟨d!,u⟩);refine AA Gg λar _=>?_;refine AA (Ac w!) λax F=>AB ⟨?_,u⟩;have:=F.2.1;simp at this;dsimp only;omega;exact b _ (s.2.2.1,(s.2.2.2.1,(J.1,s.2.2.2.2.2))) d! d! u _ (λ_ h=>h);refine AV (λ_=>?_) (λ_=>?_);refine AA (bn q2 q3 q4) λC j=>?_;refine AA (P:=λr=>SQ n r.1) (AV (λf=>AB (i.sr (j f))) (λ_=>AB o)) λg d=>?_;refine AA Es λw _=>?_;exact b _ (s.2.2.1,(s.2.2.2.1,g)) d! d! d _ (λ_ h=>h);refine AV (λ_=>?_) (λ_=>?_);refine AA (V4 q2 q4) λC j=>?_;refine AA (P:=λr=>SQ n r.1) (AV (λf=>AB (i.sr (j f))) (λ_=>AB o)) λg d=>?_;refine AA Es λw _=>?_;exact b _ (s.2.2.1,(s.2.2.2.1,g)) d! d! d _ (λ_ h=>h);refine AV (λ_=>?_) (λ_=>?_);refine AA Gg λa0 _=>?_;refine AA Jl λa1 k=>?_;refine AA (P:=λr=>SQ n r.1) (AV (λf=>AB ⟨B,q1,SB.sk q2.sb (q2.ki.of rfl (k f).2.1 rfl rfl),(k f).1,q4.up (LX.of (k f).2.2.1 (k f).2.1 (k f).2.2.2.1)⟩) (λ_=>AB o)) λg d=>?_;refine AA Es λw _=>?_;exact b _ (s.2.2.1,(s.2.2.2.1,g)) d! d! d _ (λ_ h=>h);refine AV (λ_=>?_) (λ_=>?_);refine AA (bm q2 q3 q4) λa2 ⟨A,P,z⟩=>?_;refine AA (eF z.2 z.1) λL H=>?_;refine AA (Zt (m:=s.2.2.1.length) (c:=s.2.2.2.2) o! ⟨Ag _,d!,rfl,rfl⟩) λp q=>?_;refine AL (λ_=>?_) (λf=>?_);refine AA Es λM _=>?_;exact b _ (p.1,(s.2.2.2.1,(p.2.1,true))) (by have:=q.1;dsimp only;omega) d! (by dsimp only;rw[q.2];exact o) _ (λ_ h=>h);refine AA Es λM _=>?_;have l:=H f;dsimp only at l;rw[q1]at l;exact b _ (p.1,(s.2.2.2.1,(L.1,p.2.2))) (by have:=q.1;dsimp only;omega) d! l _ (λ_ h=>h);refine AV (λ_=>?_) (λ_=>?_);refine AA (eG q2 q3 q4) λC j=>?_;refine AA (P:=λr=>SQ n r.1) (AV (λf=>AB (i.sr (j f))) (λ_=>AB o)) λg d=>?_;refine AA Es λw _=>?_;exact b _ (s.2.2.1,(s.2.2.2.1,g)) d! d! d _ (λ_ h=>h);exact AA Bq λN _=>same _ _ (λ_ h=>h)
def CX(b:Aa):Prop:=0<=b.2/\b.1.length<=16777216/\ ∀x∈b.1,0<=x/\x<256
def CX.step{b:Aa}(h:CX b)(a:b.2<b.1.length):CX (b.1,wi (b.2+1)):=by have⟨a1,a2,a3⟩:=h;rw[(AZ (x:=b.2+1))];exact⟨d!,a2,a3⟩
def U9{b:Aa}(h:CX b):Av (HK b 256) λr=>CX r.2/\0<=r.1/\r.1<256:=by unfold HK;refine AC (λ_=>AB ⟨h,Ag _,by show(0:Int)<256;decide⟩) (λa=>?_);simp[len]at a;refine AC n! (λ_=>?_);refine AA (AI h.1) λc d=>?_;have⟨f,g⟩:=h.2.2 c d.2;have e:=AZ (x:=c);refine AC n! (λ_=>?_);refine AV n! (λ_=>AB ⟨h.step o!,?_,?_⟩);grind[Int.tmod_nonneg];grind[Int.tmod_lt_of_pos]
theorem Au{b:Aa}{x:Int}(h:CX b)(j:x<=4611686018427387904):Av (Ap b x) λr=>CX r.2/\0<=r.1/\(r.1=0\/r.1<x):=by unfold Ap;refine AC (λ_=>AB ⟨h,Ag _,.inl rfl⟩) (λa=>?_);simp[len]at a;refine AC (λ_=>AB ⟨h,Ag _,.inl rfl⟩) (λf=>?_);refine AA (AI h.1) λc e=>?_;have⟨d,g⟩:=h.2.2 c e.2;rw[(AZ (x:=c))];refine AC (λ_=>?_) (λ_=>?_);refine AA (U9 (h.step o!)) λk i=>?_;grind[AV,AB,AZ,Int.tmod_nonneg,Int.tmod_lt_of_pos];refine AV (λa=>absurd a o!) (λ_=>AB ⟨h.step o!,Int.tmod_nonneg _ d,.inr (Int.tmod_lt_of_pos _ o!)⟩)
def WM{b:Aa}{x:Unit}(h:CX b):Av (IX b x) λr=>CX r.2:=by unfold IX;refine AA (Au h g!) λt e=>?_;refine AA (Au e.1 g!) λu m=>?_;refine AA (P:=λr=>CX r.2/\0<=r.1/\r.1<=14) ?_ λc f=>?_;grind[AV,AB,AA,Au];have⟨d,a,k⟩:=f;refine AA (P:=λl:List Int=>l.length=0) ⟨_,if_pos ⟨Ag _,a,o!⟩,k!⟩ λv n=>?_;refine AA (P:=λr=>CX r.2) ?_ λw g=>AB g;refine AS (λ(s:Int×List Int×Aa)=>0<=s.1/\s.1<=c.1/\s.2.1.length<=s.1/\CX s.2.2) (λ(s:Int×List Int×Aa)=>(c.1-s.1).toNat) ⟨Ag _,a,d!,d⟩ (λs i=>?_);have⟨o,p,q,j⟩:=i;unfold PF;rw[(AZ (x:=s.1+1))];refine AC (λ_=>?_) (λ_=>AB j);grind[AA,Au,Ac,AB,List.length_cons,List.length_nil]
theorem XH{b:Aa}{x:Unit}(h:CX b):Av (HC b x) λr=>CX r.2:=by unfold HC;refine AA (Au h g!) λf a=>?_;refine AV (λ_=>AA (Au a.1 g!) λe c=>AB c.1) (λ_=>?_);refine AV (λ_=>?_) (λ_=>AA (Au a.1 g!) λe c=>AB c.1);refine AA (Au a.1 g!) λg d=>?_;have:=d.2.2;refine AA (AI d.2.1 w!) λ_ _=>?_;grind[AA,AI,AB]
theorem Vd{b:Aa}{x:Int}(h:CX b)(u:x<=1099511627776):Av (Hj b x) λr=>CX r.2:=by
 unfold Hj;refine AA (Au h g!) λv a=>?_;have l:=a.2.2;refine AA (AI a.2.1 w!) λ_ _=>?_;refine AA (AI a.2.1 w!) λw _=>?_;refine AA (P:=λ_=>True) (AJ (λ_=>AB trivial) (λ_=>AA (P:=λ_=>True) (AJ (λ_=>AB trivial) (λ_=>AB trivial)) λ_ _=>AB trivial)) λy _=>?_;refine AA (P:=λr=>CX r.1) ?_ λp e=>?_;refine AJ (λ_=>?_) (λ_=>?_);refine AA (Au a.1 o!) λz m=>?_;refine AA (Au m.1 g!) λA j=>?_;refine AA (P:=λr=>CX r.1) ?_ λt i=>AB i;refine AJ (λ_=>?_) (λ_=>AB j.1);refine AA (WM j.1) λc n=>?_;have k:0<=(if(12<(len c.1))then 12 else(len c.1))/\(if(12<(len c.1))then 12 else(len c.1))<=c.1.length:=by simp[len];split<;>omega
 exact AA (Ch (Ag _) k.1 k.2) λB _=>AB n;refine AA (P:=λr=>CX r.1) ?_ λt i=>AB i;exact AJ (λ_=>AA (Au a.1 g!) λo d=>AB d.1) (λ_=>AB a.1);refine AA (Au e g!) λq f=>?_;refine AA (P:=λr=>CX r.1) ?_ λs g=>AB g;refine AJ (λ_=>?_) (λ_=>AB f.1);grind[AA,XH,AB]
theorem WN{b:Aa}{x:Int×Int×Bool}(h:CX b)(f:0<=x.1/\x.1<=64/\x.2.1<=64):Av (IY b x) λr=>CX r.2:=by unfold IY;rw[(AZ (x:=x.1+1))];refine AA (Au h g!) λg a=>?_;refine AA (P:=λ_=>True) (AJ (λ_=>AB trivial) (λ_=>AB trivial)) λi _=>?_;refine AJ (λ_=>AB a.1) (λ_=>?_);refine AJ (λ_=>AA (Au a.1 o!) λj c=>AB c.1) (λ_=>?_);refine AJ (λ_=>AB a.1) (λ_=>?_);refine AJ (λ_=>AB a.1) (λ_=>?_);refine AA (P:=λs=>(∃u,s= .inl u/\CX u.1)\/ ∃u,s= .inr u/\CX u.1) ?_ λs e=>?_;refine AJ (λ_=>?_) (λ_=>AJ (λ_=>AB (.inl ⟨_,rfl,a.1⟩)) (λ_=>AB (.inr ⟨_,rfl,a.1⟩)));refine AJ (λ_=>?_) (λ_=>AB (.inr ⟨_,rfl,a.1⟩));refine AA (Au a.1 g!) λk d=>?_;grind[AA,Au,AB];grind[BK,AB,A5,AA,Au,Vd]
def UT{b:Aa}{x:Int×Int×Bool}(h:CX b)(g:0<=x.1/\x.1<=64/\x.2.1<=1000/\ -1000<=x.2.1):Av (Gz b x) λr=>CX r.2:=by unfold Gz;rw[(AZ (x:=x.2.1+1))];refine AA (Au h o!) λk a=>?_;have c:=a.2.2;refine AA (P:=λr=>CX r.2) ?_ λl d=>AB d;refine AS (λ(s:Int×List Ko×Aa)=>0<=s.1/\s.1+s.2.1.length<=1010/\CX s.2.2) (λ(s:Int×List Ko×Aa)=>s.1.toNat) ⟨a.2.1,w!,a.1⟩ (λs e=>?_);have⟨i,j,f⟩:=e;unfold MG;rw[(AZ (x:=s.1-1))];refine AC (λ_=>?_) (λ_=>AB f);grind[AA,WN,Ac,AB,List.length_cons,List.length_nil]
variable {B:Int->Prop}
def rN:D8 (1,([],0)):=⟨g!,g!,k!,g!,k!,λi e h=>by simp at h⟩
def fg{x:Unit}:Av (Gv x) λr=>r=(1,([],0)):=by unfold Gv;exact AB rfl
def fo{x:Int×Int}(h:1<=x.1/\x.1<=64/\1<=x.2/\x.2<=64):Av (NT x) λr=>r.2=0/\r.1.1=x.1/\SK (λ_=>True) r.1/\D8 r.1.2.2.1/\r.1.2.2.1.1=1:=by unfold NT;refine AC (λa=>absurd a o!) (λ_=>?_);refine AC (λa=>absurd a o!) (λ_=>?_);refine AC (λa=>absurd a o!) (λ_=>?_);refine AC (λa=>absurd a o!) (λ_=>?_);refine AA Ui λf c=>?_;refine AA Uj λg d=>?_;refine AA fg λi b=>AB ⟨rfl,rfl,⟨⟨k!,k!⟩,k!,k!,?_⟩,?_⟩;unfold KI FD;dsimp only;rw[c,b];refine⟨LI.nil _,λp _ _=>⟨k!,k!,λw e=>?_⟩,k!⟩;have:=d w (BM e);exact⟨by rw[this];exact Ag _,λ_ _=>this⟩;dsimp only;rw[b];exact⟨rN,rfl⟩
def ACr{x:Int}(h:1<=x/\x<=64):Av (J9 x) λr=>r.2=0:=by unfold J9;refine AC (λa=>absurd a o!) (λ_=>?_);refine AC (λa=>absurd a o!) (λ_=>?_);exact AA (Rn o!) λb _=>AB rfl
def fq{x:Int×Int}(h:1<=x.1/\x.1<=64/\1<=x.2/\x.2<=64):Av (NU x) λr=>SQ x.1 r.1:=by unfold NU;refine AA (fo h) λe a=>?_;refine AL (λc=>absurd a.1 c) (λ_=>?_);refine AA ((fe).and (ACr ⟨h.1,h.2.1⟩)) λf b=>?_;refine AL (λc=>absurd b.2 c) (λ_=>AB ?_);exact⟨_,a.2.1,a.2.2.1,a.2.2.2.1,a.2.2.2.2,(b.1 b.2).1,λi s d=>⟨λ_=>.inl (((b.1 b.2).2.2 i s d).trans (jg _)),.inl trivial⟩⟩
theorem VC{b:Aa}{x:Int×Bool}(h:CX b)(c:x.1<=1000/\ -1000<=x.1):Av (HM b x) λr=>CX r.2/\ ∃n,1<=n/\n<=4/\SQ n r.1:=by unfold HM;refine AA (Au h (by decide)) λl a=>?_;refine AA (Au a.1 (by decide)) λm g=>?_;obtain⟨a1,a2,a3⟩:=a;obtain⟨d,o,p⟩:=g;have e:=AZ (x:=1+l.1) (by omega);have f:=AZ (x:=1+m.1) (by omega);rw[e,f];refine AA (fq ⟨by dsimp only;omega,by dsimp only;omega,by dsimp only;omega,by dsimp only;omega⟩) λq i=>?_;refine AA (UT d ⟨by dsimp only;omega,by dsimp only;omega,c.1,c.2⟩) λs j=>?_;exact AA (ft i) λt k=>AB ⟨j,_,by dsimp only;omega,by dsimp only;omega,k⟩
def OJ{b:Aa}{x:Int×Bool}(h:CX b)(d:x.1<=1000/\ -1000<=x.1):Av (Hk b x) λr=>CX r.2/\1<=r.1.1/\r.1.1<=4/\LI r.1.1 r.1.2.2.1.2.1/\D8 r.1.2.2.1/\r.1.2.2.1.1=1:=by unfold Hk;refine AA (VC h d) λg a=>AB ?_;obtain⟨c,n,e,f,_,q1,q2,q3,q4⟩:=a;exact⟨c,d!,d!,q2.ki.1,q3,q4.1⟩
def gg{b:Aa}{x:Int}(h:CX b)(g:x<=1000/\ -1000<=x):Av (Kv b x) λr=>CX r.2.2/\1<=r.1/\r.1<=4/\D8 r.2.1/\ ∃n,LI n r.2.1.2.1:=by unfold Kv;refine AA (OJ h g) λk d=>?_;obtain⟨c,i,j,q2,q3,q4⟩:=d;refine AA Gg λl f=>?_;have e:=f q3;refine AA (Jl.and (o8 q3 d!)) λm a=>AB ⟨c,i,j,(a.1 a.2).1,_,by have:=q2;rw[<-(a.1 a.2).2.1]at this;exact this⟩
end Go.Pm
namespace Go.Pm
open Go Go.Ab
set_option maxHeartbeats 400000
def If{x:Int×Int×Int×Int×Int}:Av (Hg x) λr=>r=true↔1<=x.1/\x.1<=x.2.1/\x.2.1<=1099511627776/\0<=x.2.2.1/\x.2.2.1<=x.2.2.2.1/\x.2.2.2.1<64/\0<=x.2.2.2.2/\x.2.2.2.2<=8:=by
 unfold Hg;repeat' with_reducible first|apply AC<;>intro a|apply AB
 all_goals grind
theorem Lv{x:AD×AD}:Av (D0 x) λr=>True:=by
 unfold D0;repeat' with_reducible first|intro a|apply AC|apply AV|apply AB
 all_goals trivial
def Pp{x:List AD×AD}{s:Int}(h:0<=s/\s<=x.1.length/\(x.1.length:Int)<=16777216):Av (Af (Lx x) s) λr=>0<=r/\r<=x.1.length:=by
 refine AS (λ(s:Int)=>0<=s/\s<=x.1.length/\(x.1.length:Int)<=16777216) (λ(s:Int)=>((x.1.length:Int)-s).toNat) h (λs a=>?_);unfold Lx;repeat' with_reducible first|apply AC<;>intro b|apply AB|(apply AA (Lv);intro r hr)|(refine AM ?_ (AI ?_ ?_);rintro r ⟨hr,c⟩)
 all_goals exact l!
theorem Zw{x:List AD×AD}(h:x.1.length<=16777215):Av (DB x) λr=>r.1.length<=x.1.length+1:=by
 refine AA (Pp ⟨Ag _,o!⟩) λp b=>?_;have a:Av (Option.bind (cH x.1 0 p) λc=>
  Option.bind (cH x.1 p (len x.1)) λd=>
  Option.bind (app [] c) λe=>
  Option.bind (app e ([x.2]:List (Int×(Int×(Int×(Int×(Int×(Int×((Int×(Int×((Bool×BY)×(Bool×BY))))×BY))))))))) λf=>
  Option.bind (app f d) λg=>
  some (g,true)) λr=>r.1.length<=x.1.length+1:=by
  refine AA (B5 (Ag _) b.1 b.2) λk i=>?_;refine AA (B5 b.1 q! q!) λl j=>?_;grind[AA,Ac,AB]
 refine AC (λm=>?_) (λ_=>a);grind[AA,AI,Lv,AV,AB]
def Xf{x:AP}{s:Int}(h:0<=s/\s<=x.2.2.2.2.2.length/\(x.2.2.2.2.2.length:Int)<=16777216):Av (Af (HD x) s) λr=>r≠ .inl true:=by
 refine AS (λ(s:Int)=>0<=s/\s<=x.2.2.2.2.2.length/\(x.2.2.2.2.2.length:Int)<=16777216) (λ(s:Int)=>((x.2.2.2.2.2.length:Int)-s).toNat) h (λs b=>?_);unfold HD;repeat' with_reducible first|intro a|apply AC|apply AO|apply AV|apply AL|apply AJ|(apply A2;try dsimp only)|apply BX|apply Bl|(apply BK;try dsimp only)|(apply A5;try dsimp only)|apply AB|(apply AA (CM);intro r hr)|(apply AA (B7);intro r hr)|(apply AA (Lv);intro r hr)|(refine AM ?_ (AI ?_ ?_);rintro r ⟨hr,c⟩)
 all_goals ((try dsimp[len]at*);(try first|omega|assumption|grind[AZ]|((try simp (disch:=omega) only[AZ,ne_eq,Sum.inl.injEq,Sum.inr.injEq,reduceCtorEq,not_false_eq_true,Bool.not_eq_true,len,true_and,and_true,or_false,false_or,false_implies,implies_true]at*)<;>(try intros)<;>(try and_intros)<;>(try intros)<;>(first|omega|assumption|grind))))
def Z9(x:AP):Prop:=1<=x.1/\x.1<=x.2.1/\x.2.1<=1099511627776/\0<=x.2.2.1/\x.2.2.1<=x.2.2.2.1/\x.2.2.2.1<64/\0<=x.2.2.2.2.1/\x.2.2.2.2.1<=8/\x.2.2.2.2.2.length<=4096
def N6{x:AP}:Av (EU x) λr=>r=true->Z9 x:=by refine AA If λe b=>?_;refine AO (λ_=>AB λa=>by cases a) (λc=>?_);have hn:=b.1 c;refine AC (λ_=>AB λa=>by cases a) (λd=>?_);simp[len]at d;refine AA (Xf ⟨Ag _,o!⟩) λr hr=>?_;grind[Z9,A8,AB]
def Q8{x:List AD×Int×Int×Int×Int×Int}{s:Int×AP}(h:0<=s.1/\s.1<=x.1.length/\x.1.length<=16777215):Av (Af (N4 x) s) λr=> ∀u,r= .inl u->u.1≠0:=by
 refine AS (λ(s:Int×AP)=>0<=s.1/\s.1<=x.1.length/\x.1.length<=16777215) (λ(s:Int×AP)=>((x.1.length:Int)-s.1).toNat) h (λs b=>?_);unfold N4;repeat' with_reducible first|intro a|apply AC|apply AO|apply AB|(apply AA (CM);intro r hr)|(refine AM ?_ (AI ?_ ?_);rintro r ⟨hr,c⟩)
 all_goals exact l!
def Q9{a:Bool×Int×AP}{b:AD}{s:Bool×Int}(h:0<=s.2/\s.2<=a.2.2.2.2.2.2.2.length/\a.2.2.2.2.2.2.2.length<=16777215):Av (Af (N5 a b) s) λr=>True:=by
 refine AS (λ(s:Bool×Int)=>0<=s.2/\s.2<=a.2.2.2.2.2.2.2.length/\a.2.2.2.2.2.2.2.length<=16777215) (λ(s:Bool×Int)=>((a.2.2.2.2.2.2.2.length:Int)-s.2).toNat) h (λs c=>?_);unfold N5;repeat' with_reducible first|apply AJ<;>intro d|apply AB|(refine AM ?_ (AI ?_ ?_);rintro r ⟨hr,e⟩)
 all_goals exact l!
theorem eK{x:List AD×Int×Int×Int×Int×Int}(h:x.1.length<=16777215):Av (JY x) λr=>r.2=0->Z9 r.1:=by
 refine AA If λp _=>?_;refine AO (λ_=>AB λa=>absurd a (by decide)) (λ_=>?_);refine AA (Q8 ⟨Ag _,by grind,h⟩) λq g=>?_;refine A8 (λu e=>AB λa=>absurd a (g u e)) (λu e=>?_);refine AA (P:=λr=>r.2.2.2.2.2.2.length<=16777215) ?_ λl f=>?_;refine AS (λ(s:Bool×Int×AP)=>0<=s.2.1/\s.2.1<=x.1.length/\s.2.2.2.2.2.2.2.length<=s.2.1) (λ(s:Bool×Int×AP)=>((x.1.length:Int)-s.2.1).toNat) ⟨Ag _,by grind,by simp⟩ (λs i=>?_);have⟨j,n,o⟩:=i;unfold Jv;rw[(AZ (x:=s.2.1+1) (by omega))];refine AC (λc=>?_) (λ_=>AB (by grind));simp[len]at c;have b:((0<=s.2.1+1/\s.2.1+1<=x.1.length/\s.2.2.2.2.2.2.2.length<=s.2.1+1)/\((x.1.length:Int)-(s.2.1+1)).toNat<((x.1.length:Int)-s.2.1).toNat):=⟨⟨by omega,by omega,by omega⟩,by omega⟩
 refine AA (AI j c) λt _=>?_;refine AA B7 λv _=>?_;refine AO (λ_=>AB b) (λ_=>?_);refine AC (λ_=>AB b) (λ_=>?_);refine AC (λ_=>AB b) (λ_=>?_);refine AC (λ_=>AB b) (λ_=>?_);refine AC (λ_=>AB b) (λ_=>?_);refine AA (Q9 ⟨Ag _,by grind,by omega⟩) λk _=>?_;grind[AA,Zw,AB];refine AJ (λ_=>AB λa=>absurd a (by decide)) (λ_=>?_);refine AC (λ_=>AB λa=>absurd a (by decide)) (λ_=>?_);refine AA N6 λm d=>?_;exact AO (λ_=>AB λa=>absurd a (by decide)) (λc=>AB λ_=>d c)
def eJ{x:AP}:Av (Hf x) λr=>True:=by
 unfold Hf;repeat' with_reducible first|apply AB|(refine AM ?_ (DY ?_);intro r hr)
 all_goals grind
def Zv{x:AP}:Av (Gl x) λr=>r.1.length<=1099511627776:=by refine AA N6 λk b=>?_;refine AO (λ_=>AB k!) (λa=>?_);have h:=(b a).2.2.2.2.2.2.2.2;refine AA eJ λl _=>?_;refine AA S7 λm g=>?_;refine AA (P:=λr:BY=>r.length<=1099511627776) ?_ λo c=>AB c;refine AS (λ(s:BY×Int)=>0<=s.2/\s.2<=x.2.2.2.2.2.length/\s.1.length<=8408*s.2+8408) (λ(s:BY×Int)=>((x.2.2.2.2.2.length:Int)-s.2).toNat) ⟨Ag _,q!,q!⟩ (λs d=>?_);have⟨f,i,j⟩:=d;have e:=AZ (x:=s.2+1);refine AC (λa=>?_) (λ_=>AB o!);refine AA (AI f a) λn _=>?_;grind[AA,Zd,S7,Cp,AB]
def Zx{x:BY×Int×Int}(h:x.1.length<=1099511627776):Av (BR x) λr=>True:=by exact AA (Ca h) λ_ _=>AB trivial
def Zu{x:BY}(h:x.length<=1099511627776):Av (Fp x) λr=>r.2=0->Z9 r.1:=by refine AA (Qy h) λk n=>?_;refine AL (λb=>AB λa=>absurd a b) (λj=>?_);refine AL (λ_=>AB n!) (λg=>?_);simp[len]at g;refine AA (Ch (Ag _) g!) λp _=>?_;refine AL (λ_=>AB n!) (λ_=>?_);have hn: ∀y,Av (BR (k.1,y)) λ_=>True:=λy=>Zx q!;refine AA (hn _) λq _=>?_;refine AA (hn _) λt _=>?_;refine AA (hn _) λv _=>?_;refine AA (hn _) λw _=>?_;refine AA (hn _) λz _=>?_;refine AA (hn _) λA _=>?_;refine AC (λ_=>AB n!) (λi=>?_);refine AA (P:=λr=> ∀u,r= .inl u->u.1≠0) ?_ λl d=>?_;refine AS (λ(s:Int×Int×List AD×Int×Int×Int×Int×Int×AP)=>0<=s.2.1/\s.2.1<=4096/\s.2.2.1.length<=s.2.1) (λ(s:Int×Int×List AD×Int×Int×Int×Int×Int×AP)=>(4096-s.2.1).toNat) ⟨Ag _,q!,k!⟩ (λs o=>?_);have e:=AZ (x:=s.2.1+1);refine AC (λb=>?_) (λ_=>AB λu c=>by cases c);grind[AA,Qy,AL,AB,Zc,Ac,List.length_cons,List.length_nil];refine A8 (λu c=>AB λa=>absurd a (d u c)) (λu c=>?_);refine AL (λ_=>AB n!) (λ_=>?_);refine AA N6 λm f=>?_;exact AO (λ_=>AB n!) (λb=>AB λ_=>f b)
def SA(a:AK):Prop:=a.1.length<=16/\a.2.2.1.length<=16777216/\ ∀f∈a.2.2.1,f.2.2.length<=1099511627776
def VA(a:AK):Prop:=1<=a.2.1/\a.2.1<=64/\1<=a.1.length/\a.1.length<=16/\1<=a.2.2.2.1/\a.2.2.2.1<=1099511627777/\1<=a.2.2.2.2/\a.2.2.2.2<=1073741825/\a.2.2.1.length<=256
theorem Zz{x:Int×List Int}:Av (Fq x) λr=>r=true->1<=x.1/\x.1<=64/\1<=x.2.length/\x.2.length<=16:=by unfold Fq;refine AC (λ_=>AB λa=>by cases a) (λh=>?_);refine AC (λ_=>AB λa=>by cases a) (λi=>?_);refine AC (λ_=>AB λa=>by cases a) (λb=>?_);refine AC (λ_=>AB λa=>by cases a) (λc=>?_);simp only[len]at b c;refine AA (AI (Ag _) (by omega)) λk _=>?_;refine AL (λ_=>AB λa=>by cases a) (λ_=>?_);refine AA (P:=λ_=>True) ?_ λr _=>?_;refine AS (λ(s:Int)=>1<=s/\s<=x.2.length) (λ(s:Int)=>((x.2.length:Int)-s).toNat) ⟨Ag _,by omega⟩ (λs j=>?_);unfold Ly;have d:=AZ (x:=s-1) (by omega);have f:=AZ (x:=s+1) (by omega);rw[d,f];refine AC (λg=>?_) (λ_=>AB trivial);simp only[len]at g;refine AA (AI (by omega) (by omega)) λ_ _=>?_;refine AA (AI (by omega) (by omega)) λ_ _=>?_;exact AC (λ_=>AB trivial) (λ_=>AB ⟨⟨by omega,by omega⟩,by omega⟩);refine A8 (λu _=>AB λ_=>⟨by omega,by omega,by omega,by omega⟩) (λu _=>?_);have e:=AZ (x:=len x.2-1) (by simp only[len];omega);rw[e];exact AA (AI (by simp only[len];omega) (by simp only[len];omega)) λl _=>AB λ_=>⟨by omega,by omega,by omega,by omega⟩
theorem Xg{x:AK}{s:Int×Int}(h:0<=s.2/\s.2<=x.2.2.1.length/\x.2.2.1.length<=256):Av (Af (JP x) s) λr=>r≠ .inl true:=by
 refine AS (λ(s:Int×Int)=>0<=s.2/\s.2<=x.2.2.1.length/\x.2.2.1.length<=256) (λ(s:Int×Int)=>((x.2.2.1.length:Int)-s.2).toNat) h (λs b=>?_);unfold JP;repeat' with_reducible first|refine AC ?_ ?_<;>intro a|refine AJ ?_ ?_<;>intro a|refine AB ?_|(refine AM ?_ (AI ?_ ?_);rintro r ⟨hr,c⟩)
 all_goals ((try dsimp only[len]at*);(try first|omega|assumption|grind[AZ]))
def Hh{x:AK}:Av (C1 x) λr=>r=true->VA x:=by
 unfold C1;refine AA Zz λi c=>?_;refine AO (λ_=>AB λa=>by cases a) (λd=>?_);obtain⟨a1,a2,a3,a4⟩:=c d;refine AC (λ_=>AB λa=>by cases a) (λe=>?_);refine AC (λ_=>AB λa=>by cases a) (λf=>?_);refine AC (λ_=>AB λa=>by cases a) (λg=>?_);refine AC (λ_=>AB λa=>by cases a) (λh=>?_);refine AC (λ_=>AB λa=>by cases a) (λb=>?_);simp only[len]at b;refine AA (Xg ⟨Ag _,d!,o!⟩) λr hr=>?_;have q:VA x:=⟨a1,a2,a3,a4,o!⟩
 exact A8 (λu _=>AB λ_=>q) (λu _=>AB λ_=>q)
def TK{x:AK×Int}(h:x.1.1.length<=16)(a:0<=x.2/\x.2<x.1.1.length):Av (E2 x) λr=>True:=by unfold E2;have e:=AZ (x:=x.2+1);rw[e];refine AA (P:=λ_=>True) ?_ λd _=>AA (AI a.1 a.2) λf _=>AB trivial;refine AC (λb=>?_) (λ_=>AB trivial);simp only[len]at b;exact AA (AI o! b) λc _=>AB trivial
theorem Wb{x:AK×AP}(h:x.1.1.length<=16):Av (Fe x) λr=> -1<=r/\r<16:=by
 unfold Fe;refine AA (P:=λr=> ∀u,r= .inl u->0<=u/\u<16) ?_ λr hr=>A8 (λu a=>AB (by have:=hr u a;omega)) (λ_ _=>AB (by decide));refine AS (λ(s:Int)=>0<=s/\s<=x.1.1.length) (λ(s:Int)=>((x.1.1.length:Int)-s).toNat) ⟨Ag _,by omega⟩ (λs d=>?_);unfold HN;have e:=AZ (x:=s+1) (by omega);rw[e];refine AC (λb=>?_) (λ_=>AB λu a=>by cases a);simp only[len]at b;have c:((0<=s+1/\s+1<=x.1.1.length)/\((x.1.1.length:Int)-(s+1)).toNat<((x.1.1.length:Int)-s).toNat):=⟨⟨by omega,by omega⟩,by omega⟩
 refine AA (TK h ⟨d.1,b⟩) λf _=>?_;refine AV (λ_=>?_) (λ_=>AB c);exact AV (λ_=>AB λu a=>by cases a;omega) (λ_=>AB c)
def Zy{x:AK×BJ}(h:x.1.1.length<=16)(c:x.2.2.2.length<=1099511627776):Av (Cu x) λr=>0<=r.2->Z9 r.1:=by unfold Cu;refine AL (λ_=>AB n!) (λ_=>?_);refine AA (Zu c) λd b=>?_;refine AL (λ_=>AB n!) (λa=>?_);exact AA (Wb h) λe _=>AB λ_=>b a
theorem V5{x:AP×Int}{s:Int×(List AD)×Int×Int×Int×Int×Int}(h:0<=s.1/\s.1<=x.1.2.2.2.2.2.length/\x.1.2.2.2.2.2.length<=4096/\s.2.1.length<=s.1):Av (Af (K3 x) s) λr=>r.1.length<=4096:=by
 refine AS (λ(s:Int×(List AD)×Int×Int×Int×Int×Int)=>0<=s.1/\s.1<=x.1.2.2.2.2.2.length/\x.1.2.2.2.2.2.length<=4096/\s.2.1.length<=s.1) (λ(s:Int×(List AD)×Int×Int×Int×Int×Int)=>((x.1.2.2.2.2.2.length:Int)-s.1).toNat) h (λs c=>?_);unfold K3;repeat' with_reducible first|refine AC ?_ ?_<;>intro a|refine AJ ?_ ?_<;>intro a|(refine A2 ?_;try dsimp only)|refine BX ?_|refine Bl ?_|refine AB ?_|(refine AM ?_ (AI ?_ ?_);rintro r ⟨hr,e⟩)|(refine AM ?_ (Ac ?_);rintro r ⟨hr,d,b⟩)
 all_goals ((try dsimp only[len]at*);(try first|omega|assumption|grind[AZ]))
def RF{x:AP×Int}(h:x.1.2.2.2.2.2.length<=4096):Av (FQ x) λr=>r.2.2.2.2.2.length<=4096:=by unfold FQ;refine AC (λ_=>AB h) (λ_=>?_);exact AA (V5 ⟨Ag _,d!,h,k!⟩) λb a=>AB a
theorem RE{x:AK×Ah×Int}{a:List AD}{s:Int×AK}(h:0<=s.1/\s.1<=a.length/\a.length<=4096):Av (Af (N7 x a) s) λr=> ∀u,r= .inl u->u.1≠0:=by
 refine AS (λ(s:Int×AK)=>0<=s.1/\s.1<=a.length/\a.length<=4096) (λ(s:Int×AK)=>((a.length:Int)-s.1).toNat) h (λs c=>?_);unfold N7;repeat' with_reducible first|refine AC ?_ ?_<;>intro b|refine AV ?_ ?_<;>intro b|refine AJ ?_ ?_<;>intro b|refine AB ?_|(refine AM ?_ (AI ?_ ?_);rintro r ⟨hr,d⟩)
 all_goals ((try dsimp only[len]at*);(try first|omega|assumption|grind[AZ]))
def RL(l:List AP):Prop:= ∀r∈l,r.2.2.2.2.2.length<=4096
theorem QX{a:List AP×List Int×Int}{c:AP×Int}{s:Int}(h:0<=s/\s<=a.1.length/\a.1.length<=16777215):Av (Af (HE a c) s) λr=>0<=r/\r<=a.1.length:=by refine AS (λ(s:Int)=>0<=s/\s<=a.1.length) (λ(s:Int)=>s.toNat) ⟨h.1,h.2.1⟩ (λs b=>?_);unfold HE;have d:=h.2.2;have e:=AZ (x:=s-1) (by omega);rw[e];refine AC (λf=>?_) (λ_=>AB b);refine AA (AI (by omega) (by omega)) λg _=>?_;exact AC (λ_=>AB ⟨⟨by omega,by omega⟩,by omega⟩) (λ_=>AB b)
def QW{x:AK}{B:Int×List AP×List Int×List Bool}(h:VA x)(G:SA x)(V:0<=B.1):Av (Af (Et x B) ([],([],0))) λr=>r.2.length=r.1.length/\r.1.length<=256/\RL r.1:=by have a4:=h.2.2.2.1;have a9:=h.2.2.2.2.2.2.2.2;refine AS (λ(s:List AP×List Int×Int)=>0<=s.2.2/\s.2.2<=x.2.2.1.length/\s.2.1.length=s.1.length/\s.1.length<=s.2.2/\RL s.1) (λ(s:List AP×List Int×Int)=>((x.2.2.1.length:Int)-s.2.2).toNat) ⟨Ag _,d!,rfl,k!,λr hr=>by simp at hr⟩ (λs E=>?_);obtain⟨z,W,A,X,f⟩:=E;unfold Et;have e:=AZ (x:=s.2.2+1);rw[e];refine AC (λm=>?_) (λ_=>AB ⟨A,d!,f⟩);simp only[len]at m;refine AA (AI z m) λU C=>?_;refine AA (Zy a4 (G.2.2 U C.2)) λZ D=>?_;refine AL (λ_=>AB ⟨⟨d!,d!,A,d!,f⟩,d!⟩) (λF=>?_);have n:=D o!;refine AA (QX ⟨i!,i!,o!⟩) λv7 d=>?_;refine AA (B5 (Ag _) d.1 d.2) λv8 v=>?_;refine AA (B5 d.1 i! i!) λv9 y=>?_;have Y:=v.2;have K:=y.2;simp only[len]at K;refine AA (Ac w!) λL a=>?_;have o:=a.2.1;simp only[Bs]at o;refine AA (Ac w!) λM b=>?_;have p:=b.2.1;simp only[Bs,By]at p;refine AA (Ac o!) λN c=>?_;have H:=c.2.1;refine AA (B5 (Ag _) d.1) λO g=>?_;have I:=g.2;refine AA (AI z m) λP _=>?_;refine AA (B5 d.1 i! i!) λQ i=>?_;have q:=i.2;simp only[len]at q;refine AA (Ac w!) λR j=>?_;have t:=j.2.1;simp only[Bs]at t;refine AA (Ac w!) λS k=>?_;have u:=k.2.1;simp only[Bs,By]at u;refine AA (Ac o!) λT l=>AB ?_;have J:=l.2.1;refine⟨⟨d!,d!,d!,d!,λr hr=>?_⟩,d!⟩;dsimp only at hr;rw[c.1,b.1,a.1,v.1,y.1]at hr;rcases An.1 hr with w|w;rcases An.1 w with w|w;rw[Cn]at w;exact f r (OT (Fh w));simp at w;rw[w];exact n.2.2.2.2.2.2.2.2;exact f r (OT (Fh w))
def T3(n:Int)(t:List AP×List Int×List Bool):Prop:=t.2.1.length=t.1.length/\t.2.2.length=t.1.length/\t.1.length<=n/\RL t.1
def QY{a:List AP×List Int}{n:Int}{t:List AP×List Int×List Bool}(h:a.2.length=a.1.length/\a.1.length<=256/\RL a.1)(hn:n<=100000)(z:T3 n t):Av (Af (Eu a) (0,(0,t))) λr=>T3 (n+256) r:=by refine AS (λ(s:Int×Int×List AP×List Int×List Bool)=>0<=s.2.1/\s.2.1<=a.1.length/\T3 (n+s.2.1) s.2.2) (λ(s:Int×Int×List AP×List Int×List Bool)=>((a.1.length:Int)-s.2.1).toNat) ⟨Ag _,d!,by simpa using z⟩ (λs y=>?_);obtain⟨d,K,q,u,L,k⟩:=y;obtain⟨I,J,v⟩:=h;unfold Eu;have e:=AZ (x:=s.2.1+1);rw[e];refine AC (λc=>?_) (λ_=>AB ⟨q,u,o!,k⟩);simp only[len]at c;refine AA (AI d c) λA _=>?_;refine AC (λ_=>AB ⟨⟨d!,d!,q,u,d!,k⟩,d!⟩) (λ_=>?_);refine AA (AI d c) λp f=>?_;refine AA (AI d) λB _=>?_;refine AA (AI d c) λC _=>?_;refine AA (RF (v p f.2)) λD g=>?_;refine AA (Ac w!) λE b=>?_;have l:=b.2.1;simp only[Bs,By]at l;refine AA (Ac w!) λF i=>?_;have m:=i.2.1;simp only[Bs,By]at m;refine AA (Ac w!) λG j=>?_;have o:=j.2.1;simp only[Bs,By]at o;refine AA (AI d c) λH _=>AB ?_;refine⟨⟨d!,d!,d!,d!,d!,λr hr=>?_⟩,d!⟩;dsimp only at hr;rw[b.1]at hr;rcases An.1 hr with w|w;exact k r w;simp at w;rw[w];exact g
def y8{x:Ah×Int}(h:D8 x.1)(c:x.2=x.1.1+x.1.2.1.length-1):Av (ET x) λr=>r.1.2.2=r.1.1+r.1.2.1.length-1/\r.1.1=x.1.1:=by refine AA Bn λv e=>?_;refine AO (λa=>?_) (λ_=>?_);grind;refine AA Fk λf b=>?_;rw[h.last]at b;have d:=h.2.2.2.2.1;refine AC (λa=>absurd a o!) (λ_=>AB ⟨?_,rfl⟩);grind
def wX{b:Aa}{x:Int}(h:CX b)(f:x<=1000/\ -1000<=x):Av (Kv b x) λr=>r.2.1.2.2=r.2.1.1+r.2.1.2.1.length-1/\r.2.1.1=1:=by refine AA (OJ h f) λj d=>?_;obtain⟨c,g,i,q2,q3,q4⟩:=d;refine AA Gg λk e=>?_;exact AA (y8 q3 (e q3)) λl a=>AB ⟨a.1,a.2.trans q4⟩
def Ris(l:List Int)(n:Int):Prop:= ∀(i:Nat) (a b:Int),(i:Int)+1<n->l[i]? =some a->l[i+1]? =some b->a<b
def BD(n:Int)(l:List Int):Prop:=1<=n/\n<=64/\1<=l.length/\l.length<=16/\l[0]? =some 0/\Ris l l.length/\ ∀a,l[l.length-1]? =some a->a<n
def kB{x:Int×List Int}:Av (Fq x) λr=>r=true↔BD x.1 x.2:=by
 unfold Fq;refine AC (λc=>AB ⟨λd=>(by cases d),λh=>(by have:=h.1;omega)⟩) (λL=>?_);refine AC (λc=>AB ⟨λd=>(by cases d),λh=>(by have:=h.2.1;omega)⟩) (λM=>?_);refine AC (λc=>AB ⟨λd=>(by cases d),λh=>(by have:=h.2.2.1;simp only[len]at c;omega)⟩) (λy=>?_);refine AC (λc=>AB ⟨λd=>(by cases d),λh=>(by have:=h.2.2.2.1;simp only[len]at c;omega)⟩) (λz=>?_);simp only[len]at y z;refine AA (AI (Ag _)) λQ E=>?_;have f:=E.1;refine AL (λc=>AB ⟨λd=>(by cases d),λh=>?_⟩) (λo=>?_);have:=h.2.2.2.2.1;simp only[Int.toNat_zero]at f;rw[f]at this;exact absurd (Bg this) c;rw[o]at f;refine AA (P:=λr=>(r= .inl false/\ ¬Ris x.2 x.2.length)\/(r= .inr ()/\Ris x.2 x.2.length)) ?_ λr hr=>?_;refine AS (λ(s:Int)=>1<=s/\s<=x.2.length/\Ris x.2 s) (λ(s:Int)=>((x.2.length:Int)-s).toNat) ⟨Ag _,o!,λi a b v=>absurd v o!⟩ (λs G=>?_);obtain⟨N,O,w⟩:=G;unfold Ly;have A:=AZ (x:=s-1);have B:=AZ (x:=s+1);rw[A,B];refine AC (λk=>?_) (λk=>AB (.inr ⟨rfl,?_⟩));simp only[len]at k;refine AA (AI) λa j=>?_;refine AA (AI o! k) λb u=>?_;have t:(s-1).toNat+1=s.toNat:=o!
 refine AC (λJ=>AB (.inl ⟨rfl,λH=>?_⟩)) (λm=>AB ⟨⟨o!,o!,λi p q v n l=>?_⟩,o!⟩);have:=H (s-1).toNat a b o! j.1 (by rw[t];exact u.1);omega;by_cases I:(i:Int)+1<s;exact w i p q I n l;have C:i=(s-1).toNat:=o!
 subst C;rw[t]at l;rw[j.1]at n;rw[u.1]at l;have:=Bg n;have:=Bg l;omega;simp only[len]at k;have:s=x.2.length:=o!
 rw[<-this];exact w;rcases hr with⟨rfl,hr⟩|⟨rfl,hr⟩;exact BK (AB ⟨λd=>(by cases d),λh=>absurd h.2.2.2.2.2.1 hr⟩);apply A5;have e:=AZ (x:=len x.2-1) i!;rw[e];refine AA (AI i! i!) λK F=>AB ?_;have g:=F.1;have D:(len x.2-1).toNat=x.2.length-1:=i!
 rw[D]at g;rw[decide_eq_true_eq];refine⟨λm=>⟨o!,o!,o!,o!,f,hr,λa j=>?_⟩,λh=>h.2.2.2.2.2.2 K g⟩;rw[g]at j;have:=Bg j;omega
def BI(i:Int)(l:List Int):Prop:=1<=l.length/\l.length<=16/\l[0]? =some 0/\Ris l l.length/\ ∀a,l[l.length-1]? =some a->a<i
def BI.mono{i:Int}{l:List Int}(h:BI i l):BI (i+1) l:=⟨h.1,h.2.1,h.2.2.1,h.2.2.2.1,λa b=>by have:=h.2.2.2.2 a b;omega⟩
def BI.push{i:Int}{l m:List Int}(h:BI i l)(u:l.length<16)(r:m=l++[i]):BI (i+1) m:=by
 subst r;obtain⟨s,t,n,o,p⟩:=h;have g:(l++[i]).length=l.length+1:=k!
 refine⟨o!,o!,?_,λk a b q c d=>?_,λa c=>?_⟩;rw[CK o!];exact n;rw[g]at q;rw[CK o!]at c;by_cases f:k+1<l.length;rw[CK f]at d;exact o k a b o! c d;have j:k=l.length-1:=o!
 subst j;rw[Cb o!]at d;have e:l.length-1+1-l.length=0:=o!
 rw[e]at d;simp at d;have:=p a c;omega;rw[g]at c;rw[Cb o!]at c;have e:l.length+1-1-l.length=0:=o!
 rw[e]at c;simp at c;omega
def y7{b:Aa}{x:Int}(h:CX b)(d:1<=x/\x<=64):Av (K9 b x) λr=>CX r.2/\BD x r.1:=by
 unfold K9;refine AA (P:=λr=>CX r.2/\BD x r.1) ?_ λr hr=>AB hr;refine AS (λ(s:Int×List Int×Aa)=>1<=s.1/\s.1<=x/\BI s.1 s.2.1/\CX s.2.2) (λ(s:Int×List Int×Aa)=>(x-s.1).toNat) ⟨Ag _,d.1,⟨k!,k!,k!,λi a b q=>absurd q w!,λa o=>by simp at o;omega⟩,h⟩ (λs n=>?_);obtain⟨u,v,c,g⟩:=n;unfold Rk;have e:=AZ (x:=s.1+1);rw[e];refine AC (λp=>?_) (λp=>AB ⟨g,?_⟩);refine AA (Au g g!) λw f=>?_;refine AV (λ_=>?_) (λ_=>AB ⟨⟨d!,d!,c.mono,f.1⟩,d!⟩);refine AA (P:=λl=>BI (s.1+1) l) ?_ λz m=>AB ⟨⟨d!,d!,m,f.1⟩,d!⟩;refine AC (λt=>?_) (λ_=>AB c.mono);simp only[len]at t;exact AA (Ac w!) λy k=>AB (c.push o! k.1);have j:s.1=x:=o!
 rw[j]at c;exact⟨d.1,d.2,c.1,c.2.1,c.2.2.1,c.2.2.2.1,c.2.2.2.2⟩
def FR(l:List BJ)(m n:Int):Prop:=(∀(i:Nat) (f:BJ),(i:Int)<n->l[i]? =some f->0<f.2.1/\f.2.1<m)/\ ∀(i:Nat) (f g:BJ),(i:Int)+1<n->l[i]? =some f->l[i+1]? =some g->f.2.1<g.2.1
def VB(a:AK):Prop:=BD a.2.1 a.1/\1<=a.2.2.2.1/\a.2.2.2.1<=1099511627777/\1<=a.2.2.2.2/\a.2.2.2.2<=1073741825/\a.2.2.1.length<=256/\FR a.2.2.1 a.2.2.2.2 a.2.2.1.length
theorem YT{x:AK}:Av (C1 x) λr=>r=true↔VB x:=by
 unfold C1;refine AA kB λU w=>?_;refine AO (λj=>AB ⟨λb=>(by cases b),λh=>(by rw[w.2 h.1]at j;cases j)⟩) (λj=>?_);have H:=w.1 j;refine AC (λc=>AB ⟨λb=>(by cases b),λh=>(by have:=h.2.1;omega)⟩) (λN=>?_);refine AC (λc=>AB ⟨λb=>(by cases b),λh=>(by have:=h.2.2.1;omega)⟩) (λO=>?_);refine AC (λc=>AB ⟨λb=>(by cases b),λh=>(by have:=h.2.2.2.1;omega)⟩) (λQ=>?_);refine AC (λc=>AB ⟨λb=>(by cases b),λh=>(by have:=h.2.2.2.2.1;omega)⟩) (λR=>?_);refine AC (λc=>AB ⟨λb=>(by cases b),λh=>(by have:=h.2.2.2.2.2.1;simp only[len]at c;omega)⟩) (λA=>?_);simp only[len]at A;refine AA (P:=λr=>(r= .inl false/\ ¬FR x.2.2.1 x.2.2.2.2 x.2.2.1.length)\/(r= .inr ()/\FR x.2.2.1 x.2.2.2.2 x.2.2.1.length)) ?_ λr hr=>?_;refine AS (λ(s:Int×Int)=>0<=s.2/\s.2<=x.2.2.1.length/\FR x.2.2.1 x.2.2.2.2 s.2/\0<=s.1/\(s.2=0->s.1=0)/\ ∀f,0<s.2->x.2.2.1[(s.2-1).toNat]? =some f->f.2.1=s.1) (λ(s:Int×Int)=>((x.2.2.1.length:Int)-s.2).toNat) ⟨Ag _,by dsimp only;omega,⟨λi f k=>absurd k (by dsimp only;omega),λi f g k=>absurd k (by dsimp only;omega)⟩,Ag _,λ_=>rfl,λf d=>absurd d (by dsimp only;omega)⟩ (λs G=>?_);obtain⟨q,S,t,T,L,z⟩:=G;unfold JP;have e:=AZ (x:=s.2+1) (by omega);rw[e];refine AC (λj=>?_) (λj=>AB (.inr ⟨rfl,?_⟩));simp only[len]at j;refine AA (AI q j) λu D=>?_;have a:=D.1;refine AC (λJ=>AB (.inl ⟨rfl,λn=>?_⟩)) (λK=>?_);by_cases b:s.2=0;have:=(n.1 s.2.toNat u (by omega) a).1;have:=L b;omega;obtain⟨f,d⟩: ∃f,x.2.2.1[(s.2-1).toNat]? =some f:=⟨_,At (by omega)⟩
 have m:(s.2-1).toNat+1=s.2.toNat:=by omega
 have:=n.2 (s.2-1).toNat f u (by omega) d (by rw[m];exact a);have:=z f (by omega) d;omega;refine AA (AI q j) λv E=>?_;have B:v=u:=by have:=E.1;rw[a]at this;exact(Bg this).symm
 subst B;refine AC (λI=>AB (.inl ⟨rfl,λn=>?_⟩)) (λy=>?_);have:=(n.1 s.2.toNat v (by omega) a).2;omega;refine AA (AI q j) λM F=>AB ?_;have C:M=v:=by have:=F.1;rw[a]at this;exact(Bg this).symm
 subst C;refine⟨⟨by dsimp only;omega,by dsimp only;omega,⟨λi f k d=>?_,λi f g k d p=>?_⟩,by dsimp only;omega,λb=>absurd b (by dsimp only;omega),λf _ d=>?_⟩,by dsimp only;omega⟩;dsimp only at k;by_cases l:(i:Int)<s.2;exact t.1 i f l d;have o:i=s.2.toNat:=by omega
 subst o;rw[a]at d;have:=Bg d;subst this;exact⟨by omega,by omega⟩;dsimp only at k;by_cases l:(i:Int)+1<s.2;exact t.2 i f g l d p;have o:i=(s.2-1).toNat:=by omega
 have m:i+1=s.2.toNat:=by omega
 rw[m,a]at p;have:=Bg p;subst this;rw[o]at d;have:=z f (by omega) d;omega;dsimp only at d⊢;have m:(s.2+1-1).toNat=s.2.toNat:=by omega
 rw[m,a]at d;have:=Bg d;rw[this];simp only[len]at j;have:s.2=x.2.2.1.length:=by omega
 rw[<-this];exact t;rcases hr with⟨rfl,hr⟩|⟨rfl,hr⟩;exact BK (AB ⟨λb=>(by cases b),λh=>absurd h.2.2.2.2.2.2 hr⟩);exact A5 (AB ⟨λ_=>⟨H,by omega,by omega,by omega,by omega,by omega,hr⟩,λ_=>rfl⟩)
set_option maxHeartbeats 1000000
def nA{x:Int}:Av (Hz x) λr=>r=true↔0<=x/\x<64:=by
 unfold Hz;repeat' with_reducible first|intro a|apply AC|apply AJ|apply AB
 all_goals grind
def bL{x:Dx}:Av (Nl x) λr=>r=true↔OP x:=by
 unfold Nl OP
 repeat' first
   |with_reducible apply AC<;>intro a
   |with_reducible apply AJ<;>intro a
   |(with_reducible apply A2;try dsimp only)
   |with_reducible apply BX
   |with_reducible apply Bl
   |with_reducible apply AB
   |(with_reducible apply AA (nA);intro r hr)
   |(with_reducible apply AA (KK);intro r hr)
 all_goals grind
def Kh{x:Int×AD}:Av (Nm x) λr=>r=true↔0<=x.1/\x.1<x.2.1:=by
 unfold Nm;repeat' with_reducible first|intro a|apply AC|apply AJ|apply AB
 all_goals grind
def pw{x:Dx}:Av (ME x) λr=>r=true↔x=Pg:=by grind[ME,Pg,AB,Prod.ext_iff]
def lh{x:AD}:Av (GZ x) λr=>r=true:=by grind[GZ,AB]
def lj{x:AD}:Av (SG x) λr=>r=true↔1<=x.2.2.2.2.2.1/\x.2.2.2.2.2.1<=x.2.2.2.1:=by
 unfold SG;repeat' with_reducible first|intro a|apply AC|apply AJ|apply AB
 all_goals grind
def lk{x:Dx}:Av (SH x) λr=>r=true↔0<=x.1/\x.1<64/\x.2=Pg.2:=by
 unfold SH Pg;have⟨a,b,⟨c,d⟩,e,f⟩:=x;refine AJ (λg=>?_) (λg=>AB ?_);refine AC (λh=>AB ?_) (λh=>AB ?_);simp at g;simp[g,h];try omega
 simp;try omega
 grind[Prod.ext_iff]
theorem J3{x:AD}:Av (GY x) λr=>Lg x->r=true:=by
 unfold GY;refine AC (λi=>AB λh=>?_) (λs=>?_);have:=h.1;omega;refine AC (λi=>AB λh=>?_) (λt=>?_);have:=h.2.1;omega;refine AC (λi=>AB λh=>?_) (λu=>?_);have:=h.2.2.2.2.2.2.2.2;unfold UX at this;omega;refine AC (λi=>AB λh=>?_) (λv=>?_);have:=h.2.2.2.2.2.2.2.2;unfold UX at this;omega;refine AA Kh λw j=>?_;refine AO (λi=>AB λh=>?_) (λn=>?_);rw[j.2 ⟨h.2.2.1,h.2.2.2.1⟩]at i;cases i;refine AA Kh λy k=>?_;refine AO (λi=>AB λh=>?_) (λo=>?_);rw[k.2 ⟨h.2.2.2.2.1,h.2.2.2.2.2.1⟩]at i;cases i;refine AA Kh λz l=>?_;refine AO (λi=>AB λh=>?_) (λp=>?_);rw[l.2 ⟨h.2.2.2.2.2.2.1,h.2.2.2.2.2.2.2.1⟩]at i;cases i;refine Av.mono (P:=λr=>UX x->r=true) ?_ λr h q=>h q.2.2.2.2.2.2.2.2;clear j k l n o p;have⟨a,b,c,d,e,f,g,m⟩:=x;unfold UX;dsimp only at*;refine AC (λi=>absurd i o!) (λk0=>?_);repeat' with_reducible first
  |apply AC<;>intro i
  |apply AV<;>intro i
  |apply AL<;>intro i
  |apply AO<;>intro i
  |apply AJ<;>intro i
  |apply BX
  |apply A2
  |apply AB
  |apply ZV
  |(apply AA lh;intro r hr)
  |(apply AA lj;intro r hr)
  |(apply AA lk;intro r hr)
  |(apply AA pw;intro r hr)
  |(apply AA bL;intro r hr)
 all_goals grind
def fD{x:Ah}:Av (Ci x) λr=>r=wi (wi (x.1+len x.2.1)-1):=by grind[Ci,AB]
def Tw{x:Ah}(h:D8 x):Av (L8 x) λr=>r=true:=by have⟨a1,a2,a3,a4,a5,a6⟩:=id h;unfold L8;refine AC (λa=>absurd a o!) (λ_=>?_);refine AC (λa=>absurd a o!) (λ_=>?_);refine AC (λa=>absurd a (by simp[len];omega)) (λ_=>?_);rw[(AZ (x:=x.1-1))];refine AC (λa=>absurd a o!) (λ_=>?_);refine AA fD λf b=>?_;rw[h.last]at b;refine AC (λa=>absurd a o!) (λ_=>?_);refine AA (P:=λr=> ∃u,r= .inr u) ?_ λr hr=>?_;refine AS (λ(s:Int)=>0<=s/\s<=x.2.1.length) (λ(s:Int)=>((x.2.1.length:Int)-s).toNat) ⟨Ag _,o!⟩ (λs c=>?_);have⟨d,e⟩:=c;unfold XG;refine AC (λa=>?_) (λ_=>AB ⟨_,rfl⟩);grind[AA,AI,AZ,AL,J3,AO,AB];grind[A5,AB]
def nD{x:Ah}(h:D8 x):Av (Tv x) λr=>r=x.1+x.2.1.length-1:=by unfold Tv;refine AA (Tw h) λv c=>?_;refine AO (λb=>?_) (λ_=>?_);rw[c]at b;cases b;refine AA fD λd a=>AB ?_;rw[h.last]at a;exact a
theorem Od{x:AK}(h:VB x):Av (JA x) λr=>r=true:=by
 obtain⟨⟨L,M,N,O,p,t,v⟩,a1,a2,a3,a4,a5,a6⟩:=id h;unfold JA;refine AC (λa=>absurd a (by omega)) (λ_=>?_);refine AC (λa=>absurd a (by omega)) (λ_=>?_);refine AC (λa=>absurd a (by simp only[len];omega)) (λ_=>?_);refine AC (λa=>absurd a (by simp only[len];omega)) (λ_=>?_);refine AA (AI (Ag _) (by omega)) λQ B=>?_;have b:=B.1;rw[show((0:Int).toNat)=0 from rfl,p]at b;injection b with b;refine AL (λa=>absurd b.symm a) (λ_=>?_);have w:=AZ (x:=len x.1-1) (by simp only[len];omega);rw[w];refine AA (AI (by simp only[len];omega) (by simp only[len];omega)) λI C=>?_;have c:=C.1;have y:(len x.1-1).toNat=x.1.length-1:=by simp only[len];omega
 rw[y]at c;refine AC (λa=>absurd a (by have:=v I c;omega)) (λ_=>?_);refine AA (P:=λr=> ∃u,r= .inr u) ?_ λr hr=>?_;refine AS (λ(s:Int)=>1<=s/\s<=x.1.length) (λ(s:Int)=>((x.1.length:Int)-s).toNat) ⟨Ag _,by omega⟩ (λs i=>?_);obtain⟨o,F⟩:=i;unfold WE;refine AC (λa=>?_) (λ_=>AB ⟨_,rfl⟩);simp only[len]at a;have z:=AZ (x:=s-1) (by omega);have e:=AZ (x:=s+1) (by omega);rw[z,e];refine AA (AI (by omega) (by omega)) λJ D=>?_;refine AA (AI (by omega) a) λK E=>?_
 have q:=t (s-1).toNat J K (by omega) D.1 (by have:(s-1).toNat+1=s.toNat:=by omega
                                              rw[this];exact E.1)
 refine AC (λa=>absurd a (by omega)) (λ_=>AB ⟨⟨by omega,by omega⟩,by omega⟩);obtain⟨u,rfl⟩:=hr;refine A5 ?_;refine AC (λa=>absurd a (by omega)) (λ_=>?_);refine AC (λa=>absurd a (by omega)) (λ_=>?_);refine AC (λa=>absurd a (by omega)) (λ_=>?_);refine AC (λa=>absurd a (by omega)) (λ_=>?_);refine AC (λa=>absurd a (by simp only[len];omega)) (λ_=>?_);refine AA (P:=λr=> ∃u,r= .inr u) ?_ λr hr=>?_;refine AS (λ(s:Int×Int)=>0<=s.2/\s.2<=x.2.2.1.length/\(s.2=0->s.1=0)/\ ∀f:BJ,0<s.2->x.2.2.1[(s.2-1).toNat]? =some f->s.1=f.2.1) (λ(s:Int×Int)=>((x.2.2.1.length:Int)-s.2).toNat) ⟨Ag _,by dsimp only;omega,λ_=>rfl,λf m=>by dsimp only at m;omega⟩ (λs i=>?_);obtain⟨o,F,G,H⟩:=i;unfold WF;refine AC (λa=>?_) (λ_=>AB ⟨_,rfl⟩);simp only[len]at a;have e:=AZ (x:=s.2+1) (by omega);rw[e];refine AA (AI o a) λl g=>?_;have q1:=a6.1 s.2.toNat l (by omega) g.1;have q2:s.1<l.2.1:=by
  by_cases k:s.2=0;rw[G k];exact q1.1;have j:(s.2-1).toNat<x.2.2.1.length:=by omega
  have n:x.2.2.1[(s.2-1).toNat]? =some x.2.2.1[(s.2-1).toNat]:=At j
  have:=a6.2 (s.2-1).toNat _ l (by omega) n (by have:(s.2-1).toNat+1=s.2.toNat:=by omega
                                                rw[this];exact g.1)
  rw[H _ (by omega) n];exact this
 refine AC (λa=>absurd a (by omega)) (λ_=>?_);refine AC (λa=>absurd a (by have:=q1.2;omega)) (λ_=>AB ⟨⟨by dsimp only;omega,by dsimp only;omega,λk=>?_,λf m d=>?_⟩,by dsimp only;omega⟩);dsimp only at k;omega;dsimp only at d⊢;have A:(s.2+1-1).toNat=s.2.toNat:=by omega
 rw[A,g.1]at d;injection d with d;rw[d];obtain⟨u,rfl⟩:=hr;exact A5 (AB rfl)
def Ye{x:AK×Ah×Int×Int}(h:VB x.1)(c:D8 x.2.1)(e:0<=x.2.2.1/\x.2.2.1<x.1.2.1/\0<=x.2.2.2):Av (PC x) λr=>r=0:=by unfold PC;refine AA (Od h) λv d=>?_;refine AO (λa=>?_) (λ_=>?_);rw[d]at a;cases a;refine AA (Tw c) λf b=>?_;refine AO (λa=>?_) (λ_=>?_);rw[b]at a;cases a;refine AC (λa=>absurd a o!) (λ_=>?_);refine AC (λa=>absurd a o!) (λ_=>?_);exact AC (λa=>absurd a o!) (λ_=>AB rfl)
end Go.Pm
