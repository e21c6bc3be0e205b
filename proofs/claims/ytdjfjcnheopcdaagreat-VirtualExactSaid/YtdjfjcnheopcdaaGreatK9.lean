/- Texts of wip, joined and shortened by wip/tools/pack.py; nothing is assumed. -/
import Derived.Test.YtdjfjcnheopcdaaGreatK8
import Derived.KernelRfl
noncomputable section
set_option linter.all false
namespace Go.Pm
open Go Go.Ab
set_option maxHeartbeats 400000
variable {B:Int->Prop}
def WH{x:AU×AT}{s:Int×List Ah}(h:0<=s.1/\s.1<=x.1.2.2.2.2.2.2.2.length/\x.1.2.2.2.2.2.2.2.length<=16777216/\s.2=(x.1.2.2.2.2.2.2.2.take s.1.toNat).filter (λd=>d.1 !=x.2.1)):As (Aj (Lw x) s) λr=>r=x.1.2.2.2.2.2.2.2.filter λd=>d.1 !=x.2.1:=by refine AV (λ(s:Int×List Ah)=>0<=s.1/\s.1<=x.1.2.2.2.2.2.2.2.length/\x.1.2.2.2.2.2.2.2.length<=16777216/\s.2=(x.1.2.2.2.2.2.2.2.take s.1.toNat).filter (λd=>d.1 !=x.2.1)) (λ(s:Int×List Ah)=>((x.1.2.2.2.2.2.2.2.length:Int)-s.1).toNat) h (λs j=>?_);have⟨b,q,g,i⟩:=j;unfold Lw;refine AC (λf=>?_) (λf=>AB ?_);simp[len]at f;have m:=ke (l:=x.1.2.2.2.2.2.2.2) (p:=λd=>d.1 !=x.2.1) b;rw[<-i]at m;refine AA (AI b f) λv o=>?_;have e:=Aa (x:=s.1+1);have n:=iG (p:=λd:Ah=>d.1 !=x.2.1) b o.1;refine AA (P:=λa=>a=(x.1.2.2.2.2.2.2.2.take (s.1+1).toNat).filter (λd=>d.1 !=x.2.1)) ?_ λa c=>AB ⟨⟨d!,d!,g,by dsimp only;rw[c,e]⟩,d!⟩;refine AL (λk=>?_) (λk=>AB ?_);grind[AA,AI,Option.some.inj,Ac,AB];grind;grind[List.take_of_length_le]
def ZP{x:AU×AT}(h:SK B x.1)(L:Bg x.1=some true->x.2=st x.1.2.2.1.2.1 x.2.1/\B x.2.1):As (KR x) λr=>r.2=0->KS B x.1 r.1/\j9 r.1.2.2.2.1 x.2.1:=by
 unfold KR;refine Dx (B9 h.sb) λv O hv=>AP (λg=>AB n!) (λg=>?_);have K:=hv g;rw[g]at O;refine AC (λg=>AB n!) (λx0=>AC (λg=>AB n!) (λx1=>AA (KQ h.sb) λy1 al=>AC (λg=>AB n!) (λx2=>AA (KQ h.sb) λy2 ao=>AC (λg=>AB n!) (λx3=>?_))));have⟨R,Q⟩:=L O;refine AA EF λv3 _=>AP (λg=>AB n!) (λ_=>AA No λv4 _=>AM (λg=>?_) (λ_=>?_));grind[AM,AB];have p2:=K.2.2.2.1.2.1;have p3:=K.2.2.2.1.2.2.1;refine AA (GV d!) λi I=>AC (λg=>AB n!) (λA=>?_);have A:=I.2.2.2 o!;refine AQ (λg=>AB n!) (λ_=>AA (Ac w!) λv8 C=>?_);have⟨C,Z,_⟩:=C;rw[By]at C;subst C;refine AA (Ac w!) λc n=>?_;have⟨n,o,_⟩:=n;have q:c[c.length-1]? =some (x.2,(false,(0,true))):=by rw[n];simp
 have hn:(c.length:Int)-1=((c.length-1:Nat):Int):=by simp at o;omega
 have e:=Aa (x:=(c.length:Int)-1) (by simp at o;omega);have k: ∀f∈x.1.2.2.2.1.2.1,f.1.1≠x.2.1:=λf H e=>by have⟨i,I⟩:=Dm H;exact A ⟨i,f,I,e⟩
 refine AA (Jd h.sb) λt w=>AA (P:=λv:List BA×AU×Int×Int×Int×Int×Int×Int=>(∃(i:Nat) (f:BA),v.1[i]? =some f/\f.1.1=x.2.1)/\(v.2.1.1=x.1.1/\v.2.1.2.2.1=x.1.2.2.1/\v.2.1.2.2.2.2.1=x.1.2.2.2.2.1/\v.2.1.2.2.2.2.2.1=x.1.2.2.2.2.2.1/\SB v.2.1/\v.2.1.2.2.2.2.2.2.1=x.1.2.2.2.2.2.2.1)/\KP x.1.1 x.1.2.2.1.2.1 v.1 v.2.1.2.2.2.2.2.2.2 x.1.2.2.2.2.2.2.1/\FD B x.1.1 v.1 v.2.1.2.2.2.2.2.2.2) ?_ λa1 m=>?_
 ·refine AL (λs=>?_) (λs=>AB ⟨⟨_,_,q,rfl⟩,⟨rfl,rfl,rfl,rfl,h.sb,rfl⟩,?_,?_⟩);rotate_left 1;rw[n];exact h.ki.2.1.supply R k rfl (.inr ⟨rfl,w.2 s,rfl⟩);rw[n];exact h.ki.2.2.supply (p:=x.2.1) o! o! Q rfl (λd y=>y) (w.2 s);rw[hn]at e;simp only[len,hn,e];have z:c.length-1<c.length:=by simp at o;omega
  refine AA (AI) λar W=>AA (AI) λj X=>?_;have V:j.1=x.2:=by grind[Int.toNat_natCast,Option.some.inj]
  have ad:(F6 c ((c.length-1:Nat):Int) (j.1,(true,j.2.2))).length=c.length:=by simp[F6]
  refine AA (AI) λax Y=>AA (AI) λa F=>?_;have l:a.1=x.2:=by grind[Int.toNat_natCast,F6,List.getElem?_set_self,Option.some.inj]
  refine AA (WH ⟨k!,k!,h.2.2.1,k!⟩) λa0 G=>?_;have u:a.2.1=true:=by have:=F.1;simp[Dl,F6]at this;rw[H8 z]at this;rw[<-BV this]
  have N:F6 (F6 c ((c.length-1:Nat):Int) (j.1,(true,j.2.2))) ((c.length-1:Nat):Int) (a.1,(a.2.1,(t.1.2.1,a.2.2.2)))=x.1.2.2.2.1.2.1++[(a.1,(a.2.1,(t.1.2.1,a.2.2.2)))]:=by simp[F6,Dl,Wg,(by rw[n];simp:c.length-1=x.1.2.2.2.1.2.1.length)];rw[n,R8 _ _ (Aq _)];simp
  subst G;refine AB ⟨⟨c.length-1,(a.1,(a.2.1,(t.1.2.1,a.2.2.2))),?_,by rw[l]⟩,⟨rfl,rfl,rfl,rfl,⟨h.1,h.2.1,DH (Fe _ _) h.2.2.1⟩,rfl⟩,?_,?_⟩;simp[F6,Dl];rw[H8 (by simpa using z)];rw[N];exact h.ki.2.1.supply R k l (.inl ⟨u,rfl⟩);rw[N];exact h.ki.2.2.supply (p:=x.2.1) o! o! Q (by rw[l]) (λd y=>(BM.1 y).1) (λd y=>by simpa using(BM.1 y).2)
 have⟨i,f,H,J⟩:=m.1;have⟨M,D,S,T,E,U⟩:=m.2.1;refine AB λ_=>⟨⟨M,by dsimp only;rw[D];exact LX.refl _,by dsimp only;rw[D];exact K.2.2.1,S,T,E.1,E.2.1,E.2.2,?_⟩,i,f,H,J⟩
 unfold KI;dsimp only;rw[M,D,U];exact⟨h.ki.1,m.2.2⟩
def AFd{x:AU×Int}(h:Bg x.1=some false):EV x=some 0:=by unfold EV;rw[h];rfl
def Rd.st{P:List AE}{p:Int}{s:BY}{q:AT}(h:Rd s p q)(d:AEV P p s)(e: ∀j,Ex (st (P.take j) p)): ∃j:Nat,q=Go.Pm.st (P.take j) p:=by obtain⟨_,⟨_,h⟩|⟨a,b,c⟩⟩:=h;exact⟨0,h⟩;rcases d with q|⟨j,q⟩;exact absurd q c;exact⟨j,AAy a (e j) (b.symm.trans q)⟩
def HT{x:AW×Int}(h:SK B x.1.1)(g:DJ B x.1.1.2.2.1 x.1.2):As (Ek x) λr=>r.2=0->SvR B x.1 r.1/\j9 r.1.1.2.2.2.1 x.2:=by
 unfold Ek;refine AA (B9 h.sb) λv X=>AP (λa=>AB n!) (λa=>?_);have s:=X a;refine AC (λa=>AB n!) (λp0=>AC (λa=>AB n!) (λp1=>AA FV λi W=>AC (λa=>AB λ_=>⟨⟨KS.refl h s.2.2.1,g⟩,?_⟩) (λ_=>?_)));have⟨_,f,V,C⟩:=W.2.2.1 a;exact⟨_,f,V,C⟩;refine AA (dY h s.2.2.1 g) λo Q=>AM (λa=>AB (λc=>absurd c a)) (λw=>?_);have⟨t,m⟩:=Q w;have n:=t.2.2.2.2.2;have F:=t.2.2.1;have k1:=s.1;have k2:=s.2.1;have H:0<=x.2/\x.2<64:=o!
 have M:=F.num m.1;have h4:=F.2.2.1;refine AA (dH m.2.1) λv3 R=>AM (λa=>AB (λc=>absurd c a)) (λy=>?_);have⟨Y,Z,O⟩:=R y;have⟨b,u,_⟩:=B9 n.sb;refine AA (P:=λr=> ∃k:Nat,r=B0 (o.1.1.2.2.1.2.1.take k) x.2/\(b=true->k=o.1.1.2.2.1.2.1.length)) ?_ λv4 ⟨k,D,E⟩=>?_;cases b with
 |false=>exact⟨_,AFd u,0,rfl,λU=>by cases U⟩
 |true=>exact(KQ n.sb).mono λr hr=>⟨_,by rw[Hj];exact hr u n.ki.2.1 H.1 (by have:=t.1;dsimp only at this⊢;omega),λ_=>rfl⟩
 refine AA (bE d!) λv5 e=>AM (λa=>AB (λc=>absurd c a)) (λz=>?_);have e:=e z;dsimp only at e;have d:=m.2.2 _ _ O;rw[show((x.2.toNat:Nat):Int)=x.2 by omega]at d;have L:B x.2:=d.2.resolve_right λg=>by obtain⟨_,⟨q,_⟩|⟨q1,q2,_⟩⟩:=e;exact g.1 q;exact g.2 _ q1 q2
 have I:=Vz M H o!;obtain⟨j,p⟩:=e.st (d.1 L) λj=>by unfold dl;rw[Kk];exact I _
 unfold dl at p;rw[Kk]at p;generalize min j o.1.1.2.2.1.2.2.toNat=j' at p;rw[p,D];refine AA (AEW F m.1 n.ki.1 H) λv6 S=>?_;subst S;refine AM (λa=>absurd rfl a) (λ_=>AA (ZP n λK=>?_) λv7 T=>?_);rw[u]at K;have l:=E (BV K);have G:B0 (o.1.1.2.2.1.2.1.take j') x.2<=B0 (o.1.1.2.2.1.2.1.take k) x.2:=by rcases Nat.le_total j' k with q|q;exact PO M _ _ _ q;rw[BQ o!,l,Hj];exact Ae _
 dsimp only;rw[if_pos G,l,Hj,TF];exact⟨rfl,L⟩;refine AM (λa=>AB (λc=>absurd c a)) (λA=>AB λ_=>?_);have⟨N,J⟩:=T A;refine⟨⟨t.trans N,m.up N.2.1⟩,?_⟩;dsimp only at J;split at J<;>rwa [TF]at J
end Go.Pm
namespace Go.Pm
open Go Go.Ab
set_option maxHeartbeats 400000
variable {B:Int->Prop}
def KL(B:Int->Prop)(k m:AU):Prop:=m.1=k.1/\LX k.2.2.1 m.2.2.1/\SK B m/\Dg m.2.2.1
theorem KL.refl{k:AU}(h:SK B k)(a:Dg k.2.2.1):KL B k k:=⟨rfl,LX.refl _,h,a⟩
def KL.trans{a b c:AU}(h:KL B a b)(g:KL B b c):KL B a c:=⟨g.1.trans h.1,h.2.1.trans g.2.1,g.2.2⟩
def KS.kl{a b:AU}(h:KS B a b):KL B a b:=⟨h.1,h.2.1,h.2.2.2.2.2,h.2.2.1⟩
def wA.kl{a b:AU}{z:AE}(h:wA a z b)(c:SK B a)(d:z.2.1≠1/\z.2.1≠2/\z.2.1≠6/\z.2.1≠7):KL B a b:=⟨h.1,h.2.1,h.sk c d,h.2.2.1⟩
def SK.locks{k:AU}{l:A5}(h:SK B k)(a:F9 l):SK B (k.1,(k.2.1,(k.2.2.1,(k.2.2.2.1,(l,k.2.2.2.2.2))))):=⟨a,h.2⟩
def O4.idx{p:Br}(h:O4 p){i j:Nat}{f g:BA}(a:p.2.1[i]? =some f)(b:p.2.1[j]? =some g)(e:g.1.1=f.1.1):j=i:=by have l1:=C0 a;have l2:=C0 b;rcases P1 i j with q|q|q;exact absurd e.symm (h.2.2.2.2.2.2 i j f g q o! a b);exact q.symm;exact absurd e (h.2.2.2.2.2.2 j i g f q o! b a)
def fE{x:Br×Int}:As (NQ x) λr=>(∀g∈r.2.1,∃f∈x.1.2.1,f.1.1=g.1.1/\f.1=g.1)/\ ∀f∈x.1.2.1,f.2.1=true-> ∃g∈r.2.1,g.1.1=f.1.1/\g.2.1=true:=by unfold NQ;refine AA FV λv b=>AC (λ_=>AB ⟨λg k=>⟨g,k,rfl,rfl⟩,λf a h=>⟨f,a,rfl,h⟩⟩) (λm=>?_);have d:=b.2.2.1 o!;have o:=d.1.2.1;have p:=d.1.2.2.1;refine AA (AI o! b.2.1) λl c=>AA (LP d! ⟨d!,b.2.1⟩) λr hr=>AB ?_;subst hr;refine⟨yV c.1 rfl,λf a j=>?_⟩;by_cases e:f.1.1=l.1.1;have⟨i,n⟩:=Dm a;grind[Option.some.inj,List.mem_of_getElem?,List.getElem?_set_self,C0];exact⟨f,uJ c.1 f a e,rfl,j⟩
def ZM{x:Br×AT}:As (KJ x) λr=>r.2=0->O4 x.1/\ ∃(i:Nat) (f g:BA),x.1.2.1[i]? =some f/\f.1.1=x.2.1/\r.1.2.1=x.1.2.1.set i g/\g.1=x.2/\g.2.1=true:=by unfold KJ;refine AA EF λv c=>AP (λ_=>AB n!) (λb=>?_);have h:=(c.1 b).2.1;have j:=(c.1 b).2.2.1;refine AA No λ_ _=>AM (λb=>AB λa=>absurd a b) (λ_=>AA (GV d!) λi d=>AC (λ_=>AB n!) (λb=>AA (AI o! d.2.1) λk e=>AC (λ_=>AB n!) (λ_=>AA (P:=λ_=>True) (AP (λ_=>AB trivial) (λ_=>AB trivial)) λl _=>?_)));grind[AA,LP,AB,Option.some.inj]
def Io.cell{e:AE}(h:Io e):0<=e.2.2.2.2.2.2.1.2.1/\e.2.2.2.2.2.2.1.2.1<16:=by have a:=h.2.2.2.2.2.2.2.2;grind[UA,OQ,Pd]
def KI.same{k:AU}(h:KI B k){f g:BA}(a:f∈k.2.2.2.1.2.1)(b:g∈k.2.2.2.1.2.1)(e:g.1.1=f.1.1):g.1=f.1:=by have hr:=h.2.2 f a;rw[(h.2.1 f.1.1 hr.1 hr.2.1).1 g b e];exact((h.2.1 f.1.1 hr.1 hr.2.1).1 f a rfl).symm
def UR{x:AU×AE}(h:SK B x.1)(L:Dg x.1.2.2.1)(b:0<=x.2.2.2.2.2.2.2.1.2.1/\x.2.2.2.2.2.2.2.1.2.1<16)(s:x.2.2.1=1\/x.2.2.1=2)(hp:O4 x.1.2.2.2.1)(ad:j9 x.1.2.2.2.1 x.2.2.2.2.2.2.2.1.1)(G: ∀f∈x.1.2.2.2.1.2.1,f.1.1=x.2.2.2.2.2.2.2.1.1->GA f.1.2.2 x.2.2.2.2.2.2.2.1.2.1=some x.2.2.2.2.2.2.2.1.2.2.1):As (J6 x) λr=>KL B x.1 r.1/\(r.2=0->xd x.1.2.2.2.2.2.1 x.2.2.1 x.2.2.2.1 r.1.2.2.2.2.2.1):=by
 unfold J6;refine AA (Fq h.sb) λv hv=>AM (λb=>AB ⟨KL.refl h L,λs=>absurd s b⟩) (λN=>?_);have⟨_,l,c⟩:=hv N;refine AA IZ λE S=>AA (CM b.1 b.2) λ_ _=>AA (CM b.1 b.2) λ_ _=>AA ZM λv4 Z=>AM (λb=>AB ⟨KL.refl h L,λs=>absurd s b⟩) (λO=>AB ⟨⟨l.1,l.2.1,?_,l.2.2.1⟩,λ_=>l.2.2.2.2.2.1⟩);have F:=l.2.2.2.2.2.2.2.1;have⟨_,i,f,g,p,a,d,o,J⟩:=Z O;have⟨_,_,_,_,_,_,a7,_,e,T,P,U,A,V,W,e7⟩:=l;have w:E.2=true:=by cases q:E.2<;>grind
 have y:E.1.1=x.2.2.2.2.2.2.2.1.1:=(S.1 w).2.2.2.1;have C:e.2.2.2.2.2.2.1.1=x.2.2.2.2.2.2.2.1.1:=congrArg (λz=>z.2.1.1) A;have hr:=h.ki.2.2 f (BP p);dsimp only at p a d o c;refine⟨F.1,F.2.1,F.2.2,?_⟩;have t:e.2.1=1\/e.2.1=2:=by rw[U];exact s
 have u: ∀n:Int,n≠1->n≠2->e.2.1≠n:=λn n1 n2 q=>by rcases t with D|D<;>rw[q]at D;exact n1 D;exact n2 D
 unfold KI;dsimp only;rw[l.1,a7,T,W (by rcases s with q|q<;>rw[q]<;>decide),d];have K:g.1.1=f.1.1:=by rw[o,a]
 have m:=BP p;have I:=(h.ki.2.1 f.1.1 hr.1 hr.2.1).1 f m rfl;have M:E.1=f.1:=by have⟨_,_,_,_,f',H,Q⟩:=S.1 w;rw[<-Q];exact h.ki.same m H (by rw[Q,a])
 have R:e.2.2.2.2.2.2.1.2.1=x.2.2.2.2.2.2.2.1.2.1:=congrArg (λz=>z.2.1.2.1) A;have Y:e.2.2.2.2.2.2.1.2.2.1=x.2.2.2.2.2.2.2.1.2.2.1:=congrArg (λz=>z.2.1.2.2.1) A;have X:e.2.2.2.2.2.2.1.2.2.2=x.2.2.2.2.2.2.2.1.2.2.2:=congrArg (λz=>z.2.1.2.2.2) A;refine⟨h.ki.1.app ⟨λq=>⟨V h.ki.2.1 q (by rw[C,<-y,<-a];exact hr.1) (by rw[C,<-y,<-a];exact hr.2.1),by rw[R,Y,C,<-y,<-a,<-I];exact G f m (by rw[a,y])⟩,λq=>absurd q (u 7 g! g!),λq=>absurd q (u 6 g! g!)⟩,?_,h.ki.2.2.set p K⟩;refine h.ki.2.1.change h.ki.2.2 t p (by rw[a,y,C]) (by rw[o,M,c,<-P];unfold upd;rw[R,X]) J (λj k hj q=>hp.idx p hj q) ?_;rw[P];exact iH L _
theorem Bx{x:Int}:As (BE x) λr=>r.1=5:=by grind[BE,AB]
theorem fP{x:Int}:As (BE x) λr=>r.1=5/\r.2.2.2.2=x:=by grind[BE,AB]
theorem AA0{l:List Al}{id:Int}(h:l.length<=16777216)(m:fR l id):As (EU (l,id)) λr=>0<=r/\r<l.length:=by
 unfold EU;refine AA (P:=λr=> ∃u:Int,r= .inl u/\0<=u/\u<l.length) ?_ λr hr=>?_;refine AV (λ(s:Int)=>0<=s/\s<=l.length/\ ∀(j:Nat) (t:Al),j<s->l[j]? =some t->t.1≠id) (λ(s:Int)=>((l.length:Int)-s).toNat) ⟨Ae _,o!,λj t b=>absurd b o!⟩ (λs k=>?_);obtain⟨g,p,i⟩:=k;unfold Jb;have e:=Aa (x:=s+1);apply AC<;>intro d;simp only[len]at d;refine AA (AI g d) λq a=>AQ (λ_=>AB ⟨s,rfl,g,d⟩) (λc=>AB ?_);dsimp only at c;rw[e];refine⟨⟨o!,o!,λj t b f=>?_⟩,o!⟩;by_cases n:(j:Int)=s;have:s.toNat=j:=o!
 rw[this]at a;rw[f]at a;have:=BV a.1;rw[this];exact c;exact i j t o! f;obtain⟨j,t,b,f⟩:=m;have:=C0 b;simp only[len]at d;exact absurd f (i j t o! b);obtain⟨u,rfl,o⟩:=hr;exact BK (AB o)
def oS{l:List Al}{id:Int}(h:l.length<=16777216)(a:fR l id):As (CV (l,id)) λr=>0<=r/\r<l.length:=by grind[CV,AA,AA0,AB]
def ZS{x:AU×Int}(h:SK B x.1)(k:Dg x.1.2.2.1)(j:fR x.1.2.2.2.2.2.1 x.2):As (KU x) λr=>KL B x.1 r.1/\(r.2.1=1\/r.2.1=5):=by unfold KU;refine AA (oS h.2.1 j) λo c=>AA (AI c.1 c.2) λp _=>AA (P:=λs=>(∃u,s= .inl u/\KL B x.1 u.1)\/ ∃u,s= .inr u/\KL B x.1 u.1/\(u.2.1=1\/u.2.1=5)) ?_ λs l=>?_;refine AQ (λ_=>?_) (λ_=>?_);refine AA (I5 h.2.1) λq d=>AB (.inl ⟨_,rfl,rfl,LX.refl _,⟨h.1,?_,h.2.2⟩,k⟩);have:=lQ x.1.2.2.2.2.2.1 x.2;have e:=h.2.1;dsimp only at*;rw[d];omega;refine AA (Fq h.sb) λt f=>AM (λn=>?_) (λm=>?_);grind[AA,Bx,AB,KL.refl];have b:=(f m).2.1.kl h u!;refine AA (Jc b.2.2.1 b.2.2.2) λv g=>AB (.inl ⟨_,rfl,b.trans g.1.kl⟩);rcases l with⟨u,rfl,a⟩|⟨u,rfl,a⟩;apply BK;refine AA (Lo a.2.2.1.1) λw i=>AB ⟨⟨a.1,a.2.1,a.2.2.1.locks i,a.2.2.2⟩,.inl rfl⟩;exact A4 (AB a)
def Vk{x:AU×Int×Cs}{a:Al}{s:Int}(h:0<=s/\s<=a.2.2.2.2.1.length/\(a.2.2.2.2.1.length:Int)<=16777216):As (Aj (Ky x a) s) λr=>True:=by
 refine AV (λ(s:Int)=>0<=s/\s<=a.2.2.2.2.1.length/\(a.2.2.2.2.1.length:Int)<=16777216) (λ(s:Int)=>((a.2.2.2.2.1.length:Int)-s).toNat) h (λs c=>?_);unfold Ky;exact x!
def AEZ{l:List Al}{i:Nat}{t:Al}(h:l[i]? =some t):t.2.2.2.2.1.length<TP l:=by
 induction l generalizing i with
 |nil=>simp at h
 |cons a r b=>
  unfold TP;rw[Bv,Uc];cases i with
  |zero=>simp at h;rw[h];omega
  |succ i=>have:=b (i:=i) (by simpa using h);unfold TP at this;omega
def AFj{l:List Al}(h: ∀(i:Nat) (t:Al),l[i]? =some t->t.2.2.2.2.1.length<=4096):TP l<=l.length*4097:=by
 induction l with
 |nil=>simp[TP]
 |cons a r c=>have d:=h 0 a k!;have e:=c (λi t b=>h (i+1) t (by simpa using b));unfold TP at*;grind[List.length_cons]
def Xc.tp{l:List Al}(h:Xc l):TP l<=262208:=by have:=AFj (l:=l) (λi t a=>(h.2 i t a).1);have:=h.1;omega
def X2{x:AU×Int×Cs}(h:x.1.2.2.2.2.2.1.length<=16777216)(d:TP x.1.2.2.2.2.2.1<=262208)(c:fR x.1.2.2.2.2.2.1 x.2.1):As (Jf x) λr=>True:=by unfold Jf;refine AA (oS h c) λe a=>AA (AI a.1 a.2) λf b=>?_;have:=AEZ b.1;refine AA (Vk ⟨Ae _,o!⟩) λr _=>?_;grind[A6,AB]
def Sw{x:AU×Int×Int}(h:SK B x.1)(z:Dg x.1.2.2.1)(A:Xc x.1.2.2.2.2.2.1)(p:x.2.1≠0)(y:fR x.1.2.2.2.2.2.1 x.2.1):As (Ib x) λr=>KL B x.1 r.1/\(r.2.1=x.2.2\/r.2.1=5):=by
 unfold Ib;refine AA (ZI h.1) λL c=>AA (oS h.2.1 y) λM n=>AA (AI n.1 n.2) λN _=>AQ (λ_=>?_) (λ_=>?_);refine AA (I5 h.2.1) λO t=>AA (Lo c) λQ u=>AB ⟨⟨rfl,LX.refl _,⟨u,?_,h.2.2⟩,z⟩,.inl rfl⟩;have:=lQ x.1.2.2.2.2.2.1 x.2.1;have q:=h.2.1;dsimp only at*;rw[t];omega;refine AA (Fq (h.locks c).sb) λf v=>AM (λi=>?_) (λC=>?_);grind[AA,Bx,AB,KL.refl];have j:=(v C).2.1;have o:=j.2.2.2.2.2.1;have K:=(o.2.2.1 p (by show(4:Int)≠1;decide)).2;have D:=A.tp;have b:KL B x.1 f.1:=⟨j.1,j.2.1,(j.kl (h.locks c) u!).2.2⟩
 refine AA (P:=λr=>KL B x.1 r) ?_ λr hr=>AB ⟨hr,.inl rfl⟩;refine AV (λ(s:Int×AU)=>0<=s.1/\s.1<=f.1.2.2.2.2.1.1.length/\KL B x.1 s.2/\s.2.2.2.2.2.2.1=f.1.2.2.2.2.2.1) (λs=>((f.1.2.2.2.2.1.1.length:Int)-s.1).toNat) (s:=((0:Int),f.1)) ⟨Ae _,d!,b,rfl⟩ (λs w=>?_);have⟨m,J,a,d⟩:=w;unfold Rl;have I:=b.2.2.1.1.1;refine AC (λi=>?_) (λ_=>AB a);simp[len]at i;have e:=Aa (x:=s.1+1);refine AA (AI m i) λR _=>AQ (λ_=>?_) (λ_=>AB ⟨⟨d!,d!,a,d⟩,d!⟩);refine AA (AI m i) λS _=>AA (X2 (by dsimp only;rw[d];exact b.2.2.1.2.1) (by dsimp only at*;rw[d];omega) (by dsimp only;rw[d];exact(o.2.2.2 p rfl))) λE _=>AA (P:=λk=>KL B x.1 k/\k.2.2.2.2.2.1=f.1.2.2.2.2.2.1) ?_ λH g=>AB ⟨⟨d!,d!,g.1,g.2⟩,d!⟩;refine AP (λ_=>?_) (λ_=>AB ⟨a,d⟩);refine AA (AI m i) λF _=>AA (Tl a.2.2.1.1) λG l=>AB ⟨⟨a.1,a.2.1,a.2.2.1.locks l,a.2.2.2⟩,d⟩
end Go.Pm
namespace Go.Pm
open Go Go.Ab
set_option maxHeartbeats 400000
variable {B:Int->Prop}
def ZO{x:AU×Cw}:As (KO x) λr=>r=0->x.2.1=4\/x.2.1=5\/x.2.1=6\/x.2.1=7\/(0<=x.2.2.2.1/\x.2.2.2.1<16):=by unfold KO;refine AA (P:=λv=>True) (AL (λ_=>AB trivial) (λ_=>AA (P:=λ_=>True) (AL (λ_=>AB trivial) (λ_=>AB trivial)) λ_ _=>AB trivial)) λi _=>AA (P:=λs=>(∃u,s= .inl u/\u=1)\/ ∃u,s= .inr u/\(x.2.1=4\/x.2.1=5\/x.2.1=6\/x.2.1=7\/(0<=x.2.2.2.1/\x.2.2.2.1<16))) ?_ λs c=>?_;refine AL (λ_=>?_) (λ_=>?_);refine AC (λ_=>AB (.inl ⟨_,rfl,rfl⟩)) (λ_=>AC (λ_=>AB (.inl ⟨_,rfl,rfl⟩)) (λ_=>AC (λ_=>AB (.inl ⟨_,rfl,rfl⟩)) (λe=>AC (λ_=>AB (.inl ⟨_,rfl,rfl⟩)) (λf=>AA (P:=λ_=>True) (AL (λ_=>AB trivial) (λ_=>AB trivial)) λj _=>AB (.inr ⟨_,rfl,?_⟩)))));omega;refine AA (P:=λs=>(∃u,s= .inl u/\u=1)\/ ∃u,s= .inr u/\(x.2.1=4\/x.2.1=5\/x.2.1=6\/x.2.1=7)) ?_ λs c=>?_;refine AQ (λh=>?_) (λ_=>?_);refine AC (λ_=>AB (.inl ⟨_,rfl,rfl⟩)) (λ_=>AC (λ_=>AB (.inl ⟨_,rfl,rfl⟩)) (λ_=>AB (.inr ⟨_,rfl,o!⟩)));refine AA (P:=λb=>b=true->x.2.1=4\/x.2.1=5\/x.2.1=6) ?_ λk g=>?_;grind[AQ,AB,AA];simp_all[AL,AB];grind[BK,AB,A4];rcases c with⟨u,rfl,d⟩|⟨u,rfl,d⟩;grind[BK,AB];apply A4;refine AP (λ_=>AB n!) (λ_=>AC (λ_=>AB n!) (λ_=>AB λ_=>d))
def Tp{x:Int×Cw}:As (JF x) λr=>True:=by unfold JF;refine AQ (λ_=>AB trivial) (λ_=>AA (P:=λ_=>True) (AL (λ_=>AB trivial) (λ_=>AB trivial)) λv _=>AL (λ_=>AB trivial) (λ_=>AB trivial))
def X3{x:AU×Int×Cw}(h:SK B x.1):As (Jg x) λr=>r=0->VK x.1/\fR x.1.2.2.2.2.2.1 x.2.1/\(x.2.2.1=4\/x.2.2.1=5\/x.2.2.1=6\/x.2.2.1=7\/(0<=x.2.2.2.2.1/\x.2.2.2.2.1<16)):=by
 unfold Jg;refine AA (B9 h.sb) λv j=>AP (λ_=>AB n!) (λb=>AA (FW h.2.1) λk e=>AC (λ_=>AB n!) (λg=>AA (AI o! e.2.1) λl _=>AM (λ_=>AB n!) (λ_=>AA ZO λm f=>AM (λb=>AB λa=>absurd a b) (λc=>AA (IJ h.1) λn _=>AA Tp λo _=>?_))));have q:(0:Int)=0->VK x.1/\fR x.1.2.2.2.2.2.1 x.2.1/\(x.2.2.1=4\/x.2.2.1=5\/x.2.2.1=6\/x.2.2.1=7\/(0<=x.2.2.2.2.1/\x.2.2.2.2.1<16)):=λ_=>by have⟨t,i,d⟩:=e.2.2 o!;exact⟨j b,⟨_,t,i,d⟩,f c⟩
 refine AL (λ_=>?_) (λ_=>AB q);refine AM (λ_=>?_) (λ_=>AB q);refine AP (λ_=>AB n!) (λ_=>AP (λ_=>AB n!) (λ_=>AB q))
def ZQ{x:AU×Int×Cw}(h:SK B x.1)(k:Dg x.1.2.2.1)(n:O4 x.1.2.2.2.1)(a:0<=x.2.2.2.2.1/\x.2.2.2.2.1<16):As (KT x) λr=>KL B x.1 r.1/\(r.2.1=1\/r.2.1=3\/r.2.1=5)/\(r.2.1=3->r.2.2.2.1=x.2.2.2.1/\ ¬j9 x.1.2.2.2.1 x.2.2.2.1/\r.1=x.1):=by unfold KT;have t:=KL.refl h k;refine AA IZ λy m=>AP (λa=>AB ⟨t,.inr (.inl rfl),λ_=>⟨rfl,m.2 a n,rfl⟩⟩) (λd=>AQ (λ_=>?_) (λ_=>?_));refine AA fE λz l=>AA (CM a.1 a.2) λ_ _=>AA (CM a.1 a.2) λ_ _=>AB ⟨⟨rfl,LX.refl _,⟨h.1,h.2.1,h.2.2.1,h.ki.1,h.ki.2.1.frames l.1 l.2,h.ki.2.2.sub l.1⟩,k⟩,(.inl rfl),λs=>absurd s (by show(1:Int)≠3;decide)⟩;refine AA (CM a.1 a.2) λ_ _=>Dx (CM a.1 a.2) λu o _=>AA (P:=λv:Dd=>v.1=x.2.2.2.1/\v.2.1=x.2.2.2.2.1/\v.2.2.1=u) (AL (λ_=>AB ⟨rfl,rfl,rfl⟩) (λ_=>AB ⟨rfl,rfl,rfl⟩)) λA b=>?_;have⟨_,_,j,i,f,p,c⟩:=m.1 d;refine AA (UR h k (by dsimp only;rw[b.2.1];exact a) (.inl rfl) n (by dsimp only;rw[b.1];exact j) λg q e=>?_) λC w=>?_;dsimp only at e⊢;rw[b.2.1,b.2.2,h.ki.same p q (by rw[e,b.1,c,i]),c];exact o;grind[AA,AM,Bx,AB]
theorem bJ{x:List Int}:As (LY x) λr=>True:=by unfold LY;refine AQ (λ_=>AB trivial) (λa=>?_);simp only[len]at a;exact AA (AI (Ae _)) λ_ _=>AB trivial
def fH{x:AU×Int}(h:SK B x.1):As (NT x) λr=>True:=by unfold NT;refine AA (LN h.1) λa _=>?_;grind[AA,bJ,AB]
def gI{x:AU×Int×Cw}(h:SK B x.1)(i:Dg x.1.2.2.1):As (Oo x) λr=>KL B x.1 r.1/\(r.2.1=3->r.2.2.2.1=x.2.2.2.1/\ ¬j9 x.1.2.2.2.1 x.2.2.2.1/\r.1.2.2.2.1=x.1.2.2.2.1)/\(r.2.1=2\/r.2.1=3->r.1.2.2.2.2.2.1=x.1.2.2.2.2.2.1):=by
 unfold Oo;have q:=KL.refl h i;refine AA (X3 h) λX I=>AM (λ_=>?_) (λd=>?_);exact AA Bx λY V=>AB ⟨q,λd=>by dsimp only at d;omega,λ_=>rfl⟩;obtain⟨u,s,F⟩:=I d;have G:x.2.1≠0:=by obtain⟨j,t,M,W⟩:=s;have:=(u.2.2.2.2.2.1.2 j t M).2.2;omega
 refine AQ (λ_=>?_) (λT=>?_);exact AA (ZS h i s) λZ w=>AB ⟨w.1,λd=>by have:=w.2;omega,λd=>by have:=w.2;omega⟩;refine AQ (λ_=>?_) (λU=>?_);refine AA (Sw h i u.2.2.2.2.2.1 G s) λv3 E=>AB ?_;have y:=E.2;dsimp only at y;exact⟨E.1,λd=>o!,λd=>o!⟩;refine AA (P:=λb=>b=true↔x.2.2.1=6\/x.2.2.1=7) ?_ λv4 J=>?_;refine AQ (λp=>AB (by simp[p])) (λp=>AB (by simp[p]));refine AL (λ_=>?_) (λk=>?_);refine AA dP λv5 z=>AA (P:=λv=>v.2=0->v.1.length<=64) ?_ λv7 K=>?_;exact AL (λ_=>AA dN λv6 p=>AB p) (λ_=>AB z);refine AM (λ_=>?_) (λd=>AB ⟨⟨rfl,LX.refl _,⟨h.1,?_,h.2.2⟩,i⟩,λd=>absurd d (by show(1:Int)≠3;decide),λd=>absurd d (by show¬((1:Int)=2\/(1:Int)=3);decide)⟩);exact AA Bx λS L=>AB ⟨q,λd=>by dsimp only at d;omega,λ_=>rfl⟩;have:=K d;dsimp only;omega;have g:0<=x.2.2.2.2.1/\x.2.2.2.2.1<16:=by
  have: ¬(x.2.2.1=6\/x.2.2.1=7):=λh=>by rw[J.2 h]at k;cases k
  omega
 refine AA Tp λv9 _=>AA (Xp h.1) λC l=>AM (λ_=>?_) (λ_=>?_);exact AA Bx λS L=>AB ⟨q,λd=>by dsimp only at d;omega,λ_=>rfl⟩;have f:=h.locks l;have H: ∀m,KL B (x.1.1,(x.1.2.1,(x.1.2.2.1,(x.1.2.2.2.1,(C.1,x.1.2.2.2.2.2))))) m->KL B x.1 m:=λm A=>⟨A.1,A.2.1,A.2.2⟩
 refine AL (λ_=>?_) (λ_=>?_);refine AA (ZQ f i u.2.2.2.1 g) λN e=>AQ (λz=>AB ⟨q,λd=>by dsimp only at d;omega,λ_=>rfl⟩) (λ_=>AB ⟨H _ e.1,λd=>?_,λd=>?_⟩);obtain⟨a,b,c⟩:=e.2.2 d;exact⟨a,b,by rw[c]⟩;have D:=e.2.1;obtain⟨a,b,c⟩:=e.2.2 o!;rw[c];refine AA (bB l) λO _=>AC (λ_=>?_) (λ_=>?_);refine AA (Sw f i u.2.2.2.2.2.1 G s) λQ n=>?_;have o:=n.2;dsimp only at o;exact AQ (λz=>AB ⟨q,λd=>by dsimp only at d;omega,λ_=>rfl⟩) (λ_=>AB ⟨H _ n.1,λd=>o!,λd=>o!⟩);exact AA (fH f) λR _=>AB ⟨⟨rfl,LX.refl _,f,i⟩,λd=>absurd d (by show(2:Int)≠3;decide),λ_=>rfl⟩
end Go.Pm
namespace Go.Pm
open Go Go.Ab
set_option maxHeartbeats 400000
variable {B:Int->Prop}
def RTx(l:List Al)(id:Int)(t:Al):Prop:= ∃v,CV (l,id)=some v/\0<=v/\l[v.toNat]? =some t/\t.1=id
def RTx.uniq{l:List Al}{id:Int}{t u:Al}(h:RTx l id t)(g:RTx l id u):u=t:=by have⟨v,e,f,i,j⟩:=h;have⟨w,a,b,c,d⟩:=g;grind[Option.some.inj]
def NX(k:AU)(id:Int)(e:AE):Prop:= ∃t lsn,RTx k.2.2.2.2.2.1 id t/\t.2.2.2.2.1[t.2.2.2.2.1.length-1]? =some lsn/\k.2.2.1.2.1[(lsn-k.2.2.1.1).toNat]? =some e
def NX.uniq{k m:AU}{id:Int}{e f:AE}(h:NX k id e)(g:NX m id f)(o:m.2.2.2.2.2.1=k.2.2.2.2.2.1)(c:LX k.2.2.1 m.2.2.1):f=e:=by have⟨t,n,i,j,l⟩:=h;have⟨u,w,a,b,d⟩:=g;rw[o]at a;have:=i.uniq a;subst this;rw[j]at b;cases b;have:=c.get l;rw[c.1]at d;grind[Option.some.inj]
def IM{x:AU×Int}(h:SK B x.1):As (E7 x) λr=>r.2=0->VK x.1/\RTx x.1.2.2.2.2.2.1 x.2 r.1/\r.1.2.2.2.2.1.length<=4096/\r.1.1≠0:=by
 unfold E7;refine AA (B9 h.sb) λv i=>AP (λ_=>AB n!) (λf=>?_);have c:=i f;refine Dx (FW h.2.1) λj e d=>AC (λ_=>AB n!) (λg=>AA (AI o! d.2.1) λk _=>AQ (λ_=>AB n!) (λ_=>AA (AI o! d.2.1) λl b=>AB λ_=>⟨c,⟨j,e,o!,b.1,?_⟩,(c.2.2.2.2.2.1.2 _ _ b.1).1,?_⟩))
 grind[Option.some.inj];have:=(c.2.2.2.2.2.1.2 _ _ b.1).2.2;dsimp only;omega
def dS{x:AU×Int}(h:SK B x.1):As (HS x) λr=>r.2=true->VK x.1/\NX x.1 x.2 r.1/\Io r.1:=by
 unfold HS;refine AA (IM h) λc f=>AM (λ_=>AB λa=>by cases a) (λa=>?_);have⟨k,hr,o,_⟩:=f a;refine AQ (λ_=>AB λa=>by cases a) (λj=>?_);simp only[len]at j;rw[(Aa (x:=len c.1.2.2.2.2.1-1) (by simp[len];omega))];refine AA (AI (by simp[len];omega) (by simp[len];omega)) λp _=>AC (λ_=>AB λa=>by cases a) (λ_=>AA (AI (by simp[len];omega) (by simp[len];omega)) λl g=>AA Gr λq i=>AB λa=>?_);have⟨d,m,e,n⟩:=i.1 (by simpa using a);refine⟨k,⟨c.1,l,hr,?_,e⟩,d⟩;have b:=g.1;have:(len c.1.2.2.2.2.1-1).toNat=c.1.2.2.2.2.1.length-1:=i!
 rw[this]at b;exact b
def gJ{x:AU×Al×Cs×Int}(h:x.2.1.2.2.2.2.1.length<=16777216)(c:0<=x.2.2.2/\x.2.2.2<=x.2.1.2.2.2.2.1.length):As (Oq x) λr=>r.2=true->Io r.1/\r.1.2.2.2.2.2.2.1.1=x.2.2.1.1:=by unfold Oq;rw[(Aa (x:=x.2.2.2-1))];refine AA (P:=λr=> ∀u,r= .inl u->u.1=true->Io u.2/\u.2.2.2.2.2.2.2.1.1=x.2.2.1.1) ?_ λr hr=>A6 (λu a=>AB (hr u a)) (λ_ _=>AB λb=>by cases b);refine AV (λ(s:Int×AE)=> -1<=s.1/\s.1<x.2.1.2.2.2.2.1.length) (λ(s:Int×AE)=>(s.1+1).toNat) d! (λs d=>?_);unfold US;rw[(Aa (x:=s.1-1))];refine AC (λe=>?_) (λ_=>AB λu a=>by cases a);grind[AA,AI,Gr,AQ,AB]
def Rm{x:AU×Int×Cs}(h:SK B x.1):As (KV x) λr=>r.2=true->VK x.1/\Io r.1/\r.1.2.2.2.2.2.2.1.1=x.2.2.1:=by refine AA (IM h) λf b=>AM (λ_=>AB λa=>by cases a) (λa=>AM (λ_=>AB λa=>by cases a) (λ_=>?_));have⟨d,_,e,_⟩:=b a;exact AA (gJ d! ⟨by simp[len],by simp[len]⟩) λg c=>AB λa=>⟨d,c a⟩
def Xo{x:Dd}:As (JY x) λr=>r=(x.1,(x.2.1,(x.2.2.2,x.2.2.1))):=by grind[JY,AB]
def Tr{x:AU×Al×AE}(h:SK B x.1)(t:Dg x.1.2.2.1)(u:O4 x.1.2.2.2.1)(A:Io x.2.2)(v:x.2.1.1≠0):As (GH x) λr=>KL B x.1 r.1/\(r.2.1=3->r.2.2.2.1=x.2.2.2.2.2.2.2.2.1.1/\ ¬j9 x.1.2.2.2.1 x.2.2.2.2.2.2.2.2.1.1/\r.1=x.1)/\(r.2.1≠3->r.2.1≠5->r.2.2.1≠0/\TP r.1.2.2.2.2.2.1<TP x.1.2.2.2.2.2.1)/\(r.2.1=5->r.2.2.2.2.2≠0):=by unfold GH;have F:=KL.refl h t;refine AA IZ λG i=>AP (λl=>AB ⟨F,λ_=>⟨rfl,i.2 l u,rfl⟩,λa=>absurd rfl a,λa=>absurd a (by show(3:Int)≠5;decide)⟩) (λc=>AA Xo λH w=>?_);subst w;refine AA Sr λI j=>AM (λl=>?_) (λo=>?_);grind[AA,fP,AB];refine AA (UR h t A.cell (.inr rfl) u (i.1 c).2.2.1 λg D e=>by have⟨_,_,_,m,f,C,d⟩:=i.1 c;rw[h.ki.same C D (by rw[e,d,m]),d];exact(j.1 o).2) λp q=>AM (λl=>?_) (λa=>?_);grind[AA,fP,AB];have E:=(q.2 a).2.2.1 v (by show(2:Int)≠1;decide);have n:=E.1 (by show(2:Int)≠4;decide);have b:KL B x.1 p.1:=q.1;refine AA (P:=λk=>KL B x.1 k/\k.2.2.2.2.2.1=p.1.2.2.2.2.2.1) ?_ λM s=>AB ⟨s.1,λa=>absurd a (by show(1:Int)≠3;decide),λ_ _=>⟨v,by rw[s.2];exact n⟩,λa=>absurd a (by show(1:Int)≠5;decide)⟩;refine AL (λ_=>?_) (λ_=>AB ⟨b,rfl⟩);refine AA (Rm b.2.2.1) λJ _=>AA (P:=λk=>KL B x.1 k/\k.2.2.2.2.2.1=p.1.2.2.2.2.2.1) ?_ λL z=>AB z;refine AP (λ_=>?_) (λ_=>AB ⟨b,rfl⟩);exact AA (Tl b.2.2.1.1) λK y=>AB ⟨⟨b.1,b.2.1,b.2.2.1.locks y,b.2.2.2⟩,rfl⟩
def Tq{x:AU×Int}(h:SK B x.1)(m:Dg x.1.2.2.1):As (JG x) λr=>KL B x.1 r.1/\(r.2.1=3-> ∃e,NX x.1 x.2 e/\r.2.2.2.1=e.2.2.2.2.2.2.1.1/\ ¬j9 x.1.2.2.2.1 e.2.2.2.2.2.2.1.1)/\(r.2.1≠3->r.2.1≠5->TP r.1.2.2.2.2.2.1<TP x.1.2.2.2.2.2.1)/\(r.2.1=5->r.2.2.2.2.2≠0):=by
 unfold JG;have D:=KL.refl h m;refine AA (IM h) λA q=>AM (λi=>?_) (λd=>?_);grind[AA,fP,AB];have⟨y,hr,n,o⟩:=q d;have f:As (Option.bind (HS x) λk=>
  bif (!k.2)then
   Option.bind (BE 14) λC=>
   some (x.1,C)
  else
  Option.bind (GH (x.1,(A.1,k.1))) λp=>
  some p) λr=>KL B x.1 r.1/\(r.2.1=3-> ∃e,NX x.1 x.2 e/\r.2.2.2.1=e.2.2.2.2.2.2.1.1/\ ¬j9 x.1.2.2.2.1 e.2.2.2.2.2.2.1.1)/\(r.2.1≠3->r.2.1≠5->TP r.1.2.2.2.2.2.1<TP x.1.2.2.2.2.2.1)/\(r.2.1=5->r.2.2.2.2.2≠0):=by
  refine AA (dS h) λk u=>AP (λ_=>?_) (λi=>?_);grind[AA,fP,AB];have⟨_,hn,w⟩:=u i;refine AA (Tr h m y.2.2.2.1 w o) λp g=>AB ⟨g.1,λd=>?_,λa b=>(g.2.2.1 a b).2,g.2.2.2⟩;have⟨a,b,_⟩:=g.2.1 d;exact⟨_,hn,a,b⟩
 refine AQ (λ_=>?_) (λ_=>f);refine AQ (λ_=>?_) (λ_=>f);refine AA (Fq h.sb) λE s=>AM (λi=>?_) (λd=>?_);grind[AA,fP,AB];have l:=(s d).2.1;have z:=(l.2.2.2.2.2.1.2.2.1 (by have⟨v,_,_,_,j⟩:=hr;rw[<-j];exact o) (by show(5:Int)≠1;decide)).1 (by show(5:Int)≠4;decide);have c:=l.kl h u!;exact AA (Lo c.2.2.1.1) λF t=>AB ⟨⟨c.1,c.2.1,c.2.2.1.locks t,c.2.2.2⟩,λd=>absurd d (by show(1:Int)≠3;decide),λ_ _=>z,λd=>absurd d (by show(1:Int)≠5;decide)⟩
def dR{x:AU×Int×Cs}(h:SK B x.1)(f:Dg x.1.2.2.1):As (MO x) λr=>KL B x.1 r.1/\(r.2.1=3->r.2.2.2.1=x.2.2.1/\ ¬j9 x.1.2.2.2.1 x.2.2.1/\r.1=x.1)/\(r.2.1≠3->r.2.1≠5->r.2.2.1≠0->TP r.1.2.2.2.2.2.1<TP x.1.2.2.2.2.2.1):=by unfold MO;have o:=KL.refl h f;refine AA (IM h) λp i=>AM (λ_=>?_) (λc=>?_);grind[AA,Bx,AB];have⟨m,hr,g,n⟩:=i c;refine AM (λ_=>?_) (λ_=>?_);grind[AA,Bx,AB];refine AA (Rm h) λq j=>AP (λ_=>AB ⟨o,λc=>absurd c (by show(1:Int)≠3;decide),λ_ _ c=>absurd rfl c⟩) (λk=>?_);have⟨_,l,e⟩:=j k;refine AA (Tr h f m.2.2.2.1 l n) λs d=>AB ⟨d.1,λc=>?_,λa b _=>(d.2.2.1 a b).2⟩;have:=d.2.1 c;dsimp only at this;rw[e]at this;exact this
def Qz{x:AW×Int}(h:SK B x.1.1):As (EG x) λr=>True:=by unfold EG;refine AA (FW h.2.1) λc a=>AC (λb=>?_) (λ_=>AB trivial);grind[AA,AI,AB]
end Go.Pm
namespace Go.Pm
open Go Go.Ab
set_option maxHeartbeats 400000
variable {B:Int->Prop}
def SR(B:Int->Prop)(x s:AW):Prop:=KL B x.1 s.1/\DJ B s.1.2.2.1 s.2
def SR.trans{a b c:AW}(h:SR B a b)(g:SR B b c):SR B a c:=⟨h.1.trans g.1,g.2⟩
def SvR.sr{a b:AW}(h:SvR B a b):SR B a b:=⟨h.1.kl,h.2⟩
open Classical in
noncomputable def flag(p:Prop):Nat:=if p then 1 else 0
theorem yC(p:Prop):flag p<=1:=by unfold flag;split<;>omega
def tM{p:Prop}(h:p):flag p=1:=by unfold flag;rw[if_pos h]
def tL{p:Prop}(h: ¬p):flag p=0:=by grind[flag]
def XK{x:AW×Int}(h:SK B x.1.1)(C:Dg x.1.1.2.2.1)(A:DJ B x.1.1.2.2.1 x.1.2):As (Ea x) λr=>r.2=0->SR B x.1 r.1:=by unfold Ea;refine AA (B9 h.sb) λv E=>AP (λ_=>AB n!) (λm=>AA (FW h.2.1) λH _=>AC (λ_=>AB n!) (λ_=>AA (P:=λr=>(∀u,r= .inl u->u.1≠0)/\ ∀u,r= .inr u->SR B x.1 u.1) ?_ λr hr=>A6 (λu a=>AB λb=>absurd b (hr.1 u a)) (λu a=>AB λ_=>hr.2 u a)));refine AV (λ(s:AW×AW)=>SR B x.1 s.1) (λ(s:AW×AW)=>2*TP s.1.1.2.2.2.2.2.1+flag (∃e,NX s.1.1 x.2 e/\ ¬j9 s.1.1.2.2.2.1 e.2.2.2.2.2.2.1.1)) ⟨KL.refl h C,A⟩ (λs c=>?_);unfold Pk;have d:=c.1.2.2;refine AA (Qz d.1) λI _=>AL (λ_=>?_) (λ_=>AB ⟨λu a=>(by cases a),λu a=>(by cases a;exact c)⟩);refine AA (Tq d.1 d.2) λJ z=>?_;have⟨k1,D,F,G⟩:=z;apply AQ<;>intro i;grind[AB];refine AA (P:=λr=>(∃u,r= .inl u/\u.1≠0)\/ ∃u,r= .inr u/\SR B s.1 u.1/\2*TP u.1.1.2.2.2.2.2.1+flag (∃e,NX u.1.1 x.2 e/\ ¬j9 u.1.1.2.2.2.1 e.2.2.2.2.2.2.1.1)<2*TP s.1.1.2.2.2.2.2.1+flag (∃e,NX s.1.1 x.2 e/\ ¬j9 s.1.1.2.2.2.1 e.2.2.2.2.2.2.1.1)) ?_ λr hr=>?_;apply AQ<;>intro o;have⟨e,k,p,q⟩:=D o;refine AA (HT d.1 c.2) λK i=>AM (λm=>AB (.inl ⟨_,rfl,m⟩)) (λb=>AB (.inr ⟨_,rfl,(i b).1.sr,?_⟩));have⟨l,g⟩:=i b;have n:=l.1.2.2.2.2.1;rw[tM (⟨e,k,q⟩: ∃e,NX s.1.1 x.2 e/\ ¬j9 s.1.1.2.2.2.1 e.2.2.2.2.2.2.1.1),tL,n];dsimp only;omega;rintro⟨f,t,y⟩;have:=k.uniq t n l.1.2.1;subst this;dsimp only at g;rw[p]at g;exact y g;refine AB (.inr ⟨_,rfl,⟨k1,c.2.up k1.2.1⟩,?_⟩);grind[yC,j9];rcases hr with⟨u,rfl,a⟩|⟨u,rfl,a⟩;refine BK (AB ⟨λw j=>?_,λw j=>(by cases j)⟩);cases j;exact a;exact A4 (AB ⟨c.trans a.1,a.2⟩)
def gL{x:AW×Int×Cw}(h:SK B x.1.1)(K:Dg x.1.1.2.2.1)(J:DJ B x.1.1.2.2.1 x.1.2):As (Ov x) λr=>SR B x.1 r.1/\(r.2.1=2->r.1.1.2.2.2.2.2.1=x.1.1.2.2.2.2.2.1):=by
 unfold Ov;refine AA (P:=λr=>SR B x.1 r.1/\(r.2.1=2->r.1.1.2.2.2.2.2.1=x.1.1.2.2.2.2.2.1)) ?_ λr hr=>AB hr;refine AV (λ(s:AW×AW×BW)=>SR B x.1 s.1/\s.1.1.2.2.2.2.2.1=x.1.1.2.2.2.2.2.1) (λ(s:AW×AW×BW)=>flag (¬j9 s.1.1.2.2.2.1 x.2.2.2.1)) ⟨⟨KL.refl h K,J⟩,rfl⟩ (λs l=>?_);obtain⟨l,o⟩:=l;have y:=l.1.2.2;unfold UW;refine AA (gI y.1 y.2) λf E=>?_;obtain⟨k1,L,z⟩:=E;have j:SR B x.1 (f.1,s.1.2):=⟨l.1.trans k1,l.2.up k1.2.1⟩
 have g:=k1.2.2;apply AQ<;>intro q;obtain⟨a,b,c⟩:=L q;have d:=z (.inr q);refine AA (HT g.1 j.2) λT F=>AM (λ_=>?_) (λi=>AB ?_);refine AA Bx λU R=>AB ⟨j,λ_=>?_⟩;dsimp only at*;rw[d,o];obtain⟨t,v⟩:=F i;refine⟨⟨j.trans t.sr,?_⟩,?_⟩;have:=t.1.2.2.2.2.1;dsimp only at*;rw[this,d,o];dsimp only at*;rw[tM b,tL];omega;intro hn;rw[a]at v;exact hn v;have k: ∀(Q:Step (AW×(AW×BW)) (AW×BW)->Prop),(∀r:AW×BW,SR B x.1 r.1/\(r.2.1=2->r.1.1.2.2.2.2.2.1=x.1.1.2.2.2.2.2.1)->Q (.done r))-> ∀c:Int,c≠2->f.2.1=c->As (Option.bind (EG ((f.1,s.1.2),x.2.1)) λA=>
  Option.bind ((
    bif A then
     Option.bind (Ea ((f.1,s.1.2),x.2.1)) λn=>
     bif (n.2 !=0)then
      Option.bind (BE n.2) λC=>
      some (.inl ((f.1,s.1.2),C))
     else
     some (.inr (n.1,s.2))
    else
    some (.inr ((f.1,s.1.2),s.2))):(Option ((AW×BW)⊕ (AW×(AW×BW))))) λO=>
  Sum.elim (λM=>some (Step.done M))
  (λN=>some (.done (N.1,f.2))) O) Q:=by
  intro Q w c S I;refine AA (Qz g.1) λA _=>AA (P:=λr=>(∃u,r= .inl u/\SR B x.1 u.1/\u.2.1=5)\/ ∃u,r= .inr u/\SR B x.1 u.1) ?_ λr hr=>?_;refine AL (λ_=>?_) (λ_=>AB (.inr ⟨_,rfl,j⟩));refine AA (XK g.1 g.2 j.2) λn G=>AM (λ_=>?_) (λi=>AB (.inr ⟨_,rfl,j.trans (G i)⟩));exact AA Bx λC H=>AB (.inl ⟨_,rfl,j,H⟩);rcases hr with⟨u,rfl,m⟩|⟨u,rfl,m⟩;exact BK (AB (w _ ⟨m.1,λi=>by have:=m.2;omega⟩));exact A4 (AB (w _ ⟨m,λi=>by dsimp only at i;omega⟩))
 have e:SR B x.1 (f.1,s.1.2)/\(f.2.1=2->f.1.2.2.2.2.2.1=x.1.1.2.2.2.2.2.1):=⟨j,λi=>by rw[z (.inl i),o]⟩
 refine AQ (λD=>k _ (λr hr=>hr) 4 g! D) (λ_=>AQ (λp=>?_) (λ_=>AB e));refine AQ (λ_=>k _ (λr hr=>hr) 1 g! p) (λ_=>AQ (λ_=>k _ (λr hr=>hr) 1 g! p) (λ_=>AB e))
def bH{x:AU}(h:SK B x)(d:Dg x.2.2.1):As (LV x) λr=>r.2.2=0->KL B x r.1:=by unfold LV;refine AA (B9 h.sb) λv e=>AP (λ_=>AB n!) (λb=>AC (λ_=>AB n!) (λ_=>AA Sv λf c=>AM (λb=>AB λa=>absurd a b) (λa=>AB λ_=>⟨rfl,LX.refl _,⟨h.1,?_,h.2.2⟩,d⟩)));have:=(c a).2;dsimp only;omega
def bQ{x:AW}(h:SK B x.1)(e:Dg x.1.2.2.1)(d:DJ B x.1.2.2.1 x.2):As (Lc x) λr=>r.2.2=0->SR B x r.1:=by unfold Lc;refine AA (bH h e) λf b=>AM (λc=>AB λa=>absurd a c) (λa=>AB λ_=>⟨b a,d.up (b a).2.1⟩)
def bI{x:AU×Int}(h:SK B x.1)(n:Dg x.1.2.2.1):As (LW x) λr=>r.2.2=0->KL B x.1 r.1/\O4 x.1.2.2.2.1/\j9 x.1.2.2.2.1 x.2/\(∃f∈r.1.2.2.2.1.2.1,f.1=r.2.1)/\r.2.1.2.1<=r.1.2.2.1.2.2:=by
 unfold LW;refine AA (B9 h.sb) λv q=>AP (λ_=>AB n!) (λp=>AA IZ λs o=>AP (λ_=>AB n!) (λj=>?_));have⟨a,b,c,d,e⟩:=o.1 j;refine AA (Jc h n) λt i=>AB λ_=>⟨i.1.kl,a,c,by dsimp only;rw[i.2.1];exact e,i.2.2 ?_⟩
 have⟨f,m,k⟩:=e;have g:=h.ki.2.2 f m;have:=congrArg (λz=>z.2.1) ((h.ki.2.1 f.1.1 g.1 g.2.1).1 f m rfl);have:=iH n f.1.1;rw[Pb,k]at*;dsimp only;omega
def bS{x:AW×Int}(h:SK B x.1.1)(j:Dg x.1.1.2.2.1)(i:DJ B x.1.1.2.2.1 x.1.2):As (Le x) λr=>r.2=0->SR B x.1 r.1:=by unfold Le;refine AA (bI h j) λn l=>AM (λm=>AB λe=>absurd e m) (λe=>?_);have⟨a,b,c,d,k⟩:=l e;refine AA FV λo f=>AA (AI (f.2.2.2 b c) f.2.1) λp _=>AP (λ_=>AB λ_=>⟨KL.refl h j,i⟩) (λ_=>AA (Sz a.2.2.1 a.2.2.2 (i.up a.2.1) d k) λq g=>AB λe=>⟨a.trans (g e).1.kl,(g e).2.1⟩)
end Go.Pm
namespace Go.Pm
open Go Go.Ab
set_option maxHeartbeats 400000
def VDs(l:List Ah)(p:Int):Prop:= ∀(i:Nat) (d:Ah),l[i]? =some d->((i:Int)<=d.1/\d.1<p/\1<=d.2.1/\d.2.1<=d.2.2/\d.2.2<=1099511627776)/\ ∀f,0<i->l[i-1]? =some f->f.1<d.1
def VIs(x:Bq):Prop:=1<=x.length/\x.length<=64/\ ∀r∈x,(0<=r.1/\r.1<=1099511627776)/\(0<=r.2.1/\r.2.1<=1099511627776)/\0<=r.2.2/\r.2.2<=1099511627776
def VDs.len{l:List Ah}{p:Int}(h:VDs l p)(b:p<=64):l.length<=64:=by refine QU λa=>?_;have:=(h (l.length-1) _ (Au o!)).1;omega
def AGt{l:List Ah}{p:Int}(A:l.length<=16777216):As (E6 (l,p)) λr=>r=true->VDs l p:=by
 refine AA (P:=λr=>r= .inl false\/(r= .inr ()/\VDs l p)) ?_ λr hr=>?_
 ·refine Cv (λ(s:Int)=>0<=s/\s<=l.length/\ ∀(i:Nat) (d:Ah),(i:Int)<s->l[i]? =some d->((i:Int)<=d.1/\d.1<p/\1<=d.2.1/\d.2.1<=d.2.2/\d.2.2<=1099511627776)/\ ∀f,0<i->l[i-1]? =some f->f.1<d.1) (λs=>((l.length:Int)-s).toNat) ⟨Ae _,o!,λi d y=>o!⟩ (λs w=>?_);have⟨t,B,m⟩:=w;unfold Gl;dsimp[len];refine AC (λn=>?_) (λn=>As.done (.inr ⟨rfl,λi d a=>m i d (by have:=C0 a;omega) a⟩));obtain⟨k,rfl⟩:=EM t;refine AA (AI t n) λv g=>?_;have g:=g.1;rw[Dl]at g;refine AC (λ_=>As.done (.inl rfl)) (λq1=>AC (λ_=>As.done (.inl rfl)) (λq2=>AC (λ_=>As.done (.inl rfl)) (λq3=>AC (λ_=>As.done (.inl rfl)) (λq4=>AC (λ_=>As.done (.inl rfl)) (λq5=>?_)))));rw[Aa (x:=(k:Int)+1)];have b:((k:Int)<=v.1/\ ∀f,0<k->l[k-1]? =some f->f.1<v.1)-> ∀(i:Nat) (d:Ah),(i:Int)<(k:Int)+1->l[i]? =some d->((i:Int)<=d.1/\d.1<p/\1<=d.2.1/\d.2.1<=d.2.2/\d.2.2<=1099511627776)/\ ∀f,0<i->l[i-1]? =some f->f.1<d.1:=λq i d y a=>by by_cases h:i=k;subst h;rw[g]at a;cases a;exact⟨⟨q.1,o!⟩,q.2⟩;exact m i d o! a
  refine AC (λe=>?_) (λe=>As.next ⟨o!,o!,b ⟨o!,λf u=>absurd u o!⟩⟩ o!);rw[Aa (x:=(k:Int)-1)];refine AA (AI) λz c=>?_;have c:=c.1;rw[show((k:Int)-1).toNat=k-1 by omega]at c;refine AC (λ_=>As.done (.inl rfl)) (λq6=>?_);have j:=(m (k-1) z o! c).1.1;refine As.next ⟨o!,o!,b ⟨o!,λf _ o=>?_⟩⟩ o!
  rw[c]at o;cases o;omega
 grind[BK,AB,A4]
def ABK{x:Int}:As (Gg x) λr=>r=true->0<=x/\x<=1099511627776:=by refine AC (λh=>AB λa=>⟨o!,of_decide_eq_true a⟩) (λ_=>AB λa=>by cases a)
def AFS{x:Bq}:As (Dq x) λr=>r=true->VIs x:=by
 refine AC (λ_=>AB λa=>by cases a) (λd=>AC (λ_=>AB λa=>by cases a) (λe=>?_));simp[len]at d e;refine AA (P:=λr=>r= .inl false\/(r= .inr ()/\VIs x)) ?_ λr hr=>?_
 ·refine Cv (λ(s:Int)=>0<=s/\s<=x.length/\ ∀r∈x.take s.toNat,(0<=r.1/\r.1<=1099511627776)/\(0<=r.2.1/\r.2.1<=1099511627776)/\0<=r.2.2/\r.2.2<=1099511627776) (λs=>((x.length:Int)-s).toNat) ⟨Ae _,o!,λr hr=>by simp at hr⟩ (λs g=>?_);have⟨i,p,c⟩:=g;unfold I4;dsimp[len];refine AC (λb=>?_) (λb=>As.done (.inr ⟨rfl,o!,o!,by rw[BQ o!]at c;exact c⟩));refine AA (AI i b) λv h=>AA ABK λj m=>AP (λ_=>As.done (.inl rfl)) (λq=>AA ABK λk n=>AP (λ_=>As.done (.inl rfl)) (λt=>AA ABK λl o=>AP (λ_=>As.done (.inl rfl)) (λu=>?_)));rw[Aa (x:=s+1)];have f: ∀r∈x.take (s+1).toNat,(0<=r.1/\r.1<=1099511627776)/\(0<=r.2.1/\r.2.1<=1099511627776)/\0<=r.2.2/\r.2.2<=1099511627776:=λr hr=>by rw[show(s+1).toNat=s.toNat+1 by omega,Ct,h.1]at hr;grind
  grind[AQ,As.next,AM,As.done]
 grind[BK,AB,A4]
def VCk(c:CT):Prop:=1<=c.1/\c.1<=64/\1<=c.2.1/\c.2.1<=1073741825/\VDs c.2.2.2.1 c.1/\VIs c.2.2.2.2/\c.2.2.2.2.length=c.1
def AGc{c:CT}(d:c.2.2.2.1.length<=16777216):As (Gt c) λr=>r=true->VCk c:=by refine AC (λ_=>AB λa=>by cases a) (λf=>AC (λ_=>AB λa=>by cases a) (λg=>AC (λ_=>AB λa=>by cases a) (λh=>AC (λ_=>AB λa=>by cases a) (λi=>AA Do λo b=>AP (λ_=>AB λa=>by cases a) (λe=>AA (AGt d) λp j=>AP (λ_=>AB λa=>by cases a) (λl=>AA AFS λq k=>AP (λ_=>AB λa=>by cases a) (λm=>AM (λ_=>AB λa=>by cases a) (λn=>AA (QG ⟨Ae _,o!,by have:=(b e).1;omega⟩) λr hr=>?_))))))));grind[VCk,A6,AB]
def dB(d:Ah):BY:=C8 d.1 1++(C8 d.2.1 8++C8 d.2.2 8)
def rB(r:Dh):BY:=C8 r.1 8++(C8 r.2.1 8++C8 r.2.2 8)
def rQ(l:List Ah):BY:=(l.map dB).flatten
def nq(l:List Dh):BY:=(l.map rB).flatten
def AEo(d:Ah):(dB d).length=17:=rfl
def AFH(r:Dh):(rB r).length=24:=rfl
def AAu(l:List Ah)(d:Ah):rQ (l++[d])=rQ l++dB d:=by grind[rQ,List.flatten_append]
def ABv(l:List Dh)(d:Dh):nq (l++[d])=nq l++rB d:=by grind[nq,List.flatten_append]
def ur(l:List Ah)(d:Ah):rQ (d::l)=dB d++rQ l:=rfl
theorem vi(l:List Dh)(d:Dh):nq (d::l)=rB d++nq l:=rfl
theorem iE: ∀l:List Ah,(rQ l).length=17*l.length
 |[]=>rfl
 |d::l=>by rw[ur,Ag,AEo,iE l,Bo];omega
theorem oN: ∀l:List Dh,(nq l).length=24*l.length
 |[]=>rfl
 |d::l=>by rw[vi,Ag,AFH,oN l,Bo];omega
def i8r{n:Int}(a:0<=n)(b:n<=1099511627776):Zk 8 n:=⟨n!,o!⟩
def i1r{n:Int}(a:0<=n)(b:n<256):Zk 1 n:=⟨λ_=>q!,o!⟩
def i2r{n:Int}(a:0<=n)(b:n<65536):Zk 2 n:=⟨λ_=>q!,o!⟩
def i4r{n:Int}(a:0<=n)(b:n<4294967296):Zk 4 n:=⟨λ_=>q!,o!⟩
def ACv{x:Bq}(h:VIs x):As (Hr x) λr=>r.1=C8 (x.length:Int) 2++nq x\/r.1=[]:=by
 have⟨c,d,e⟩:=h;refine AA AFS λi b=>AP (λ_=>AB (.inr rfl)) (λ_=>?_);rw[Ha k! g! g!,AD,By];refine AA (P:=λr=>r=C8 (x.length:Int) 2++nq x) (Cv (λ(s:BY×Int)=> ∃k:Nat,k<=x.length/\s=(C8 (x.length:Int) 2++nq (x.take k),(k:Int))) (λs=>x.length-s.2.toNat) ⟨0,Bi _,by simp[nq]⟩ ?_) λr hr=>AB (.inl hr);rintro s ⟨k,f,rfl⟩;unfold IL;dsimp[len];refine AC (λa=>?_) (λa=>As.done q!);have g:(C8 (x.length:Int) 2++nq (x.take k)).length<=2000:=by grind[List.length_append,A0,oN,List.length_take]
 rw[(by unfold ix;rw[if_pos o!,Int.toNat_natCast,List.getElem?_eq_getElem o!]:ix x (k:Int)=some x[k]),Option.bind_some,Ha o! g! g!,Option.bind_some,Option.bind_some,Ha (by rw[List.length_append,A0];simp only[Int.reduceToNat];omega) g! g!,Option.bind_some,Option.bind_some,Ha (by rw[List.length_append,List.length_append,A0,A0];simp only[Int.reduceToNat];omega) g! g!,Option.bind_some,Aa];refine As.next ⟨k+1,o!,?_⟩ o!
 rw[(by simp_all:x.take (k+1)=x.take k++[x[k]]),ABv];simp only[A2];exact DN rfl o!
def ACq{x:Bq}(h:VIs x):As (ET (C8 (x.length:Int) 2++nq x)) λr=>r.2=0->r.1=x:=by
 have⟨t,u,i⟩:=h;have y:(C8 (x.length:Int) 2++nq x).length=2+24*x.length:=by rw[Ag,A0,oN]
 unfold ET;have d:=(gN (x:=C8 (x.length:Int) 2++nq x) (p:=[]) (rest:=nq x) (at_:=0) (k:=2) (n:=(x.length:Int)) rfl rfl o! g! g! (i2r o! o!)).1;rw[show(((2:Nat)):Int)=2 from rfl]at d;rw[d,AD];have m:wi (len (C8 (x.length:Int) 2++nq x)-2)=24*(x.length:Int):=by grind[Aa]
 have o:wi (24*((x.length:Int),(0:Int)).1)=24*(x.length:Int):=Aa q!;rw[show((((x.length:Int),(0:Int)):Int×Int).2 !=0)=false from rfl,cond_false,decide_eq_false o!,cond_false,decide_eq_false o!,cond_false];refine AA (P:=λr=>r=x) ?_ λr hr=>?_
 ·refine Cv (λ(s:Int×List Dh)=> ∃k:Nat,k<=x.length/\s=((k:Int),x.take k)) (λs=>x.length-s.1.toNat) ⟨0,Bi _,rfl⟩ ?_;rintro s ⟨k,w,rfl⟩;unfold IK;dsimp only;refine AC (λl=>?_) (λl=>As.done (by rw[BQ o!]));have b:k<x.length:=o!
  have a:(nq (x.take k)).length=24*k:=by grind[oN,List.length_take]
  have c:C8 (x.length:Int) 2++nq x=(C8 (x.length:Int) 2++nq (x.take k))++(C8 x[k].1 8++(C8 x[k].2.1 8++(C8 x[k].2.2 8++nq (x.drop (k+1))))):=by rw[(by grind[vi,List.drop_eq_getElem_cons,nq,List.flatten_append,List.take_append_drop]:nq x=nq (x.take k)++(rB x[k]++nq (x.drop (k+1))))];unfold rB;simp[A2]
  have⟨q1,q2,q3⟩:=i x[k] (PH b);have e:=(gN (at_:=2+24*(k:Int)) (k:=8) c (by rw[Ag,A0,a];omega) o! g! g! (i8r q1.1 q1.2)).1;rw[<-A2]at c;have f:=(gN (at_:=10+24*(k:Int)) (k:=8) c (by simp[Ag,A0,a];omega) o! g! g! (i8r q2.1 q2.2)).1;rw[<-A2]at c;have g:=(gN (at_:=18+24*(k:Int)) (k:=8) c (by simp[Ag,A0,a];omega) o! g! g! (i8r q3.1 q3.2)).1;rw[show(((8:Nat)):Int)=8 from rfl]at e f g;rw[Aa (x:=24*(k:Int)),Aa (x:=2+24*(k:Int)),Aa (x:=10+24*(k:Int)),Aa (x:=18+24*(k:Int)),e,AD,f,AD,g,AD,Aa (x:=(k:Int)+1)];refine AA (Ac (by rw[BR];simp;omega)) λz j=>As.next ⟨k+1,b,?_⟩ d!
  rw[j.1,(by simp_all:x.take (k+1)=x.take k++[x[k]])];exact DN d! rfl
 subst hr;exact AA AFS λA v=>AP (λ_=>AB λq=>absurd (show(28:Int)=0 from q) g!) (λ_=>AB λ_=>rfl)
def ACw{c:CT}(l:c.2.2.2.1.length<=16777216):As (GX c) λr=>r.1.length<=8192->r.1=[]\/(VCk c/\ ∃b g:BY,r.1=C8 c.1 2++(C8 c.2.1 4++(C8 (b.length:Int) 4++(b++(C8 (c.2.2.2.1.length:Int) 1++(rQ c.2.2.2.1++g)))))/\(g=C8 (c.2.2.2.2.length:Int) 2++nq c.2.2.2.2\/g=[])):=by
 unfold GX;refine AA (AGc l) λB n=>AP (λ_=>AB λ_=>.inl rfl) (λe=>?_);have m:=n e;have⟨a1,a2,a3,a4,a5,a6,a7⟩:=id m;have t:=a5.len a2;refine AA Rj λx z=>?_;rw[Ha k! g! g!,AD,By,Ha (by rw[A0];decide) g! g!,AD,Ha (by simp only[Ag,A0];decide) g! g!,AD];refine AA (CA (by simp[Ag,A0,Int.reduceToNat];omega)) λj q=>?_;have w:=q.2;simp[Ag,A0,Int.reduceToNat]at w;dsimp[len];rw[Ha o! g! g!,AD];refine AA (P:=λr=>r=j++(C8 (c.2.2.2.1.length:Int) 1++rQ c.2.2.2.1)) ?_ λh o=>?_
 ·refine Cv (λ(s:BY×Int)=> ∃k:Nat,k<=c.2.2.2.1.length/\s=(j++(C8 (c.2.2.2.1.length:Int) 1++rQ (c.2.2.2.1.take k)),(k:Int))) (λs=>c.2.2.2.1.length-s.2.toNat) ⟨0,Bi _,by simp[rQ]⟩ ?_;rintro s ⟨k,A,rfl⟩;unfold IN;dsimp[len];refine AC (λe=>?_) (λe=>As.done q!);have a:k<c.2.2.2.1.length:=o!
  have u:ix c.2.2.2.1 (k:Int)=some c.2.2.2.1[k]:=by unfold ix;rw[if_pos o!,Int.toNat_natCast,List.getElem?_eq_getElem a]
  have l:(j++(C8 (c.2.2.2.1.length:Int) 1++rQ (c.2.2.2.1.take k))).length<=100000000:=by grind[List.length_append,A0,iE,List.length_take]
  rw[u,AD,Ha o! g! g!,AD,AD,Ha (by rw[Ag,A0];simp only[Int.reduceToNat];omega) g! g!,AD,AD,Ha (by rw[Ag,Ag,A0,A0];simp only[Int.reduceToNat];omega) g! g!,AD,Aa];refine As.next ⟨k+1,a,?_⟩ q!
  have f:c.2.2.2.1.take (k+1)=c.2.2.2.1.take k++[c.2.2.2.1[k]]:=t!
  rw[f,AAu];unfold dB;grind[List.append_assoc,Prod.ext]
 refine AA (Rh.and (ACv a6)) λi d=>?_;have v:h.length<=100000000:=by grind[List.length_append,A0,iE]
 refine AA (CA o!) λy p=>AB λ_=>.inr ⟨m,x.1,i.1,?_,d.2⟩;grind[List.append_assoc]
def ACr{c:CT}(Q:VCk c){b l s:BY}(J:s=C8 c.1 2++(C8 c.2.1 4++(C8 (b.length:Int) 4++(b++(C8 (c.2.2.2.1.length:Int) 1++(rQ c.2.2.2.1++l))))))(X:s.length≤8192)(v:l=C8 (c.2.2.2.2.length:Int) 2++nq c.2.2.2.2∨l=[]):
  As (DB s) λr=>r.2=0->r.1.1=c.1/\r.1.2.2.2.1=c.2.2.2.1/\r.1.2.2.2.2=c.2.2.2.2:=by
 obtain⟨a1,a2,a3,a4,a5,a6,a7⟩:=id Q;have O:=a5.len a2;have d:=J;have y:=congrArg List.length J;simp only[Ag,A0,iE]at y;have F:=(gN (x:=s) (p:=[]) (at_:=0) (k:=2) (n:=c.1) (show s=[]++(C8 c.1 2++_)from d) rfl o! g! g! (i2r o! o!)).1;have G:=(gN (at_:=2) (k:=4) (n:=c.2.1) d (by rw[A0];rfl) o! g! g! (i4r o! o!)).1;rw[<-A2]at d;have H:=(gN (at_:=6) (k:=4) (n:=(b.length:Int)) d (by rw[Ag,A0,A0];rfl) o! g! g! (i4r o! o!)).1;rw[<-A2,<-A2]at d;have I:=(gN (at_:=10+(b.length:Int)) (k:=1) (n:=(c.2.2.2.1.length:Int)) d (by simp only[Ag,A0];omega) o! g! g! (i1r o! o!)).1;rw[<-A2]at d;rw[show(((2:Nat)):Int)=2 from rfl]at F;rw[show(((4:Nat)):Int)=4 from rfl]at G H;rw[show(((1:Nat)):Int)=1 from rfl]at I;have w:((((C8 c.1 2++C8 c.2.1 4)++C8 (b.length:Int) 4)++b)++C8 (c.2.2.2.1.length:Int) 1).length=11+b.length:=by simp only[Ag,A0];omega
 generalize V:(((C8 c.1 2++C8 c.2.1 4)++C8 (b.length:Int) 4)++b)++C8 (c.2.2.2.1.length:Int) 1=P at d w;unfold DB;rw[F,AD,G,AD,H,AD];dsimp only[len];rw[show((0:Int) !=0)=false by decide,cond_false,Aa (x:=(s.length:Int)-10),decide_eq_false o!,cond_false,Aa (x:=10+(b.length:Int))];refine AA (CQ g!) λY L=>?_;rw[I,AD];dsimp only;rw[show((0:Int) !=0)=false by decide,cond_false,Aa (x:=(s.length:Int)-(10+(b.length:Int))),Aa (x:=(s.length:Int)-(10+(b.length:Int))-1),Aa (x:=17*(c.2.2.2.1.length:Int)),decide_eq_false o!,cond_false,Aa (x:=10+(b.length:Int)+1)];refine AA (P:=λr=>r=((P.length:Int)+17*c.2.2.2.1.length,(c.2.2.2.1,(c.1,(c.2.1,([],[])))))) ?_ λR m=>?_
 ·refine Cv (λ(q:Int×Int×List Ah×Int×Int×List Al×Bq)=> ∃k:Nat,k<=c.2.2.2.1.length/\q=((P.length:Int)+17*k,((k:Int),(c.2.2.2.1.take k,(c.1,(c.2.1,([],[]))))))) (λq=>c.2.2.2.1.length-q.2.1.toNat) ⟨0,Bi _,?_⟩ ?_;refine DN ?_ rfl;dsimp only;omega;rintro q ⟨k,W,rfl⟩;unfold Lx;dsimp only;refine AC (λN=>?_) (λN=>As.done (by rw[BQ o!,show k=c.2.2.2.1.length by omega]));have e:k<c.2.2.2.1.length:=o!
  have z:rQ c.2.2.2.1=rQ (c.2.2.2.1.take k)++(dB c.2.2.2.1[k]++rQ (c.2.2.2.1.drop (k+1))):=by rw[<-ur,<-QV e];unfold rQ;rw[<-List.flatten_append,<-Md,Di]
  have f:(rQ (c.2.2.2.1.take k)).length=17*k:=by rw[iE,BR];omega
  have i:s=(P++rQ (c.2.2.2.1.take k))++(C8 c.2.2.2.1[k].1 1++(C8 c.2.2.2.1[k].2.1 8++(C8 c.2.2.2.1[k].2.2 8++(rQ (c.2.2.2.1.drop (k+1))++l)))):=by rw[d,z];unfold dB;simp only[A2]
  obtain⟨q1,q2,q3,q4,q5⟩:=(a5 k _ (Au e)).1;have C:=(gN (at_:=(P.length:Int)+17*k) (k:=1) i (by rw[Ag,f];omega) o! g! g! (i1r o! o!)).1;rw[<-A2]at i;have D:=(gN (at_:=(P.length:Int)+17*k+1) (k:=8) i (by simp only[Ag,A0,f];omega) o! g! g! (i8r o! o!)).1;rw[<-A2]at i;have E:=(gN (at_:=(P.length:Int)+17*k+9) (k:=8) i (by simp only[Ag,A0,f];omega) o! g! g! (i8r o! o!)).1;rw[show(((1:Nat)):Int)=1 from rfl]at C;rw[show(((8:Nat)):Int)=8 from rfl]at D E;rw[C,AD,Aa (x:=(P.length:Int)+17*k+1),D,AD,Aa (x:=(P.length:Int)+17*k+9),E,AD,Aa (x:=(P.length:Int)+17*k+17),Aa (x:=(k:Int)+1)];refine AA (Ac (by rw[BR];simp;omega)) λZ M=>As.next ⟨k+1,e,?_⟩ d!
  have B:c.2.2.2.1.take (k+1)=c.2.2.2.1.take k++[c.2.2.2.1[k]]:=by rw[Ct,Au e];rfl
  rw[M.1,B];refine DN ?_ (DN ?_ rfl);dsimp only;omega;dsimp only;omega
 subst m;refine AA (Ri (by rw[L.1,BR,FJ];omega)) λS _=>AM (λg=>AB λh=>absurd h g) (λ_=>?_);dsimp only;have A:RF s ((P.length:Int)+17*(c.2.2.2.1.length:Int)) (s.length:Int)=some l:=by
  unfold RF;rw[if_pos o!,d,<-A2];have u:(P++rQ c.2.2.2.1).length=((P.length:Int)+17*(c.2.2.2.1.length:Int)).toNat:=by rw[Ag,iE];omega
  rw[<-u,QW,BQ (by rw[Ag];omega)]
 rw[A,AD];rcases v with rfl|rfl;refine AA ((Rg o!).and (ACq a6)) λT o=>AM (λg=>AB λh=>absurd h g) (λj=>AA (N1 d!) λU _=>AP (λ_=>AB λh=>absurd (show(24:Int)=0 from h) g!) (λ_=>AB λ_=>⟨rfl,rfl,o.2 j⟩));have K:ET []=some ([],5):=by unfold ET;have:=fQ (a:=[]) (t:=[]) (k:=2) g! g! g!;rw[Db,if_neg g!]at this;rw[show((([]:BY).length:Nat):Int)=0 from rfl]at this;rw[this];rfl
 rw[K,AD];exact AB λh=>absurd (show(5:Int)=0 from h) g!
variable {B:Int->Prop}
def bD{x:Br}:As (LO x) λr=>r.length<=64/\(∀d∈r,∃f∈x.2.1,f.1.1=d.1/\d.2.2=f.1.2.1)/\(O4 x-> ∀f∈x.2.1,f.2.1=true->0<=f.1.1->f.1.1<64-> ∃d∈r,d.1=f.1.1):=by
 unfold LO;refine AA EF λv B=>AP (λm=>AB ⟨k!,k!,λo=>absurd (B.2 o) (by simp[m])⟩) (λm=>?_);have o:=B.1 m;have R:=o.2.1;have S:=o.2.2.1;refine AA (P:=λr=>r.length<=64/\(∀d∈r,∃f∈x.2.1,f.1.1=d.1/\d.2.2=f.1.2.1)/\ ∀f∈x.2.1,f.2.1=true->0<=f.1.1->f.1.1<64-> ∃d∈r,d.1=f.1.1) ?_ λr hr=>AB ⟨hr.1,hr.2.1,λ_=>hr.2.2⟩;refine Cv (λ(s:Int×List Ah)=>0<=s.1/\s.1<=64/\s.2.length<=s.1/\(∀d∈s.2,∃f∈x.2.1,f.1.1=d.1/\d.2.2=f.1.2.1)/\ ∀f∈x.2.1,f.2.1=true->0<=f.1.1->f.1.1<s.1-> ∃d∈s.2,d.1=f.1.1) (λ(s:Int×List Ah)=>(64-s.1).toNat) ⟨Ae _,u!,k!,k!,λf _ _ i k=>absurd k d!⟩ (λs I=>?_);have⟨k,O,Q,p,q⟩:=I;unfold Rf;rw[(Aa (x:=s.1+1))];refine AC (λm=>?_) (λm=>As.done ⟨o!,p,λf h c i k=>q f h c i o!⟩);refine AA (GV d!) λL b=>AC (λa=>?_) (λa=>As.next ⟨d!,d!,d!,p,λf h c i k=>?_⟩ d!)
 ·have⟨g,A,t⟩:=b.2.2.1 a;have D: ∀w,x.2.1[L.toNat]? =some w->w=g:=λw C=>by rw[A]at C;exact(BV C).symm
  refine AA (AI a b.2.1) λM y=>?_;have E:=D M y.1;subst E;refine AA (P:=λl=>l.length<=s.2.length+1/\(∀d∈l,∃f∈x.2.1,f.1.1=d.1/\d.2.2=f.1.2.1)/\ ∀f∈x.2.1,f.2.1=true->0<=f.1.1->f.1.1<s.1+1-> ∃d∈l,d.1=f.1.1) ?_ λV H=>As.next ⟨d!,d!,d!,H.2⟩ d!
  refine AL (λn=>?_) (λn=>AB ⟨o!,p,λf h c i k=>?_⟩);refine AA (AI a b.2.1) λT _=>AA (AI a b.2.1) λN z=>?_;have F:=D N z.1;subst F;refine AA (Ac w!) λU G=>AB ⟨?_,λd c=>?_,λf h c i k=>?_⟩;grind;grind;rw[G.1];by_cases e:f.1.1<s.1;have⟨d,J,K⟩:=q f h c i e;grind[List.mem_append_left];exact⟨_,Mg _ (BC.2 rfl),d!⟩;by_cases e:f.1.1<s.1;exact q f h c i e;have⟨j,u⟩:=Dm h;have:=o.uniq u A (by dsimp only at t;omega);subst this;rw[n]at c;cases c
 by_cases e:f.1.1<s.1;grind;have⟨j,u⟩:=Dm h;exact absurd ⟨j,f,u,by dsimp only at k⊢;omega⟩ (b.2.2.2 o!)
def gK{x:AU}(h:SK B x):As (Ou x) λr=>r.2=0->r.1.2.2.2.1.length<=16777216/\r.1.1=x.1/\uR x.1 x.2.2.1.2.1 r.1.2.2.2.1 r.1.2.2.2.2:=by
 unfold Ou;refine AA (B9 h.sb) λv hv=>AP (λ_=>AB n!) (λo=>?_);have J:=hv o;have ad:=J.2.1;have⟨al,n,H⟩:=h.ki;refine AA (P:=λr=>r.1.length<=16777216/\r.2=(x.1,(x.2.1,(x.2.2.2.2.2.1,x.2.2.2.2.2.2.1)))/\(∀d∈r.1,d.2.2=B0 x.2.2.1.2.1 d.1)/\ ∀p,0<=p->p<x.1->(∀d∈r.1,d.1≠p)->(∀d∈x.2.2.2.2.2.2.2,d.1≠p)/\ ∀f∈x.2.2.2.1.2.1,f.1.1=p->f.2.1=false) ?_ λr hr=>AB λ_=>⟨hr.1,by rw[hr.2.1],λp g i=>⟨λd a e=>by rw[hr.2.2.1 d a,e],λw D=>?_⟩⟩
 rotate_left 1;dsimp only at D;rw[hr.2.1]at D;have⟨_,_,c⟩:=n p g i;exact⟨(c w D).1,λa=>(c w D).2 (hr.2.2.2 p g i a).1 (hr.2.2.2 p g i a).2⟩;refine Cv (λ(s:Int×(List Ah)×Int×Int×(List Al)×Bq)=>0<=s.1/\s.1<=x.1/\s.2.1.length<=65*s.1/\s.2.2=(x.1,(x.2.1,(x.2.2.2.2.2.1,x.2.2.2.2.2.2.1)))/\(∀d∈s.2.1,d.2.2=B0 x.2.2.1.2.1 d.1)/\ ∀p,0<=p->p<s.1->(∀d∈s.2.1,d.1≠p)->(∀d∈x.2.2.2.2.2.2.2,d.1≠p)/\ ∀f∈x.2.2.2.1.2.1,f.1.1=p->f.2.1=false) (λ(s:Int×(List Ah)×Int×Int×(List Al)×Bq)=>(x.1-s.1).toNat) ⟨Ae _,by have:=J.1;dsimp only;omega,k!,rfl,k!,λp g i=>absurd i d!⟩ (λs hI=>?_);have⟨h1,h2,h3,R,S,b⟩:=hI;unfold UT;have e:=Aa (x:=s.1+1);rw[e];refine AC (λo=>?_) (λ_=>As.done ⟨o!,R,S,λp g i=>b p g o!⟩);refine AA (Jd h.sb) λv2 y=>AA (P:=λl=>l.1.length<=s.2.1.length+1/\l.2=s.2.2/\(∀d∈l.1,d.2.2=B0 x.2.2.1.2.1 d.1)/\(∀d∈s.2.1,d∈l.1)/\((∀d∈l.1,d.1≠s.1)-> ∀d∈x.2.2.2.2.2.2.2,d.1≠s.1)) ?_ λW F=>?_;refine AL (λm=>AA (Ac w!) λv6 b=>AB ?_) (λm=>AB ⟨o!,rfl,S,λd a=>a,λ_=>y.2 m⟩);have⟨q1,q2⟩:=y.1 m;have K:=b.2.1;simp at K;refine⟨d!,rfl,λd a=>?_,λd a=>by dsimp only;rw[b.1];exact Gc _ a,λhn=>absurd q2 (hn _ (by dsimp only;rw[b.1];exact Mg _ (BC.2 rfl)))⟩;dsimp only at a;rw[b.1,Ao]at a;rcases a with a|a;grind;rw[BC]at a;subst a;exact(n _ (by dsimp only at q2;omega) (by dsimp only at q2;omega)).2.1 _ q1 rfl;have⟨a1,a2,a3,a4,a5⟩:=F;refine AA bD λE L=>?_;have⟨b1,Y,Z⟩:=L;refine AA (P:=λl=>l.1.length<=s.2.1.length+65/\l.2=s.2.2/\(∀d∈l.1,d.2.2=B0 x.2.2.1.2.1 d.1)/\(∀d∈W.1,d∈l.1)/\ ∀d∈E,d.1=s.1->d∈l.1) ?_ λao k=>As.next ⟨d!,d!,d!,by dsimp only;rw[k.2.1,R],k.2.2.1,λp g i hn=>?_⟩ d!
 rotate_left 1;have⟨_,_,_,N,c5⟩:=k;dsimp only at i hn;by_cases u:p<s.1;exact b p g u λd a=>hn d (N d (a4 d a));have ep:p=s.1:=o!
 subst ep;refine⟨a5 λd a=>hn d (N d a),λf C Q=>?_⟩;cases hb:f.2.1 with
 |false=>rfl
 |true=>have⟨d,G,q⟩:=Z J.2.2.2.1 f C hb o! o!;exact absurd (q.trans Q) (hn d (c5 d G (q.trans Q)))
 refine Cv (λ(t:Int×(List Ah)×Int×Int×(List Al)×Bq)=>0<=t.1/\t.1<=E.length/\t.2.1.length<=s.2.1.length+1+t.1/\t.2.2=s.2.2/\(∀d∈t.2.1,d.2.2=B0 x.2.2.1.2.1 d.1)/\(∀d∈W.1,d∈t.2.1)/\ ∀(j:Nat) (d:Ah),(j:Int)<t.1->E[j]? =some d->d.1=s.1->d∈t.2.1) (λ(t:Int×(List Ah)×Int×Int×(List Al)×Bq)=>((E.length:Int)-t.1).toNat) ⟨Ae _,d!,d!,a2,a3,λd a=>a,λj d I=>absurd I d!⟩ (λt hJ=>?_);have⟨j1,j2,j3,U,M,V,j7⟩:=hJ;unfold UU;have e2:=Aa (x:=t.1+1);rw[e2];refine AC (λo=>?_) (λo=>As.done ⟨o!,U,M,V,λd a O=>?_⟩);rotate_left 1;grind[List.getElem?_of_mem,C0];simp[len]at o;refine AA (AI j1 o) λX z=>AA (P:=λl=>l.1.length<=t.2.1.length+1/\l.2=t.2.2/\(∀d∈l.1,d.2.2=B0 x.2.2.1.2.1 d.1)/\(∀d∈t.2.1,d∈l.1)/\(X.1=s.1->X∈l.1)) ?_ λv9 A=>As.next ⟨d!,d!,d!,A.2.1.trans U,A.2.2.1,λd a=>A.2.2.2.1 d (V d a),λj d I a O=>?_⟩ d!
 rotate_left 1;dsimp only at I;by_cases u:(j:Int)<t.1;grind;have:j=t.1.toNat:=o!
 subst this;rw[z.1]at a;have:=BV a;subst this;exact A.2.2.2.2 O;refine AQ (λT=>AA (Ac w!) λv6 b=>AB ?_) (λT=>AB ⟨o!,rfl,M,λd a=>a,λe=>absurd e T⟩);have K:=b.2.1;simp at K;refine⟨d!,rfl,λd a=>?_,λd a=>by dsimp only;rw[b.1];exact Gc _ a,λ_=>by dsimp only;rw[b.1];exact Mg _ (BC.2 rfl)⟩;dsimp only at a;rw[b.1,Ao]at a;rcases a with a|a;exact M d a;rw[BC]at a;subst a;have⟨f,C,f1,f2⟩:=Y d z.2;have hr:=H f C;rw[f2,(n d.1 o! o!).1 f C f1,Pb]
theorem ACs: ∃c e,DB []=some (c,e)/\e≠0:=⟨(0,(0,([],([],[])))),5,by kernel_rfl,g!⟩
def dT{x:AU}(h:SK B x):As (QF x) λr=>r.2.2=0->KL B x r.1:=by
 refine AA (gK h) λM u=>AM (λb=>AB λa=>absurd a b) (λa=>?_);have⟨o,L,C⟩:=u a;refine AA ((ZU o).and (ACw o)) λE j=>AC (λ_=>AB n!) (λf=>?_);simp[len]at f;have d: ∀c,DB E.1=some (c,0)->c.1=x.1->uR x.1 x.2.2.1.2.1 c.2.2.2.1 c.2.2.2.2:=by intro c b _;rcases j.2 o! with e|⟨g,D,K,A,i⟩;grind[ACs,Option.some.inj];have⟨_,q2,q3⟩:=(ACr g A o! i).get b rfl;rw[q2,q3];exact C
 refine AA (Fq h.sb) λN v=>AM (λb=>AB λa=>absurd a b) (λa=>?_);have⟨_,⟨a1,a2,a3,a4,a5,a6,a7,a8,e,k,s,t,l,I,m,J⟩,w⟩:=v a;dsimp only at a1 a2 a4 a7 k s t l m w;have y:=a2.1;refine AA (JZ.and (oT a3 q!)) λO n=>AB λ_=>?_;have⟨F,p,G,H,_⟩:=n.1 n.2;refine⟨a1,a2.trans (LX.of G p H),⟨a8.1,a8.2.1,a8.2.2,?_⟩,F⟩;unfold KI;rw[a1,a4,a7,p,k,m g!];refine⟨h.ki.1.app ⟨λq=>o!,λq=>o!,λ_=>?_⟩,h.ki.2.1.app o!,h.ki.2.2⟩;rw[(congrArg (λz=>z.2.2) l)];exact d
def Vm{x:AW}(h:SK B x.1)(d:DJ B x.1.2.2.1 x.2):As (K0 x) λr=>r.2.2=0->SR B x r.1:=by exact AA (dT h) λe b=>AM (λc=>AB λa=>absurd a c) (λa=>AB λ_=>⟨b a,d.up (b a).2.1⟩)
end Go.Pm
namespace Go.Pm
open Go Go.Ab
set_option maxHeartbeats 400000
theorem ZT{x:BY}(h:x.length<=1099511627776):As (DB x) λr=>r.2=0->oW r.1/\r.1.2.2.2.1.length<=65536:=by unfold DB;refine AA (Cj h) λO _=>AA (Cj h) λQ _=>AA (Cj h) λc w=>AM (λa=>AB n!) (λj=>?_);have⟨a1,a2,a3,_⟩:=w j;have a4:=a3 q!;dsimp only at a1 a2;rw[(Aa (x:=len x-10) q!)];refine AC (λa=>AB n!) (λa=>?_);simp[len]at a;rw[(Aa (x:=10+c.1))];refine AA (CQ g!) λR y=>AA (Cj h) λd z=>AM (λa=>AB n!) (λk=>?_);have⟨o,p,q,t⟩:=z k;have G:=q q!;have H:=t q!;dsimp only at o p;rw[(Aa (x:=len x-(10+c.1)) q!)];rw[(Aa (x:=len x-(10+c.1)-1) q!)];rw[(Aa (x:=17*d.1))];refine AC (λa=>AB n!) (λi=>?_);simp[len]at i;rw[(Aa (x:=10+c.1+1))];refine AA (P:=λr=>r.1=10+c.1+1+17*d.1/\r.2.1.length<=65536) ?_ λB e=>?_;refine AV (λ(s:Int×Int×List Ah×Int×Int×List Al×Bq)=>0<=s.2.1/\s.2.1<=d.1/\s.1=10+c.1+1+17*s.2.1/\s.2.2.1.length<=s.2.1) (λ(s:Int×Int×List Ah×Int×Int×List Al×Bq)=>(d.1-s.2.1).toNat) ⟨Ae _,q!,q!,k!⟩ (λs A=>?_);have⟨J,K,L,M⟩:=A;unfold Lx;refine AC (λa=>AA (Cj h) λ_ _=>AA (Cj h) λ_ _=>AA (Cj h) λ_ _=>AA (Ac w!) λS I=>?_) (λa=>AB ⟨q!,q!⟩);grind[List.length_cons,List.length_nil,Aa,AB];have N:=y.2;refine AA (Ri o!) λC u=>AM (λa=>AB λb=>absurd b a) (λm=>AA (CQ o! (by simp[len];omega) i!) λD f=>?_);have l:=f.2;simp[len]at l;exact AA (Rg o!) λE v=>AM (λa=>AB λb=>absurd b a) (λn=>AA (N1 d!) λF g=>AP (λa=>AB n!) (λa=>AB λ_=>⟨g a,e.2⟩))
def Io.data{e:AE}(h:Io e):e.2.2.2.2.2.2.2.length<=8192:=by have a:=h.2.2.2.2.2.2.2.2;grind[UA]
def ZV{x:Af}:As (Ot x) λr=>r.2.2=true->(oW r.1/\r.1.2.2.2.1.length<=65536)/\ ∃(i:Nat) (e:AE),x.2.1[i]? =some e/\e.2.1=6/\e.1=r.2.1/\DB e.2.2.2.2.2.2.2=some (r.1,0):=by
 refine AA BS λv j=>AP (λ_=>AB λc=>by cases c) (λa=>?_);have f:=j.1 a;have g:=f.2.2.1;have e:=Aa (x:=len x.2.1-1) q!;refine AA (P:=λr=> ∀u,r= .inl u->(oW u.2.2/\u.2.2.2.2.2.1.length<=65536)/\ ∃(i:Nat) (e:AE),x.2.1[i]? =some e/\e.2.1=6/\e.1=u.1/\DB e.2.2.2.2.2.2.2=some (u.2.2,0)) ?_ λr hr=>A6 (λu b=>AB λ_=>hr u b) (λ_ _=>AB λc=>by cases c);refine AV (λ(s:Int×CT)=> -1<=s.1/\s.1<x.2.1.length) (λ(s:Int×CT)=>(s.1+1).toNat) ⟨q!,q!⟩ (λs d=>?_);unfold Qy;rw[(Aa (x:=s.1-1))];refine AC (λa=>?_) (λ_=>AB λu b=>by cases b);have k:((-1<=s.1-1/\s.1-1<x.2.1.length)/\(s.1-1+1).toNat<(s.1+1).toNat):=o!
 refine AA (AI a d.2) λo l=>AM (λ_=>AB k) (λm=>AA (AI a d.2) λp h=>?_);have n:=(f.2.2.2.2.2 _ _ h.1).2.data;grind[Dx,ZT,AQ,AA,AI,AB]
def zy(x:List Ah×AE)(l:List Ah):Prop:= ∀d∈l,(d.1=x.2.2.2.2.2.2.2.1.1/\d.2.2=x.2.1)\/(d.1≠x.2.2.2.2.2.2.2.1.1/\d∈x.1)
def DG1(x:List Ah×AE)(l:List Ah):Prop:= ∀d∈l,∃c∈x.1,c.1=d.1/\c.2.2=d.2.2
def DK(x:List Ah×AE)(i:Int)(l:List Ah):Prop:= ∀(j:Nat) (d:Ah),(j:Int)<i->x.1[j]? =some d->d.1≠x.2.2.2.2.2.2.2.1.1->d∈l
def zy.snoc{x:List Ah×AE}{l m:List Ah}{d:Ah}(h:zy x l)(e:m=l++[d])(b:(d.1=x.2.2.2.2.2.2.2.1.1/\d.2.2=x.2.1)\/(d.1≠x.2.2.2.2.2.2.2.1.1/\d∈x.1)):zy x m:=by subst e;intro c a;rcases Ao.1 a with a|a;exact h c a;grind
def DG1.snoc{x:List Ah×AE}{l m:List Ah}{d:Ah}(h:DG1 x l)(e:m=l++[d])(b: ∃c∈x.1,c.1=d.1/\c.2.2=d.2.2):DG1 x m:=by subst e;intro c a;rcases Ao.1 a with a|a;exact h c a;grind
def DK.snoc{x:List Ah×AE}{l m:List Ah}{d:Ah}{i:Int}(h:DK x i l)(e:m=l++[d]):DK x i m:=λj c b a hn=>by rw[e];exact Gc _ (h j c b a hn)
def DK.next{x:List Ah×AE}{l:List Ah}{v:Ah}{i k:Int}(h:DK x i l)(d:0<=i)(f:k=i+1)(m:x.1[i.toNat]? =some v)(g:v.1≠x.2.2.2.2.2.2.2.1.1->v∈l):DK x k l:=λj c e b hn=>by by_cases a:(j:Int)<i;exact h j c a b hn;grind
def XI{x:List Ah×AE}{s:Bool×Int×List Ah}(o:x.2.2.1=7)(h:0<=s.2.1/\s.2.1<=x.1.length/\x.1.length<=1000000/\s.2.2.length<=s.2.1+1/\(s.1=false->(s.2.2.length:Int)<=s.2.1)/\DG1 x s.2.2/\DK x s.2.1 s.2.2):As (Aj (Fi x) s) λr=>(r.2.length<=x.1.length+1/\(r.1=false->r.2.length<=x.1.length))/\DG1 x r.2/\DK x x.1.length r.2:=by
 refine AV (λ(s:Bool×Int×List Ah)=>0<=s.2.1/\s.2.1<=x.1.length/\x.1.length<=1000000/\s.2.2.length<=s.2.1+1/\(s.1=false->(s.2.2.length:Int)<=s.2.1)/\DG1 x s.2.2/\DK x s.2.1 s.2.2) (λ(s:Bool×Int×List Ah)=>((x.1.length:Int)-s.2.1).toNat) h (λs i=>?_);have⟨g,t,v,w,b,c,f⟩:=i;unfold Fi;repeat' with_reducible first|intro a|apply AC|apply AP|apply AQ|apply AL|(apply A9;try dsimp only)|apply Bf|apply Bw|apply Ml|(apply BK;try dsimp only)|(apply A4;try dsimp only)|(apply A6<;>(intro u l;try subst l))|apply AB|(apply AA (Bz);intro r hr)|(refine AO ?_ (AI ?_ ?_);rintro r ⟨hr,q⟩)|(refine AO ?_ (Ac ?_);rintro r ⟨hr,p,k⟩)
 all_goals try dsimp[len]at*
 all_goals try (have e:=Aa (x:=s.2.1+1))
 all_goals try (have m:=b v!)
 all_goals (try simp only[Bo,Ba]at*)
 all_goals first
  |omega
  |exact⟨⟨o!,λh=>by have:=b h;omega⟩,c,λj d n=>f j d o!⟩
  |(exfalso;grind;done)
  |(refine⟨⟨o!,o!,o!,o!,by first|(intro h;have:=b h;omega)|(intro h;cases h),?_,?_⟩,o!⟩
    first|exact c|exact c.snoc v! (by refine⟨_,v!,?_,?_⟩<;>rfl)
    ·first|exact f.next g e v! (λhn=>absurd v! hn)|exact(f.snoc v!).next g e v! (by first|(intro hn;exact absurd v! hn)|(intro _;subst_vars;simp)))
def XJ{x:List Ah×AE}{s:Bool×Int×List Ah}(q:x.2.2.1=1\/x.2.2.1=2)(h:0<=s.2.1/\s.2.1<=x.1.length/\x.1.length<=1000000/\s.2.2.length<=s.2.1+1/\(s.1=false->(s.2.2.length:Int)<=s.2.1)/\zy x s.2.2/\DK x s.2.1 s.2.2/\(s.1=true-> ∃d∈s.2.2,d.1=x.2.2.2.2.2.2.2.1.1)):As (Aj (Fi x) s) λr=>(r.2.length<=x.1.length+1/\(r.1=false->r.2.length<=x.1.length))/\zy x r.2/\DK x x.1.length r.2/\(r.1=true-> ∃d∈r.2,d.1=x.2.2.2.2.2.2.2.1.1):=by
 refine AV (λ(s:Bool×Int×List Ah)=>0<=s.2.1/\s.2.1<=x.1.length/\x.1.length<=1000000/\s.2.2.length<=s.2.1+1/\(s.1=false->(s.2.2.length:Int)<=s.2.1)/\zy x s.2.2/\DK x s.2.1 s.2.2/\(s.1=true-> ∃d∈s.2.2,d.1=x.2.2.2.2.2.2.2.1.1)) (λ(s:Bool×Int×List Ah)=>((x.1.length:Int)-s.2.1).toNat) h (λs l=>?_);have⟨i,w,y,z,c,a,f,k⟩:=l;unfold Fi;repeat' with_reducible first|intro b|apply AC|apply AP|apply AQ|apply AL|(apply A9;try dsimp only)|apply Bf|apply Bw|apply Ml|(apply BK;try dsimp only)|(apply A4;try dsimp only)|(apply A6<;>(intro u n;try subst n))|apply AB|(apply AA (Bz);intro r hr)|(refine AO ?_ (AI ?_ ?_);rintro r ⟨hr,v⟩)|(refine AO ?_ (Ac ?_);rintro r ⟨hr,t,m⟩)
 all_goals try dsimp[len]at*
 all_goals try (have e:=Aa (x:=s.2.1+1))
 all_goals try (have o:=c v!)
 all_goals (try simp only[Bo,Ba]at*)
 all_goals first
  |omega
  |exact⟨⟨o!,λh=>by have:=c h;omega⟩,a,λj d p=>f j d o!,k⟩
  |(exfalso;grind;done)
  |(refine⟨⟨o!,o!,o!,o!,by first|(intro h;have:=c h;omega)|(intro h;cases h)|trivial,?_,?_,?_⟩,o!⟩
    first|exact a.snoc v! (by exact .inl ⟨v!,rfl⟩)|exact a.snoc v! (by exact .inr ⟨v!,v!⟩)|refine zy.snoc (zy.snoc a v! (by exact .inl ⟨rfl,rfl⟩)) v! (by exact .inr ⟨o!,v!⟩)
    ·first|exact(f.snoc v!).next i e v! (by first|(intro hn;exact absurd v! hn)|(intro _;subst_vars;simp))|exact((f.snoc v!).snoc v!).next i e v! (by intro _;subst_vars;simp)
    first|(intro h;refine(k h).elim λd g=>⟨d,by subst_vars;simp[g.1],g.2⟩)|(intro _;subst_vars;refine⟨_,Mg _ (BC.2 rfl),?_⟩;assumption)|(intro _;subst_vars;refine⟨_,Gc _ (Mg _ (BC.2 rfl)),?_⟩;rfl))
def bL{x:List Ah×AE}(h:x.1.length<=1000000):As (Gu x) λr=>r.length<=x.1.length+1/\(¬(x.2.2.1=1\/x.2.2.1=2)->x.2.2.1≠7->r=x.1)/\(x.2.2.1=7->DG1 x r/\DK x x.1.length r)/\(x.2.2.1=1\/x.2.2.1=2->zy x r/\DK x x.1.length r/\ ∃d∈r,d.1=x.2.2.2.2.2.2.2.1.1):=by
 refine AA Bz λB m=>AP (λb=>?_) (λb=>?_);have i: ¬(x.2.2.1=1\/x.2.2.1=2):=λq=>by rw[m.2 q]at b;cases b
 refine AM (λhn=>AB ⟨o!,λ_ _=>rfl,λe=>absurd e hn,λq=>absurd q i⟩) (λo=>AA (XI o ⟨Ae _,q!,h,k!,k!,by simp[DG1],λj d g=>absurd g q!⟩) λv f=>AP (λp=>AA Bz λs n=>AA (P:=λl=>l=v.2) (AL (λa=>absurd (n.1 a) i) (λ_=>AB rfl)) λl c=>AB ?_) (λ_=>AB ⟨f.1.1,λ_ q=>absurd o q,λ_=>f.2,λq=>absurd q i⟩));grind;have k:=m.1 b;refine AA (XJ k ⟨Ae _,q!,h,k!,k!,by simp[zy],λj d g=>absurd g q!,λq=>by cases q⟩) λv f=>?_;have⟨⟨s,z⟩,t,u,A⟩:=f;refine AP (λp=>AA Bz λw n=>AA (P:=λl=>l=v.2++[(x.2.2.2.2.2.2.2.1.1,(x.2.1,x.2.1))]) (AL (λa=>?_) (λa=>?_)) λl c=>AB ?_) (λy=>AB ⟨s,λq=>absurd k q,λq=>absurd q o!,λ_=>⟨t,u,A y⟩⟩);grind[AA,Ac,AB];grind;have:=z p;refine⟨q!,λq=>absurd k q,λq=>absurd q o!,λ_=>⟨t.snoc c (.inl ⟨rfl,rfl⟩),u.snoc c,_,by rw[c];exact Mg _ (BC.2 rfl),rfl⟩⟩
def uR.other{n:Int}{L:List AE}{D:List Ah}{R:List Dh}{e:AE}(h:uR n L D R)(a: ¬(e.2.1=1\/e.2.1=2)):uR n (L++[e]) D R:=by
 intro p b c;have:af p e=false:=by simp only[not_or]at a;simp[af,a.1,a.2]
 rw[O2,this,if_neg g!];exact h p b c
def uR.change{n:Int}{L:List AE}{D r:List Ah}{R:List Dh}{e:AE}(h:uR n L D R)(v:e.2.1=1\/e.2.1=2)(o: ∀p,B0 L p<e.1)(k:zy (D,e) r)(m:DK (D,e) D.length r)(u: ∃d∈r,d.1=e.2.2.2.2.2.2.1.1):uR n (L++[e]) r R:=by intro p s t;have⟨a,b⟩:=h p s t;rw[O2,(by grind[af]:af p e=(e.2.2.2.2.2.2.1.1==p))];by_cases i:e.2.2.2.2.2.2.1.1=p;rw[beq_iff_eq.2 i,if_pos rfl];refine⟨λd f c=>?_,λw g=>⟨by have:=(b w g).1;have:=o p;omega,λhn=>?_⟩⟩;rcases k d f with q|q;grind;grind;grind;rw[beq_eq_false_iff_ne.2 i,if_neg g!];refine⟨λd f c=>?_,λw g=>⟨(b w g).1,λhn=>(b w g).2 λd f c=>?_⟩⟩;rcases k d f with q|q;grind;exact a d q.2 c;have⟨j,l⟩:=Dm f;exact hn d (m j d (by have:=C0 l;omega) l (λq=>i (q.symm.trans c))) c
def uR.index{n:Int}{L:List AE}{D r:List Ah}{R:List Dh}{e:AE}{w:Dh}(h:uR n L D R)(A:e.2.1=7)(B:e.2.2.2.2.2.1=B0 L e.2.2.2.2.2.2.1.1)(y:0≤e.2.2.2.2.2.2.1.1)(k:DG1 (D,e) r)(l:DK (D,e) D.length r)(C:R[e.2.2.2.2.2.2.1.1.toNat]? =some w):
  uR n (L++[e]) r (R.set e.2.2.2.2.2.2.1.1.toNat ((if e.2.2.2.2.2.1>w.1 then e.2.2.2.2.2.1 else w.1),w.2)):=by
 refine uR.other ?_ o!;intro p s t;have⟨a,b⟩:=h p s t;refine⟨λd g f=>?_,λu i=>?_⟩;have⟨c,z,v,x⟩:=k d g;grind;by_cases o:e.2.2.2.2.2.2.1.1=p;grind;rw[Dy o!]at i;refine⟨(b u i).1,λhn=>(b u i).2 λd g f=>?_⟩;have⟨j,m⟩:=Dm g;exact hn d (l j d q! m (λq=>o (q.symm.trans f))) f
def qq{n:Int}{L:List AE}{D r:List Ah}{R:List Dh}{q:Bq×Int}{e:AE}(h:uR n L D R)(l:EOK n L e)(m: ∀p,B0 L p<e.1)
  (j:r.length<=D.length+1/\(¬(e.2.1=1\/e.2.1=2)->e.2.1≠7->r=D)/\(e.2.1=7->DG1 (D,e) r/\DK (D,e) D.length r)/\(e.2.1=1\/e.2.1=2->zy (D,e) r/\DK (D,e) D.length r/\ ∃d∈r,d.1=e.2.2.2.2.2.2.1.1))
  (k:q.2=0->q.1.length=R.length/\(e.2.1≠7->q.1=R)/\(e.2.1=7->0<=e.2.2.2.2.2.2.1.1/\ ∃w,R[e.2.2.2.2.2.2.1.1.toNat]? =some w/\q.1=R.set e.2.2.2.2.2.2.1.1.toNat ((if e.2.2.2.2.2.1>w.1 then e.2.2.2.2.2.1 else w.1),w.2)))
  (t:q.2=0):uR n (L++[e]) r q.1:=by
 have⟨_,g,f,c⟩:=j;have⟨_,u,v⟩:=k t;by_cases b:e.2.1=7;have⟨i,w,s,o⟩:=v b;rw[o];exact h.index b (l.2.1 b) i (f b).1 (f b).2 s;rw[u b];by_cases a:e.2.1=1\/e.2.1=2;exact h.change a m (c a).1 (c a).2.1 (c a).2.2;rw[g a b];exact h.other a
variable {B:Int->Prop}
def HL(l:List Al):Prop:=l.length<=64/\ ∀t∈l,t.2.2.2.2.1.length<=4097
def Xc.hl{l:List Al}(h:Xc l):HL l:=⟨h.1,λt b=>by have⟨i,a⟩:=D7.1 b;have:=(h.2 i t a).1;omega⟩
def HL.set{l:List Al}{i:Nat}{n:Al}(h:HL l)(hn:n.2.2.2.2.1.length<=4097):HL (l.set i n):=⟨by rw[bg];exact h.1,λt a=>by rcases Px a with q|q;exact h.2 t q;rw[q];exact hn⟩
def HL.rm{l:List Al}{id:Int}(h:HL l):HL (zk l id):=⟨by have:=lQ l id;have:=h.1;omega,λt a=>h.2 t (BM.1 a).1⟩
def Xc.lens{l:List Al}{i:Nat}{t:Al}(h:Xc l)(a:l[i]? =some t):t.2.2.2.2.1.length<=4096:=(h.2 i t a).1
def ACL{x:List Al×AE}:As (GG x) λr=>r.2=0->HL r.1:=by refine AA Do λz j=>AP (λb=>AB n!) (λb=>?_);have c:=j b;have n:=c.1;refine AA CL λA y=>AP (λb=>AB n!) (λ_=>AQ (λb=>AB λ_=>c.hl) (λp=>AA (Ht q!) λB g=>AC (λb=>AB n!) (λo=>AA (AI o! g.2.1) λC m=>?_)));have f:=c.lens m.1;refine AM (λb=>AB n!) (λ_=>AA (P:=λs=>(∃u,s= .inl u/\u.2.2.2.2.1.length<=4097)\/ ∃u,s= .inr u/\(u.2=0->HL u.1)) ?_ λs h=>?_);refine AQ (λ_=>?_) (λ_=>?_);grind[AA,Ac,AB];refine AA (P:=λs=>(∃u,s= .inr u/\u.2.2.2.2.1.length<=4097)\/ ∃u,s= .inl u/\(u.2=0->HL u.1)) (AQ (λ_=>AA (Qx ⟨Ae _,q!,f,k!⟩) λq k=>AQ (λ_=>AB (.inr ⟨_,rfl,n!⟩)) (λ_=>AB (.inl ⟨_,rfl,q!⟩))) (λ_=>AQ (λ_=>AB (.inl ⟨_,rfl,q!⟩)) (λ_=>AA (I5 q!) λt d=>AB (.inr ⟨_,rfl,λ_=>by rw[d];exact c.hl.rm⟩)))) λs h=>?_;grind[A4,AB,BK];rcases h with⟨u,rfl,i⟩|⟨u,rfl,i⟩;refine BK (AA (M2 o!) λv l=>AA (LR q! ⟨q!,g.2.1⟩) λw e=>AB λ_=>?_);rw[e];exact c.hl.set q!;exact A4 (AB i)
def AN(n c:Int)(L:List AE)(m:Nat)(a:Cf):Prop:=a.1=n/\HL a.2.2.2.1/\a.2.2.2.2.2.1.length<=m/\a.2.2.1=c/\uR n L a.2.2.2.2.2.1 a.2.2.2.2.2.2
def dV{x:Cf×AE}{n c:Int}{L:List AE}{m:Nat}(h:AN n c L m x.1)(f:m<=1000000)(d:EOK n L x.2)(e: ∀p,B0 L p<x.2.1):As (MP x) λr=>r.2=0->AN n c (L++[x.2]) (m+1) r.1:=by
 unfold MP;have⟨a1,a2,a3,a5,a6⟩:=h;have a4:=a2.1;repeat' with_reducible first|apply AC<;>intro b|apply AM<;>intro b|apply AL<;>intro b|(apply A9;try dsimp only)|apply Bf|apply Bw|apply Ml|(apply BK;try dsimp only)|(apply A4;try dsimp only)|apply AB|(apply AA ACL;intro r hr)|(refine AO ?_ (FW ?_);intro r hr)|(apply AA (Sv);intro r hr)|(apply AA (Tn);intro r hr)|(apply AA (Bz);intro r hr)|(refine AO ?_ (bL ?_);intro r hr)
 all_goals try dsimp[len]at*
 all_goals first|omega|(intro a;exact absurd a v!)|(intro a;exact absurd a g!)|(intro _;unfold AN;refine⟨by first|assumption|grind,q!,by first|omega|grind,by first|assumption|grind,?_⟩;exact qq a6 d e v! v! v!)|grind
def UQ{x:Int}:As (NR x) λr=> ∀w∈r.1,w.1=0:=by refine AC (λ_=>AB k!) (λ_=>AC (λ_=>AB k!) (λ_=>?_));grind[AA,u5,AB]
def bO{x:Af×Int}(n:Dg x.1)(u:x.1.1=1)(m:LI x.2 x.1.2.1):As (PW x) λr=>r.2=0-> ∃k:Nat,k<=x.1.2.1.length/\AN x.2 k (x.1.2.1.take k) 65536 r.1:=by
 refine AA ZV λv j=>AP (λ_=>?_) (λb=>?_);refine AC (λb=>AB n!) (λ_=>AA UQ λy l=>AB λ_=>⟨0,Bi _,rfl,⟨k!,λt o=>by simp at o⟩,k!,rfl,λp _ _=>⟨k!,λw q=>by have:=l w (BP q);exact⟨by rw[this];exact Ae _,λ_=>this⟩⟩⟩)
 have⟨⟨d,f⟩,i,e,a,g,s,h⟩:=j b;refine AM (λb=>AB n!) (λhn=>AB λ_=>⟨i+1,C0 a,rfl,d.2.2.1.hl,f,?_,?_⟩);have:=(n.2.2.2.2.2 i e a).1;grind;rw[Ct,a];exact((m i e a).2.2 g _ h hn).other o!
def dU{x:Ar×Ar}:As (FG x) λr=>True:=by exact AM (λ_=>AB trivial) (λ_=>AM (λ_=>AB trivial) (λ_=>AB trivial))
def X5{x:List Ar×Ar}{s:Int}(h:0<=s/\s<=x.1.length/\(x.1.length:Int)<=16777216):As (Aj (N2 x) s) λr=>0<=r/\r<=x.1.length:=by
 refine AV (λ(s:Int)=>0<=s/\s<=x.1.length/\(x.1.length:Int)<=16777216) (λ(s:Int)=>((x.1.length:Int)-s).toNat) h (λs a=>?_);unfold N2;exact x!
def dW{x:List Ar×Ar}(h:x.1.length<=1000000):As (QJ x) λr=>r.length<=x.1.length+1:=by
 refine AA (X5 ⟨Ae _,o!⟩) λp d=>?_;have a:As (Option.bind (X8 x.1 0 p) λb=>
 Option.bind (X8 x.1 p (len x.1)) λc=>
 Option.bind (app [] b) λe=>
 Option.bind (app e ([x.2]:List (Int×((Int×Int)×Int)))) λf=>
 Option.bind (app f c) λg=>
 some g) λr=>r.length<=x.1.length+1:=by refine AA (Bb (Ae _) d.1 d.2) λb i=>AA (Bb d.1 q! q!) λc j=>?_;grind[AA,Ac,AB]
 refine AC (λk=>?_) (λ_=>a);exact AA (AI d.1 k) λl _=>AL (λ_=>AB o!) (λ_=>a)
def bM{x:Af×List Al}(h:HL x.2):As (La x) λr=>r.1.length<=262208:=by unfold La;have k:=h.1;refine AA (P:=λr=>(∀u,r= .inl u->u.1.length<=262208)/\ ∀u,r= .inr u->u.length<=262208) ?_ λr hr=>A6 (λu a=>AB (hr.1 u a)) (λu a=>AB (hr.2 u a));refine AV (λ(s:List Ar×Int)=>0<=s.2/\s.2<=x.2.length/\s.1.length<=4097*s.2) (λ(s:List Ar×Int)=>((x.2.length:Int)-s.2).toNat) ⟨Ae _,q!,k!⟩ (λs d=>?_);have⟨f,m,n⟩:=d;unfold Rn;rw[(Aa (x:=s.2+1))];refine AC (λb=>?_) (λ_=>AB ⟨λu a=>(by cases a),λu a=>q!⟩);simp[len]at b;have⟨t,i,j⟩:=AI (l:=x.2) f b;have v:=h.2 t j.2;refine AA (P:=λr=>(∀u,r= .inl u->u.1.length<=262208)/\ ∀u,r= .inr u->u.length<=4097*(s.2+1)) ?_ λr hr=>?_;refine AV (λ(q:List Ar×Int)=>0<=q.2/\q.2<=t.2.2.2.2.1.length/\q.1.length<=4097*s.2+q.2) (λ(q:List Ar×Int)=>((t.2.2.2.2.1.length:Int)-q.2).toNat) ⟨Ae _,q!,q!⟩ (λq e=>?_);have⟨g,o,p⟩:=e;unfold Ro;rw[i];apply A9;rw[(Aa (x:=q.2+1))];refine AC (λb=>?_) (λ_=>AB ⟨λu a=>(by cases a),λu a=>q!⟩);simp[len]at b;refine A9 (AA (AI g b) λw _=>AA Gr λy _=>AM (λ_=>AB ⟨λu a=>q!,λu a=>(by cases a)⟩) (λ_=>AM (λ_=>AB ⟨λu a=>(by cases a;simp),λu a=>(by cases a)⟩) (λ_=>A9 (AM (λ_=>AB ⟨λu a=>(by cases a;simp),λu a=>(by cases a)⟩) (λ_=>AA (dW q!) λz c=>AB ?_)))));dsimp only at c;exact⟨⟨q!,o!,d!⟩,o!⟩;grind[A6,AB]
def X4{x:Af×Int}(c:Dg x.1)(M:x.1.1=1)(G:LI x.2 x.1.2.1):As (Jh x) λr=>r.2=0->r.1.1=x.2/\HL r.1.2.2.2.1/\r.1.2.2.2.2.1.length<=262208/\r.1.2.2.2.2.2.1.length<=70000/\uR x.2 x.1.2.1 r.1.2.2.2.2.2.1 r.1.2.2.2.2.2.2:=by
 unfold Jh;refine AA BS λv Q=>AP (λ_=>AB n!) (λa=>?_);have O:=Q.1 a;have H:=O.2.2.1;refine AC (λ_=>AB n!) (λ_=>AC (λ_=>AB n!) (λ_=>AA (bO c M G) λv1 I=>AM (λa=>AB λb=>absurd b a) (λD=>?_)));have⟨k,N,K⟩:=I D;refine AA (P:=λr=>(∀u,r= .inl u->u.1≠0)/\ ∀u,r= .inr u->AN x.2 k x.1.2.1 70000 u.1) ?_ λr hr=>A6 (λu d=>AB λb=>absurd b (hr.1 u d)) (λu d=>?_);refine AV (λ(s:Int×Cf×Cf)=>0<=s.1/\s.1<=x.1.2.1.length/\AN x.2 k (x.1.2.1.take (max k s.1.toNat)) (65536+s.1.toNat) s.2.1) (λ(s:Int×Cf×Cf)=>((x.1.2.1.length:Int)-s.1).toNat) ⟨Ae _,d!,by simpa using K⟩ (λs z=>?_);have⟨m,R,f⟩:=z;unfold QH;have e:=Aa (x:=s.1+1);rw[e];refine AC (λa=>?_) (λ_=>AB ⟨λu d=>(by cases d),λu d=>?_⟩);simp[len]at a;have en:(s.1+1).toNat=s.1.toNat+1:=o!
 refine AA (AI m a) λv3 J=>?_;have n3:=(c.2.2.2.2.2 _ _ J.1).1;refine AC (λB=>AB ⟨⟨d!,d!,?_⟩,d!⟩) (λB=>?_);have⟨q1,q2,q3,q4,q5⟩:=f;have n:max k (s.1+1).toNat=max k s.1.toNat:=o!
 exact⟨q1,q2,d!,q4,by dsimp only;rw[n];exact q5⟩;have q4:=f.2.2.2.1;have n:max k s.1.toNat=s.1.toNat:=o!
 rw[n]at f;refine AA (AI m a) λZ F=>?_;have i:x.1.2.1.take (max k (s.1+1).toNat)=x.1.2.1.take s.1.toNat++[Z]:=by grind[List.take_add_one]
 refine AA (dV f o! (G _ _ F.1) λp=>?_) λv5 h5=>?_;have n4:=(c.2.2.2.2.2 _ _ F.1).1;refine km _ _ d! λe L=>?_;have⟨j,A⟩:=Dm L;have C:=C0 A;rw[BR]at C;rw[JQ o!]at A;have:=(c.2.2.2.2.2 j e A).1;dsimp only;omega;grind[AM,AB];cases d;have⟨q1,q2,q3,q4,q5⟩:=f;simp[len]at*;rw[BQ o!]at q5;exact⟨q1,q2,o!,q4,q5⟩;have⟨q1,q2,q3,_,q5⟩:=hr.2 u d;have S:=q2.1;refine AA (P:=λl=>HL l) ?_ λX h=>?_;refine AV (λ(s:Int×List Al)=>0<=s.1/\s.1<=u.1.2.2.2.1.length/\s.2.length<=s.1/\ ∀t∈s.2,t.2.2.2.2.1.length<=4097) (λ(s:Int×List Al)=>((u.1.2.2.2.1.length:Int)-s.1).toNat) ⟨Ae _,d!,k!,λt i=>by simp at i⟩ (λs z=>?_);have⟨m,R,f,E⟩:=z;unfold QI;have e:=Aa (x:=s.1+1);rw[e];refine AC (λa=>?_) (λ_=>AB ⟨o!,E⟩);simp[len]at a;refine AA (AI m a) λT _=>AA (P:=λl=>l.length<=s.2.length+1/\ ∀t∈l,t.2.2.2.2.1.length<=4097) ?_ λW g=>AB ⟨⟨d!,d!,by have:=g.1;dsimp only;omega,g.2⟩,d!⟩;refine AC (λ_=>AA (AI m a) λU o=>AA (Ac w!) λV q=>AB ⟨?_,λt i=>?_⟩) (λ_=>AB ⟨o!,E⟩);grind;rw[q.1]at i;rcases Ao.1 i with w|w;exact E t w;simp at w;rw[w];exact q2.2 _ o.2;exact AA (bM h) λY y=>AM (λa=>AB λb=>absurd b a) (λb=>AB λ_=>⟨q1,h,y,q3,q5⟩)
def UP{x:Int}:As (J5 x) λr=>r.1.2.1=[]:=by
 unfold J5;exact x!
def bP{x:Af×Cf×Int}(t:Dg x.1)(h:HL x.2.1.2.2.2.1/\x.2.1.2.2.2.2.1.length<=262208/\x.2.1.2.2.2.2.2.1.length<=70000)(q:LI x.2.1.1 x.1.2.1)(e:uR x.2.1.1 x.1.2.1 x.2.1.2.2.2.2.2.1 x.2.1.2.2.2.2.2.2):As (Lb x) λr=>r.2=0->r.1.1=x.2.1.1/\SK B r.1/\Dg r.1.2.2.1/\LX x.1 r.1.2.2.1:=by
 unfold Lb;have⟨a1,a2,a3⟩:=h;have a4:=a1.1;refine AA UP λj f=>AM (λ_=>AB n!) (λ_=>?_);have k:SK B (x.2.1.1,(x.2.1.2.1,(x.1,(j.1,((x.2.1.2.2.2.2.1,[]),(x.2.1.2.2.2.1,(x.2.1.2.2.2.2.2.2,x.2.1.2.2.2.2.2.1))))))):=⟨⟨q!,k!⟩,q!,q!,q,λp g i=>⟨q!,(e p g i).1,λw l=>⟨((e p g i).2 w l).1,λhn _=>((e p g i).2 w l).2 hn⟩⟩,by unfold FD;dsimp only;rw[f];simp⟩
 refine AA (B9 k.sb) λy _=>AP (λ_=>AB n!) (λ_=>AA (P:=λr=>(∀u,r= .inl u->u.1≠0)/\ ∀u,r= .inr u->KL B (x.2.1.1,(x.2.1.2.1,(x.1,(j.1,((x.2.1.2.2.2.2.1,[]),(x.2.1.2.2.2.1,(x.2.1.2.2.2.2.2.2,x.2.1.2.2.2.2.2.1))))))) u.1) ?_ λr hr=>A6 (λu a=>AB λb=>absurd b (hr.1 u a)) (λu a=>AB λ_=>?_));refine AV (λ(s:Int×AU×AU)=>0<=s.1/\s.1<=x.2.1.2.2.2.1.length/\KL B (x.2.1.1,(x.2.1.2.1,(x.1,(j.1,((x.2.1.2.2.2.2.1,[]),(x.2.1.2.2.2.1,(x.2.1.2.2.2.2.2.2,x.2.1.2.2.2.2.2.1))))))) s.2.1) (λ(s:Int×AU×AU)=>((x.2.1.2.2.2.1.length:Int)-s.1).toNat) ⟨Ae _,q!,KL.refl k t⟩ (λs o=>?_);have⟨m,v,d⟩:=o;unfold Rp;rw[(Aa (x:=s.1+1))];refine AC (λc=>?_) (λ_=>AB ⟨λu a=>(by cases a),λu a=>q!⟩);simp[len]at c;refine AA (AI m c) λz _=>AQ (λ_=>AB ⟨⟨q!,o!,d⟩,o!⟩) (λ_=>AA (AI m c) λA _=>AA (Fq d.2.2.1.sb) λC n=>AM (λc=>AB ⟨λu a=>(by cases a;exact c),λu a=>(by cases a)⟩) (λb=>AB ⟨⟨o!,o!,d.trans ((n b).2.1.kl d.2.2.1 u!)⟩,o!⟩));have:=hr.2 u a;exact⟨this.1,this.2.2.1,this.2.2.2,this.2.1⟩
end Go.Pm
namespace Go.Pm
open Go Go.Ab
set_option maxHeartbeats 400000
variable {B:Int->Prop}
def dc{x:AW×Int×Cs}(h:SK B x.1.1)(p:Dg x.1.1.2.2.1)(o:DJ B x.1.1.2.2.1 x.1.2):As (MU x) λr=>SR B x.1 r.1/\(r.2.1≠0->TP r.1.1.2.2.2.2.2.1<TP x.1.1.2.2.2.2.2.1):=by
 unfold MU;refine AA (P:=λr=>SR B x.1 r.2.2/\(r.1≠0->TP r.2.2.1.2.2.2.2.2.1<TP x.1.1.2.2.2.2.2.1)) ?_ λr hr=>AB hr;refine AV (λ(s:Int×AW×AW)=>SR B x.1 s.2.1/\TP s.2.1.1.2.2.2.2.2.1<=TP x.1.1.2.2.2.2.2.1/\(s.1≠0->TP s.2.1.1.2.2.2.2.2.1<TP x.1.1.2.2.2.2.2.1)) (λ(s:Int×AW×AW)=>2*TP s.2.1.1.2.2.2.2.2.1+flag (¬j9 s.2.1.1.2.2.2.1 x.2.2.1)) ⟨⟨KL.refl h p,o⟩,Aq _,λe=>absurd rfl e⟩ (λs d=>?_);obtain⟨d,v,j⟩:=d;have k:=d.1.2.2;unfold S1;refine AA (dR k.1 k.2) λw n=>?_;obtain⟨k1,q,t⟩:=n;refine AQ (λ_=>AB ⟨d,j⟩) (λm=>AA (P:=λr=>(∃u,r= .inl u/\u.1=s.1/\u.2.2=s.2.1)\/ ∃u,r= .inr u/\SR B s.2.1 u.2.1/\(TP u.2.1.1.2.2.2.2.2.1<TP s.2.1.1.2.2.2.2.2.1\/(u.1=s.1/\TP u.2.1.1.2.2.2.2.2.1=TP s.2.1.1.2.2.2.2.2.1/\j9 u.2.1.1.2.2.2.1 x.2.2.1/\ ¬j9 s.2.1.1.2.2.2.1 x.2.2.1))) ?_ λr hr=>?_);apply AQ<;>intro l;obtain⟨a,b,c⟩:=q l;refine AA (HT k.1 d.2) λy i=>AM (λ_=>AB (.inl ⟨_,rfl,rfl,rfl⟩)) (λe=>AB (.inr ⟨_,rfl,(i e).1.sr,.inr ⟨rfl,?_,?_,b⟩⟩));have:=(i e).1.1.2.2.2.2.1;exact congrArg TP this;have:=(i e).2;rw[a]at this;exact this;refine AQ (λ_=>AB (.inl ⟨_,rfl,rfl,rfl⟩)) (λc0=>AB (.inr ⟨_,rfl,⟨k1,d.2.up k1.2.1⟩,.inl (t l m c0)⟩));rcases hr with⟨u,rfl,g⟩|⟨u,rfl,g⟩;refine BK (AB ?_);dsimp only;rw[g.1,g.2];exact⟨d,j⟩;refine A4 (AB ?_);obtain⟨q1,q2⟩:=g;rcases q2 with q2|⟨q2,q3,q4,q5⟩;have f:=yC (¬j9 u.2.1.1.2.2.2.1 x.2.2.1);exact⟨⟨d.trans q1,o!,λ_=>o!⟩,by first|omega|(dsimp only;omega)⟩;refine⟨⟨d.trans q1,o!,λe=>by rw[q3];exact j (by rw[<-q2];exact e)⟩,?_⟩;try dsimp only
 rw[tM q5,tL (λh=>h q4),q3];omega
def Rq{x:AU×Int}(h:SB x.1):As (Hw x) λr=>True:=by unfold Hw;refine AA (B9 h) λv c=>AA (P:=λ_=>True) ?_ λr _=>A6 (λ_ _=>AB trivial) (λ_ _=>AB trivial);refine AL (λ_=>?_) (λ_=>AB trivial);refine AA (FW h.2.1) λd a=>AC (λb=>?_) (λ_=>AB trivial);refine AA (AI b a.2.1) λ_ _=>AQ (λ_=>?_) (λ_=>AB trivial);exact AA (AI b a.2.1) λ_ _=>AB trivial
def X7{x:AU}{s:Int×List Int}(h:0<=s.1/\s.1<=x.2.2.2.2.2.1.length/\x.2.2.2.2.2.1.length<=16777216/\s.2.length<=s.1/\SB x):As (Aj (N3 x) s) λr=>True:=by
 refine AV (λ(s:Int×List Int)=>0<=s.1/\s.1<=x.2.2.2.2.2.1.length/\x.2.2.2.2.2.1.length<=16777216/\s.2.length<=s.1/\SB x) (λ(s:Int×List Int)=>((x.2.2.2.2.2.1.length:Int)-s.1).toNat) h (λs c=>?_);unfold N3;exact x!
def dX{x:AU}(h:SK B x):As (MQ x) λr=>True:=by unfold MQ;exact AA (X7 ⟨Ae _,d!,h.2.1,k!,h.sb⟩) λ_ _=>AB trivial
def Vl{x:AU×Int}{c:Ar×Bool}{a:List Int}{s:Int×Cs}(h:0<=s.1/\s.1<=a.length/\a.length<=16777216/\SB x.1):As (Aj (Kz x c a) s) λr=>True:=by
 refine AV (λ(s:Int×Cs)=>0<=s.1/\s.1<=a.length/\a.length<=16777216/\SB x.1) (λ(s:Int×Cs)=>((a.length:Int)-s.1).toNat) h (λs d=>?_);unfold Kz;exact x!
def X6{x:AU×Int}(h:SK B x.1):As (Ji x) λr=>True:=by unfold Ji;refine AA (IJ h.1) λb _=>AP (λ_=>AB trivial) (λ_=>AA (LN h.1) λc a=>AA (Vl ⟨Ae _,d!,o!,h.sb⟩) λr _=>A6 (λ_ _=>AB trivial) (λ_ _=>AB trivial))
def gM{x:AW×Int×Cw}(h:SK B x.1.1)(k:Dg x.1.1.2.2.1)(j:DJ B x.1.1.2.2.1 x.1.2):As (Ow x) λr=>SR B x.1 r.1:=by unfold Ow;refine AA (P:=λr=>SR B x.1 r.1) ?_ λr hr=>AB hr;refine AV (λ(s:AW×AW×BW)=>SR B x.1 s.1) (λ(s:AW×AW×BW)=>TP s.1.1.2.2.2.2.2.1) ⟨KL.refl h k,j⟩ (λs c=>?_);have g:=c.1.2.2;unfold UX;refine AA (gL g.1 g.2 c.2) λm e=>?_;have b:=c.trans e.1;have a:=b.1.2.2;refine AM (λ_=>AB b) (λi=>?_);have l:=e.2 i;refine AA (X6 a.1) λn _=>AP (λ_=>AB b) (λ_=>AA (dc a.1 a.2 b.2) λo f=>?_);have d:=b.trans f.1;refine AM (λ_=>?_) (λ_=>?_);exact AA Bx λp _=>AB d;refine AQ (λ_=>AB d) (λc0=>AB ⟨d,?_⟩);have:=f.2 c0;dsimp only at*;rw[l]at this;exact this
def db{x:AW}(h:SK B x.1)(p:Dg x.1.2.2.1)(g:DJ B x.1.2.2.1 x.2):As (MS x) λr=>r.2.2=0->SR B x r.1:=by
 unfold MS;refine AA (B9 h.sb) λv H=>AP (λ_=>AB n!) (λc=>AC (λc=>?_) (λ_=>?_));simp only[len]at c;refine AA (AI (Ae _) c) λJ _=>AA (HT h g) λK y=>AB λa=>(y a).1.sr;refine AA (dX h) λF _=>AQ (λ_=>AB λ_=>⟨KL.refl h p,g⟩) (λk=>?_);simp only[len]at k;refine AA (P:=λr=>r.2.1=0->SR B x r.2.2) ?_ λr hr=>AB hr;obtain⟨id,t,G⟩:=(AI (l:=F) (i:=0) (Ae _))
 refine AV (λ(s:AW×AW)=>SR B x s.1) (λ(s:AW×AW)=>flag (∃e,NX s.1.1 id e/\ ¬j9 s.1.1.2.2.2.1 e.2.2.2.2.2.2.1.1)) ⟨KL.refl h p,g⟩ (λs b=>?_);have j:=b.1.2.2;unfold S0;rw[t];apply A9;refine AA (Tq j.1 j.2) λL A=>?_;obtain⟨k1,C,I,D⟩:=A;refine AQ (λz=>AB λa=>absurd a (D z)) (λ_=>AM (λ_=>AB λ_=>⟨b.1.trans k1,b.2.up k1.2.1⟩) (λq=>?_));obtain⟨e,n,u,w⟩:=C q;refine AA (HT j.1 b.2) λM o=>AM (λc=>AB λa=>absurd a c) (λa=>AB ⟨b.trans (o a).1.sr,?_⟩);obtain⟨m,d⟩:=o a;have E:=m.1.2.2.2.2.1;rw[tM (⟨e,n,w⟩: ∃e,NX s.1.1 id e/\ ¬j9 s.1.1.2.2.2.1 e.2.2.2.2.2.2.1.1),tL];omega;rintro⟨f,q1,q2⟩;have:=n.uniq q1 E m.1.2.1;subst this;dsimp only at d;rw[u]at d;exact q2 d
end Go.Pm
namespace Go.Pm
open Go Go.Ab
set_option maxHeartbeats 400000
def runN{S R:Type}(f:S->Option (Step S R)):Nat->S->Option R
 |0,_=>none
 |n+1,s=>
  match f s with
  |some (.next s')=>runN f n s'
  |some (.done r)=>some r
  |none=>none
def uI{S R:Type}{f:S->Option (Step S R)}{r:R}: ∀{n:Nat} {s:S},runN f n s=some r->Aj f s=some r
 |0,s,h=>by cases h
 |n+1,s,h=>by simp only[runN]at h;rw[G5];split at h;rename_i b e;rw[e];exact uI h;rename_i a e;rw[e];exact h;cases h
def TH:BY:=[80,77,76,71,1,0,0,0,0,0,0,0]
def ADS:Ak (([80,77,76,71]:List UInt8),(1,8))=some TH:=by rw[(by kernel_rfl:Ak (([80,77,76,71]:List UInt8),(1,8))=Option.bind (Aj (GR (([80,77,76,71]:List UInt8),(1,8))) (([80,77,76,71]:List UInt8),0)) λa=>some a),uI (n:=10) (r:=TH) (by kernel_rfl)];rfl
def AC3:Ay (TH,(4,8))=some (1,0):=by rw[(by kernel_rfl:Ay (TH,(4,8))=Option.bind (Aj (GQ (TH,(4,8))) (0,0)) λa=>some ((wi a),0)),uI (n:=10) (r:=1) (by kernel_rfl)];rfl
def jn(a b:List AE):KB (a++b)=KB a++KB b:=by grind[KB]
def AEu:MG 1=some (HM TH):=by unfold MG;rw[ADS,AD,Zj g!,AD]
def AC0{e:AE}(h:Io e):IX e=some (HM (B4 e)):=by grind[IX,nC,Zj,RU]
def Dg.ent{l:Af}(h:Dg l){e:AE}(a:e∈l.2.1):Io e:=by have⟨k,b⟩:=D7.1 a;exact(h.2.2.2.2.2 k e b).2
def ACi{l:Af}{a:Int}(h:Dg l)(D:l.1=1):As (Gq (l,a)) λr=> ∃m:Nat,r=HM TH++(KB (l.2.1.take l.2.2.toNat)++(KB (l.2.1.drop l.2.2.toNat)).take m):=by
 have O:=h.2.2.1;have Q:=h.2.2.2.1;have R:=h.2.2.2.2.1;have b: ∀k:List AE,(∀e∈k,e∈l.2.1)->(KB k).length<=8400*k.length:=λk w=>oH λe d=>h.ent (w e d);have⟨v,H,g⟩:=BS (x:=l);have g:=g.2 h;subst g;unfold Gq;dsimp only;rw[H,AD,Cm,cond_false,D,AEu,AD];refine AA (P:=λr=>r=(HM TH++KB (l.2.1.take l.2.2.toNat),KB (l.2.1.drop l.2.2.toNat))) ?_ λK o=>?_
 ·refine Cv (λ(s:BY×BY×Int)=> ∃k:Nat,k<=l.2.1.length/\s=(HM TH++KB ((l.2.1.take k).take l.2.2.toNat),(KB ((l.2.1.take k).drop l.2.2.toNat),(k:Int)))) (λs=>l.2.1.length-s.2.2.toNat) ⟨0,Bi _,by simp[KB]⟩ ?_;rintro s ⟨k,w,rfl⟩;unfold Rc;dsimp[len];refine AC (λB=>?_) (λB=>As.done (by rw[BQ (l:=l.2.1) (i:=k) o!]));have f:k<l.2.1.length:=o!
  have I:ix l.2.1 (k:Int)=some l.2.1[k]:=by unfold ix;rw[if_pos o!,Int.toNat_natCast,List.getElem?_eq_getElem f]
  have j:=h.2.2.2.2.2 k _ (Au f);have t:l.2.1.take (k+1)=l.2.1.take k++[l.2.1[k]]:=t!
  have E:(l.2.1.take k).length=k:=q!
  have y:(HM TH++KB ((l.2.1.take k).take l.2.2.toNat)).length<=40000000:=by
   have:=b ((l.2.1.take k).take l.2.2.toNat) λe d=>Fl (Fl d);have c:(HM TH).length=20:=by rw[Ef];rfl
   grind[List.length_append,List.length_take]
  have z:(KB ((l.2.1.take k).drop l.2.2.toNat)).length<=40000000:=q!
  have C:=RU j.2;rw[I,AD,AD,AD,AC0 j.2,AD,AD,Aa (x:=(k:Int)+1)];refine AA (P:=λr=>r=(HM TH++KB ((l.2.1.take (k+1)).take l.2.2.toNat),KB ((l.2.1.take (k+1)).drop l.2.2.toNat))) ?_ λJ n=>?_;apply AC<;>intro S;have q:k+1<=l.2.2.toNat:=o!
  refine AA (CA (by rw[Ef];omega)) λN u=>AB ?_;grind[List.drop_of_length_le,List.length_take,List.take_of_length_le,RW,List.append_assoc];have q:l.2.2.toNat<=k:=o!
  refine AA (CA (by rw[Ef];omega)) λN u=>AB ?_;rw[u.1,t,bj o!,lu o!,RW]
  ·rw[n];exact As.next ⟨k+1,f,by rw[show(k:Int)+1=((k+1:Nat):Int) by omega]⟩ d!
 subst o;dsimp[len];have A: ∃m:Nat,(if(((KB (l.2.1.drop l.2.2.toNat)).length:Int)<(if(0>a)then 0 else a))then((KB (l.2.1.drop l.2.2.toNat)).length:Int)else(if(0>a)then 0 else a))=(m:Int)/\m<=(KB (l.2.1.drop l.2.2.toNat)).length:=by refine⟨(if(((KB (l.2.1.drop l.2.2.toNat)).length:Int)<(if(0>a)then 0 else a))then((KB (l.2.1.drop l.2.2.toNat)).length:Int)else(if(0>a)then 0 else a)).toNat,?_,?_⟩;split<;>split<;>omega;split<;>split<;>omega
 have⟨m,F,G⟩:=A;rw[F];refine AA (CQ (Ae _)) λL c=>?_;have y:(HM TH++KB (l.2.1.take l.2.2.toNat)).length<=40000000:=by
  have:=b (l.2.1.take l.2.2.toNat) λe d=>Fl d;have c:(HM TH).length=20:=by rw[Ef];rfl
  rw[Ag];rw[BR]at this;omega
 have z:(KB (l.2.1.drop l.2.2.toNat)).length<=40000000:=by have:=b (l.2.1.drop l.2.2.toNat) λe d=>OT d;rw[FJ]at this;omega
 refine AA (CA (by have:=c.2;omega)) λM p=>AB ⟨m,?_⟩;rw[p.1,c.1,A2];simp
def AFg{n:Nat}(h:n<=8392):Zk 4 (n:Int):=⟨λ_=>q!,o!⟩
def AC2{p q s t:BY}(d:p.length<=8392)(e:q.length<=8392)(h:HM p++s=HM q++t):p=q/\s=t:=by
 have c:p.length=q.length:=by have a:=h;unfold HM at a;simp at a;have:=(EO a (by rw[A0,A0])).1;have:=WL g! (AFg d) (AFg e) this;omega
 have⟨b,f⟩:=EO h (by rw[Ef,Ef,c]);have g:=(EO b q!).2;grind[List.append_inj]
def AE4{b:List AE}{t y z:BY}{d:Nat}(hn:b.length<=4096)(D: ∀(i:Nat) (e:AE),b[i]? =some e->e.1=1+i/\Io e)(G:t++y=KB b)(M:t=KB (b.take d)++z):As (JE (HM TH++t)) λr=>r.2=0-> ∃k:Nat,k<=b.length/\min d b.length<=k/\r.1=(1,(b.take k,(k:Int))):=by
 have S:=oH (l:=b) λe A=>by obtain⟨k,m⟩:=D7.1 A;exact(D k e m).2
 have U:t.length<=40000000:=by have:=congrArg List.length G;rw[Ag]at this;omega
 have C:(HM TH).length=20:=by rw[Ef];rfl
 have W:(HM TH++t).length<=50000000:=by rw[Ag];omega
 unfold JE;have o:BZ (HM TH++t,0)=some (TH,(20,0)):=by refine(R6 (a:=[]) (t:=HM TH++t) w!).trans (congrArg some ?_);rw[jN g!];rfl
 rw[o,AD];dsimp only;rw[show((0:Int) !=0)=false by decide,cond_false,show(len TH !=12)=false by decide,cond_false,show RF TH 0 4=some [80,77,76,71]from rfl,AD,bne_self_eq_false,cond_false,AC3,AD];dsimp only;rw[decide_eq_false g!,cond_false,decide_eq_false g!,cond_false,show wi ((1:Int)-1)=0 from rfl];refine AA (P:=λr=> ∃k:Nat,k<=b.length/\min d b.length<=k/\((∃u,r= .inl u/\u.2=(1,(b.take k,(k:Int))))\/ ∃u,r= .inr u/\(u.2.1,(u.1,u.2.2.1))=(1,(b.take k,(k:Int))))) ?_ λr hr=>?_
 ·refine Cv (λ(s:Int×List AE×Int×Int×Af)=> ∃(k:Nat) (z:Af) (c:BY),k<=b.length/\s=(((HM TH++KB (b.take k)).length:Int),(b.take k,(1,((k:Int),z))))/\t=KB (b.take k)++c) (λs=>b.length-s.2.1.length) ⟨0,(0,([],0)),t,Bi _,by simp[KB,C],by simp[KB]⟩ ?_;rintro s ⟨k,z,c,m,rfl,hr⟩;have E:(b.take k).length=k:=by rw[BR];omega
  have H:k<min d b.length-> ∃p R,p.length<=8392/\c=HM p++R:=λn=>by
   have g:k<b.length:=o!
   have N:b.take d=b.take (k+1)++(b.take d).drop (k+1):=by
    conv=>lhs;rw[<-Di (k+1) (b.take d)]
    rw[Kk,P2 o!]
   have O:b.take (k+1)=b.take k++[b[k]]:=by rw[Ct,Au g];rfl
   rw[N,O,jn,RW,A2,A2]at M;exact⟨_,_,RU (D k _ (Au g)).2,(EO (hr.symm.trans M) rfl).2⟩
  unfold Ss;dsimp only[len];refine AC (λQ=>?_) (λQ=>As.done ⟨k,m,Nat.le_of_not_lt λn=>?_,.inr ⟨_,rfl,rfl⟩⟩);rotate_left 1;omega;have w:HM TH++t=(HM TH++KB (b.take k))++c:=by rw[hr,A2]
  have F:=congrArg List.length w;rw[@Ag _ (HM TH++KB (b.take k)) _]at F;have o:BZ (HM TH++t,((HM TH++KB (b.take k)).length:Int))=some (UF (HM TH++KB (b.take k)).length c):=by
   conv=>lhs;arg 1;rw[w]
   exact R6 o!
  rw[o,AD];refine AM (λB=>As.done ⟨k,m,Nat.le_of_not_lt λn=>?_,.inl ⟨_,rfl,rfl⟩⟩) (λB=>?_);obtain⟨p,R,T,V⟩:=H n;rw[V,jN T]at B;exact B rfl;obtain⟨X,⟨q,J⟩,Y⟩:=uX B;have j:KB b=KB (b.take k)++KB (b.drop k):=by rw[<-jn,Di]
  have f:c++y=KB (b.drop k):=by rw[hr,A2,j]at G;exact(EO G rfl).2
  by_cases g:k<b.length
  ·have h:=D k _ (Au g);rw[QV g,kp,J,A2]at f;obtain⟨I,Z⟩:=AC2 X (RU h.2) f;rw[I,ABk h.2,AD];dsimp only;rw[show((0:Int) !=0)=false by decide,cond_false,Aa (x:=(k:Int)+1),show(b[k].1 !=(k:Int)+1)=false by rw[h.1];exact bne_eq_false_iff_eq.2 o!,cond_false];have v:b.take (k+1)=b.take k++[b[k]]:=by rw[Ct,Au g];rfl
   refine AA (Ac (by rw[Bo,Ba];omega)) λv6 L=>As.next ⟨k+1,z,q,g,?_,?_⟩ ?_
   rw[L.1,Y,I,v,RW,<-A2,Ag (bs:=HM (B4 b[k])),Ef];refine DN ?_ (DN rfl (DN rfl (DN ?_ rfl)));dsimp only;omega;dsimp only;rw[h.1];omega;rw[hr,v,RW,A2,<-I,<-J];dsimp only;rw[L.2.1,E];simp only[Bo,Ba];omega
  exfalso;rw[Uf o!]at f;have K:=congrArg List.length f;rw[J,Ag,Ag,Ef]at K;simp[KB]at K
 obtain⟨k,m,A,⟨u,rfl,o⟩|⟨u,rfl,o⟩⟩:=hr;exact BK (AB λ_=>⟨k,m,A,o⟩);exact A4 (AB λ_=>⟨k,m,A,o⟩)
variable {B:Int->Prop}
def CB(n:Int)(P:List AE)(s:BY):Prop:= ∃es t y z,∃d:Nat,s=HM TH++t/\t++y=KB es/\es.length<=4096/\Il es/\LI n es/\P=es.take d/\t=KB (es.take d)++z
def um{n a:Int}{l:Af}(h:Dg l)(b:l.1=1)(c:LI n l.2.1):As (Gq (l,a)) (CB n (dl l)):=by
 refine(ACi h b).mono λr ⟨m,hr⟩=>⟨l.2.1,_,(KB (l.2.1.drop l.2.2.toNat)).drop m,_,l.2.2.toNat,hr,?_,h.2.2.1,h.num b,c,rfl,rfl⟩
 rw[A2,Di,<-jn,Di]
def CB.open_{n:Int}{P:List AE}{s:BY}(h:CB n P s):As (JE s) λr=>r.2=0->Dg r.1/\r.1.1=1/\LI n r.1.2.1/\ ∃m,P=(dl r.1).take m:=by
 obtain⟨b,t,y,z,d,rfl,p,hn,c,g,rfl,j⟩:=h;refine(AE4 hn c p j).mono λr hr u=>?_;obtain⟨k,v,o,e⟩:=hr u;rw[e];have w:(b.take k).length=k:=q!
 refine⟨⟨Ae _,q!,q!,q!,d!,λi f l=>?_⟩,rfl,?_,min d b.length,?_⟩;have:=c.take k i f l;exact this;rw[<-Di k b]at g;exact g.pre;unfold dl;dsimp only;rw[Dl,Kk,Kk,P2 (a:=min d b.length) o!,P2 o];rcases Nat.le_total d b.length with q|q;rw[P2 q];rw[Nat.min_eq_right q,BQ q,Hj]
def SQB(B:Int->Prop)(n:Int)(s:AW):Prop:=s.1.1=n/\SK B s.1/\Dg s.1.2.2.1/\DJ B s.1.2.2.1 s.2
def SQ(n:Int)(s:AW):Prop:= ∃B,SQB B n s
def SQB.sr{n:Int}{s r:AW}(h:SQB B n s)(g:SR B s r):SQ n r:=⟨B,g.1.1.trans h.1,g.1.2.2.1,g.1.2.2.2,g.2⟩
def dZ{P:List AE}{x:Bk×BY×Int×Int}(n:CB x.2.2.1 P x.2.1)(o:DP B P x.1):As (QM x) λr=>r.2=0->SQ x.2.2.1 r.1:=by refine AA n.open_ λp j=>AM (λa=>AB λb=>absurd b a) (λc=>?_);obtain⟨f,g,h,m,i⟩:=j c;refine AA (X4 f g h) λq k=>AM (λa=>AB λb=>absurd b a) (λd=>?_);obtain⟨a1,a2,a3,a4,a5⟩:=k d;refine AA (bP (B:=B) f ⟨a2,a3,a4⟩ q! q!) λs l=>AM (λa=>AB λb=>absurd b a) (λe=>AB λ_=>?_);obtain⟨q1,q2,q3,q4⟩:=l e;exact⟨B,q1.trans a1,q2,q3,DJ.up ⟨g,o.up i⟩ q4⟩
def da{P:List AE}{x:Bk×BY×Int×Int}(b:CB x.2.2.1 P x.2.1)(c:DP B P x.1):As (QN x) λr=>r.2=0->SQ x.2.2.1 r.1:=by exact AA (dZ b c) λd a=>AB a
theorem AFQ{n o:BY}{c:Nat}(hn:n.length=256)(p:o.length=256)(h:n.take 8=n.drop 248)(d:o.take 8=o.drop 248)(j:n.take 8=o.take 8->n=o)(b:(n.take c++o.drop c).take 8=(n.take c++o.drop c).drop 248):n.take c++o.drop c=n\/n.take c++o.drop c=o:=by
 have g: ∀i:Nat,(n.take c++o.drop c)[i]? =if i<c then n[i]? else o[i]? :=λi=>by grind
 have q: ∀{l:BY},l.take 8=l.drop 248-> ∀i:Nat,i<8->l[i]? =l[248+i]? :=λ{l} e i a=>by have:=congrArg (λl:BY=>l[i]?) e;rw[JQ a,JP]at this;exact this
 by_cases m:c<8;refine .inr (H7 λi=>?_);rw[g i];split;rename_i a;have:=q b i (by omega);rw[g,g,if_pos a,if_neg (by omega),<-q d i (by omega)]at this;exact this;rfl;refine .inl ?_;by_cases k:c<=248;have e:n=o:=j (H7 λi=>by by_cases a:i<8;have:=q b i a;rw[g,g,if_pos (by omega),if_neg (by omega),<-q d i a]at this;rw[JQ a,JQ a];exact this;rw[Cn (by rw[BR];omega),Cn (by rw[BR];omega)]);rw[e,Di];refine H7 λi=>?_;rw[g i];split;rfl;rename_i a;by_cases f:i<256;have:=q b (i-248) (by omega);rw[g,g,if_pos (by omega),if_neg (by omega),show 248+(i-248)=i by omega,q h (i-248) (by omega),show 248+(i-248)=i by omega]at this;exact this.symm;rw[Cn (by omega),Cn (by omega)]
def ACA:(fN 256).take 8=(fN 256).drop 248:=g!
def DP.tear{P:List AE}{d t:Bk}{p:Int}{o n m:BY}{c:Nat}(h:DP B P d)(z:0≤p)(f:B p)(E:DI t)(I:d.1[p.toNat]? =some o)(H:m=n.take c++o.drop c)(F:t.1=F6 d.1 p m){x:AT}(r:Ex x)(hn:n=He x)(D:AEV P p n)(N:1≤x.2.1)
  (M: ∀j,(st (P.take j) p).2.1=x.2.1->st (P.take j) p=x) (K: ∀j,Ex (st (P.take j) p)): ∃A,DP A P t:=by
 have g:=(h.2 _ _ I).1 (by rw[JO z];exact f);rw[JO z]at g;have y: ∀(i:Nat) (s:BY),i≠p.toNat->t.1[i]? =some s->d.1[i]? =some s:=λi s l a=>by rw[F]at a;unfold F6 at a;rwa [Dy o!]at a
 have w: ∀s:BY,t.1[p.toNat]? =some s->s=m:=λs a=>by rw[F]at a;unfold F6 at a;grind
 by_cases b:dead m;refine⟨λj=>B j/\j≠p,E,λi s a=>?_⟩;by_cases l:i=p.toNat
 subst l;rw[w s a];exact⟨λf=>absurd (JO z) f.2,.inr b⟩;have:=h.2 i s (y i s l a);exact⟨λf=>this.1 f.1,this.2.imp_left λf=>⟨f,o!⟩⟩;have C:m.take 8=m.drop 248:=by by_cases L:m=fN 256;rw[L];exact ACA;by_cases J: ∃q,Ex q/\m=He q;obtain⟨q,q1,q2⟩:=J;rw[q2,Tc,ka q1];exact absurd ⟨L,λq q1 q2=>J ⟨q,q1,q2⟩⟩ b
 have v:o.take 8=o.drop 248/\(n.take 8=o.take 8->n=o):=by rcases g with rfl|⟨j,rfl⟩;refine⟨ACA,λe=>?_⟩;rw[hn,Tc]at e;have:=WL (k:=8) (n:=x.2.1) (m:=0) g! ⟨n!,by have:=r.2.2.1;omega,by have:=r.2.2.2.1;omega⟩ ⟨n!,g!,g!⟩ e;omega;refine⟨Tc.trans (ka (K j)).symm,λe=>?_⟩;rw[hn,Tc,Tc]at e;have G:=K j;have:=WL (k:=8) g! ⟨n!,by have:=r.2.2.1;omega,by have:=r.2.2.2.1;omega⟩ ⟨n!,by have:=G.2.2.1;omega,by have:=G.2.2.2.1;omega⟩ e;rw[hn,M j this.symm]
 have u:=AFQ (c:=c) (by rw[hn];exact ag r) (h.1.2.1 _ _ I) (by rw[hn,Tc,ka r]) v.1 v.2 (by rw[<-H];exact C);rw[<-H]at u;refine⟨B,E,λi s a=>?_⟩;by_cases l:i=p.toNat
 subst l;rw[w s a,JO z];refine⟨λ_=>?_,.inl f⟩;rcases u with e|e<;>rw[e];exact D;exact g;exact h.2 i s (y i s l a)
def bR{x:AW×Int×Int×Int}(h:SK B x.1.1)(D:Dg x.1.1.2.2.1)(v:DJ B x.1.1.2.2.1 x.1.2):As (Ld x) λr=> ∃A P,DP A P r.1/\CB x.1.1.1 P r.2:=by
 unfold Ld;refine AA FV λi Q=>AC (λO=>?_) (λ_=>AA (um D v.1 h.ki.1) λL E=>AB (⟨B,dl x.1.1.2.2.1,v.2,E⟩: ∃A P,DP A P x.1.2/\CB x.1.1.1 P L));have⟨J,f,G,m⟩:=Q.2.2.1 O;obtain⟨g,M,Y,c⟩:=AI O Q.2.1;have e:=BV (Y.symm.trans G);subst e;dsimp only at M m c;rw[M];refine A9 (AA (P:=λr:AU×Bk=>(∃A,DP A (dl r.1.2.2.1) r.2)/\Dg r.1.2.2.1/\r.1.2.2.1.1=1/\LI x.1.1.1 r.1.2.2.1.2.1) ?_ λv8 W=>?_);rotate_left 1;obtain⟨⟨A,R⟩,S,T,N⟩:=W;refine AA (um S T N) λv9 X=>AB ?_;exact⟨A,dl v8.1.2.2.1,R,X⟩;refine AL (λF=>?_) (λ_=>?_);rotate_left 1;apply AB;exact⟨⟨B,v.2⟩,D,v.1,h.ki.1⟩;have⟨t,n,_⟩:=J.2.2.2.2.2.1 i.toNat g (by have:=C0 G;omega) G;have n:=n F;apply A9;rw[U2 t];refine A9 (A9 (AA (Jc h D) λu a=>AA (dI v.2.1) λv6 U=>?_));have b:=v.up a.1.2.1;have q:=h.ki.2.2 g c;have K:=a.1.2.2.1.num b.1;have N:=a.1.2.2.1.2.2.1;have C:=a.1.2.2.2.2.2.ki;have s:g.1=st u.2.2.1.2.1 x.2.2.1:=by have:=(C.2.1 x.2.2.1 o! (by rw[a.1.1];dsimp only;omega)).1 g (by rw[a.2.1];exact c) m;exact this
 have I:=Vz K (p:=x.2.2.1) ⟨o!,by rw[<-m];exact t.2.1⟩ o!;have y:B0 u.2.2.1.2.1 x.2.2.1=g.1.2.1:=by rw[<-Pb,<-s]
 have w:=a.2.2 (by have:=iH D g.1.1;have:=congrArg (λz=>z.2.1) ((h.ki.2.1 g.1.1 q.1 q.2.1).1 g c rfl);rw[Pb]at this;dsimp only;omega);refine AA (P:=λd=> ∃A,DP A (dl u.2.2.1) d) (AQ (λZ=>AB ?_) (λ_=>AB ⟨B,b.2⟩)) λv7 V=>AB ⟨V,a.1.2.2.1,b.1,by have:=C.1;rw[a.1.1]at this;exact this⟩;obtain⟨t1,o,t2,t3,t4⟩:=U Z;refine b.2.tear t2 (by rw[<-m];exact q.2.2.2) t1 t3 rfl t4 t rfl ?_ o! (λj H=>?_) λj=>?_;refine .inr ⟨(dl u.2.2.1).length,?_⟩;rw[Hj];unfold dl;dsimp only at w⊢;rw[AB0 K o!,<-s];unfold dl at H⊢;rw[Kk]at H⊢;rw[s,<-Hj (l:=u.2.2.1.2.1)];rw[Hj];have:=iP K (p:=x.2.2.1) (j:=min j u.2.2.1.2.2.toNat) (k:=u.2.2.1.2.1.length) (by rw[Hj,y,<-H,Pb]);rwa [Hj]at this;unfold dl;rw[Kk];exact I _
def Eb{x:Int}:As (D0 x) λr=>True:=by exact AM (λ_=>AA Bx λ_ _=>AB trivial) (λ_=>AB trivial)
end Go.Pm
namespace Go.Pm
open Go Go.Ab
set_option maxHeartbeats 400000
def ZW{m:Nat}{c:AW×Bool}{s:Int×List Int×AW×Bool}(i:m<=16777216)(h:0<=s.1/\s.1<=m/\s.2.1.length=m/\s.2.2=c):As (Aj Ox s) λr=>r.1.length=m/\r.2=c:=by refine AV (λ(s:Int×List Int×AW×Bool)=>0<=s.1/\s.1<=m/\s.2.1.length=m/\s.2.2=c) (λ(s:Int×List Int×AW×Bool)=>((m:Int)-s.1).toNat) h (λs g=>?_);obtain⟨b,j,d,f⟩:=g;unfold Ox;have e:=Aa (x:=s.1+1);rw[e];refine AC (λa=>?_) (λ_=>AB ⟨d,f⟩);simp only[len]at a;refine AA (AI b a) λ_ _=>AA (AI b a) λ_ _=>AB ⟨⟨d!,d!,by simp[F6,d],f⟩,d!⟩
def fL{n:Int}{x:AW×List Kj}(h:SQ n x.1):As (NW x) λr=>SQ n r.1:=by
 unfold NW;refine AA (P:=λr=>SQ n r.2.2.2.1) ?_ λr hr=>AB hr;refine AV (λ(s:Int×List BW×List Int×List Ik×AW×Bool)=>0<=s.1/\s.1<=1000/\s.2.1.length<=s.1/\s.2.2.1.length<=s.1/\s.2.2.2.1.length<=s.1/\SQ n s.2.2.2.2.1) (λ(s:Int×List BW×List Int×List Ik×AW×Bool)=>(1000-s.1).toNat) ⟨Ae _,d!,k!,k!,k!,h⟩ (λs X=>?_);obtain⟨Z,i2,i3,i4,i5,o⟩:=X;obtain⟨B,i⟩:=id o;obtain⟨q1,q2,q3,q4⟩:=id i;unfold Ts;refine AC (λS=>?_) (λ_=>AB o);refine AC (λY=>?_) (λ_=>AB o);refine AP (λ_=>?_) (λ_=>AB o);simp only[len]at S;have e:=Aa (x:=s.1+1);have b: ∀(v:BW) (t:List Int×List Ik×AW×Bool),t.1.length<=s.1+1->t.2.1.length<=s.1+1->SQ n t.2.2.1-> ∀Q:Step (Int×((List BW)×((List Int)×((List Ik)×(AW×Bool))))) ((List BW)×((List Int)×((List Ik)×(AW×Bool))))->Prop,(∀a:Int×List BW×List Int×List Ik×AW×Bool,(0<=a.1/\a.1<=1000/\a.2.1.length<=a.1/\a.2.2.1.length<=a.1/\a.2.2.2.1.length<=a.1/\SQ n a.2.2.2.2.1)/\(1000-a.1).toNat<(1000-s.1).toNat->Q (.next a))->As (Option.bind (app s.2.1 ([v]:List (Int×(Int×(Int×((Bool×BY)×Int)))))) λD=>some (.next ((wi (s.1+1)),(D,t)))) Q:=by intro v t h1 O G Q I;refine AA (Ac w!) λD W=>AB (I _ ?_);have l7:=W.2.1;simp only[Bo,Ba]at l7;rw[e];exact⟨⟨d!,d!,d!,d!,d!,G⟩,d!⟩
 have same: ∀(v:BW) (Q:Step (Int×((List BW)×((List Int)×((List Ik)×(AW×Bool))))) ((List BW)×((List Int)×((List Ik)×(AW×Bool))))->Prop),(∀a:Int×List BW×List Int×List Ik×AW×Bool,(0<=a.1/\a.1<=1000/\a.2.1.length<=a.1/\a.2.2.1.length<=a.1/\a.2.2.2.1.length<=a.1/\SQ n a.2.2.2.2.1)/\(1000-a.1).toNat<(1000-s.1).toNat->Q (.next a))->As (Option.bind (app s.2.1 ([v]:List (Int×(Int×(Int×((Bool×BY)×Int)))))) λD=>some (.next ((wi (s.1+1)),(D,s.2.2)))) Q:=λv Q I=>b v s.2.2 o! o! o Q I;refine AA (AI Z S) λv1 _=>AQ (λ_=>?_) (λ_=>?_);refine AA (bQ q2 q3 q4) λv2 O=>AA (P:=λr=>r.1.length<=s.1+1/\r.2=s.2.2.2.2) ?_ λv4 R=>?_;refine AQ (λ_=>?_) (λ_=>AB ⟨d!,rfl⟩);refine AA (Ac w!) λv3 G=>AB ⟨?_,rfl⟩;have:=G.2.1;simp at this;dsimp only;omega;refine AA (P:=λr=>SQ n r.1) ?_ λv5 V=>?_;refine AQ (λf=>AB (i.sr (O f))) (λ_=>AB (by rw[R.2];exact o));refine AA Eb λv6 _=>b _ (v4.1,(s.2.2.2.1,v5)) R.1 d! V _ (λ_ h=>h);refine AQ (λ_=>?_) (λ_=>?_);refine AC (λ_=>AA Bx λN _=>same _ _ (λ_ h=>h)) (λc1=>AC (λ_=>AA Bx λN _=>same _ _ (λ_ h=>h)) (λT=>?_));simp only[len]at T;have U:=Aa (x:=v1.2.1-1);rw[U];refine AA (AI) λad _=>AA (AI) λal _=>AQ (λ_=>AA Bx λN _=>same _ _ (λ_ h=>h)) (λ_=>AA (AI) λao _=>AA (AI) λar _=>AA (gM q2 q3 q4) λJ E=>?_);have u:=i.sr E;refine AQ (λ_=>same _ _ (λ_ h=>h)) (λ_=>AQ (λ_=>?_) (λ_=>?_));refine AA (P:=λr=>r.1.length<=s.1+1/\SQ n r.2.1) ?_ λK y=>b _ (s.2.2.1,K) d! y.1 y.2 _ (λ_ h=>h);refine AQ (λ_=>?_) (λ_=>AB ⟨d!,u⟩);refine AA FT λax _=>AA (Ac w!) λa0 F=>AB ⟨?_,u⟩;have:=F.2.1;simp at this;dsimp only;omega;exact b _ (s.2.2.1,(s.2.2.2.1,(J.1,s.2.2.2.2.2))) d! d! u _ (λ_ h=>h);refine AQ (λ_=>?_) (λ_=>?_);refine AA (bS q2 q3 q4) λC j=>AA (P:=λr=>SQ n r.1) (AQ (λf=>AB (i.sr (j f))) (λ_=>AB o)) λg d=>AA Eb λw _=>b _ (s.2.2.1,(s.2.2.2.1,g)) d! d! d _ (λ_ h=>h);refine AQ (λ_=>?_) (λ_=>?_);refine AA (Vm q2 q4) λC j=>AA (P:=λr=>SQ n r.1) (AQ (λf=>AB (i.sr (j f))) (λ_=>AB o)) λg d=>AA Eb λw _=>b _ (s.2.2.1,(s.2.2.2.1,g)) d! d! d _ (λ_ h=>h);refine AQ (λ_=>?_) (λ_=>?_);refine AA FT λa1 _=>AA JZ λa2 k=>AA (P:=λr=>SQ n r.1) (AQ (λf=>AB ⟨B,q1,SB.sk q2.sb (q2.ki.of rfl (k f).2.1 rfl rfl),(k f).1,q4.up (LX.of (k f).2.2.1 (k f).2.1 (k f).2.2.2.1)⟩) (λ_=>AB o)) λg d=>AA Eb λw _=>b _ (s.2.2.1,(s.2.2.2.1,g)) d! d! d _ (λ_ h=>h);refine AQ (λ_=>?_) (λ_=>?_);refine AA (bR q2 q3 q4) λa3 ⟨A,P,z⟩=>AA (da z.2 z.1) λL H=>AA (ZW (m:=s.2.2.1.length) (c:=s.2.2.2.2) o! ⟨Ae _,d!,rfl,rfl⟩) λp q=>AM (λ_=>?_) (λf=>?_);refine AA Eb λM _=>b _ (p.1,(s.2.2.2.1,(p.2.1,true))) (by have:=q.1;dsimp only;omega) d! (by dsimp only;rw[q.2];exact o) _ (λ_ h=>h);refine AA Eb λM _=>?_;have l:=H f;dsimp only at l;rw[q1]at l;exact b _ (p.1,(s.2.2.2.1,(L.1,p.2.2))) (by have:=q.1;dsimp only;omega) d! l _ (λ_ h=>h);refine AQ (λ_=>?_) (λ_=>?_);refine AA (db q2 q3 q4) λC j=>AA (P:=λr=>SQ n r.1) (AQ (λf=>AB (i.sr (j f))) (λ_=>AB o)) λg d=>AA Eb λw _=>b _ (s.2.2.1,(s.2.2.2.1,g)) d! d! d _ (λ_ h=>h);exact AA Bx λN _=>same _ _ (λ_ h=>h)
def CX(b:AK):Prop:=0<=b.2/\b.1.length<=16777216/\ ∀x∈b.1,0<=x/\x<256
def CX.step{b:AK}(h:CX b)(a:b.2<b.1.length):CX (b.1,wi (b.2+1)):=by have⟨a1,a2,a3⟩:=h;rw[(Aa (x:=b.2+1))];exact⟨d!,a2,a3⟩
def Uo{b:AK}(h:CX b):As (G9 b 256) λr=>CX r.2/\0<=r.1/\r.1<256:=by unfold G9;refine AC (λ_=>AB ⟨h,Ae _,by show(0:Int)<256;decide⟩) (λa=>?_);simp[len]at a;refine AC n! (λ_=>AA (AI h.1) λc d=>?_);have⟨f,g⟩:=h.2.2 c d.2;have e:=Aa (x:=c);refine AC n! (λ_=>AQ n! (λ_=>AB ⟨h.step o!,?_,?_⟩));grind[Int.tmod_nonneg];grind[Int.tmod_lt_of_pos]
theorem AY{b:AK}{x:Int}(h:CX b)(j:x<=4611686018427387904):As (Ad b x) λr=>CX r.2/\0<=r.1/\(r.1=0\/r.1<x):=by unfold Ad;refine AC (λ_=>AB ⟨h,Ae _,.inl rfl⟩) (λa=>?_);simp[len]at a;refine AC (λ_=>AB ⟨h,Ae _,.inl rfl⟩) (λf=>AA (AI h.1) λc e=>?_);have⟨d,g⟩:=h.2.2 c e.2;rw[(Aa (x:=c))];refine AC (λ_=>?_) (λ_=>?_);refine AA (Uo (h.step o!)) λk i=>?_;grind[AQ,AB,Aa,Int.tmod_nonneg,Int.tmod_lt_of_pos];refine AQ (λa=>absurd a o!) (λ_=>AB ⟨h.step o!,Int.tmod_nonneg _ d,.inr (Int.tmod_lt_of_pos _ o!)⟩)
def KD{b:AK}{x:Unit}(h:CX b):As (FK b x) λr=>CX r.2:=by unfold FK;refine AA (AY h g!) λt e=>AA (AY e.1 g!) λu m=>AA (P:=λr=>CX r.2/\0<=r.1/\r.1<=14) ?_ λc f=>?_;grind[AQ,AB,AA,AY];have⟨d,a,k⟩:=f;refine AA (P:=λl:List Int=>l.length=0) ⟨_,if_pos ⟨Ae _,a,o!⟩,k!⟩ λv n=>AA (P:=λr=>CX r.2) ?_ λw g=>AB g;refine AV (λ(s:Int×List Int×AK)=>0<=s.1/\s.1<=c.1/\s.2.1.length<=s.1/\CX s.2.2) (λ(s:Int×List Int×AK)=>(c.1-s.1).toNat) ⟨Ae _,a,d!,d⟩ (λs i=>?_);have⟨o,p,q,j⟩:=i;unfold PB;rw[(Aa (x:=s.1+1))];refine AC (λ_=>?_) (λ_=>AB j);grind[AA,AY,Ac,AB,List.length_cons,List.length_nil]
theorem Ks{b:AK}{x:Unit}(h:CX b):As (EY b x) λr=>CX r.2:=by unfold EY;refine AA (AY h g!) λf a=>AQ (λ_=>AA (AY a.1 g!) λe c=>AB c.1) (λ_=>AQ (λ_=>?_) (λ_=>AA (AY a.1 g!) λe c=>AB c.1));refine AA (AY a.1 g!) λg d=>?_;have:=d.2.2;refine AA (AI d.2.1 w!) λ_ _=>?_;grind[AA,AI,AB]
theorem VH{b:AK}{x:Int}(h:CX b)(u:x<=1099511627776):As (HY b x) λr=>CX r.2:=by
 unfold HY;refine AA (AY h g!) λv a=>?_;have l:=a.2.2;refine AA (AI a.2.1 w!) λ_ _=>AA (AI a.2.1 w!) λw _=>AA (P:=λ_=>True) (AL (λ_=>AB trivial) (λ_=>AA (P:=λ_=>True) (AL (λ_=>AB trivial) (λ_=>AB trivial)) λ_ _=>AB trivial)) λy _=>AA (P:=λr=>CX r.1) ?_ λp e=>?_;refine AL (λ_=>?_) (λ_=>?_);refine AA (AY a.1 o!) λz m=>AA (AY m.1 g!) λA j=>AA (P:=λr=>CX r.1) ?_ λt i=>AB i;refine AL (λ_=>?_) (λ_=>AB j.1);refine AA (KD j.1) λc n=>?_;have k:0<=(if(12<(len c.1))then 12 else(len c.1))/\(if(12<(len c.1))then 12 else(len c.1))<=c.1.length:=by simp[len];split<;>omega
 exact AA (CQ (Ae _) k.1 k.2) λB _=>AB n;refine AA (P:=λr=>CX r.1) ?_ λt i=>AB i;exact AL (λ_=>AA (AY a.1 g!) λo d=>AB d.1) (λ_=>AB a.1);refine AA (AY e g!) λq f=>AA (P:=λr=>CX r.1) ?_ λs g=>AB g;refine AL (λ_=>?_) (λ_=>AB f.1);grind[AA,Ks,AB]
theorem V6{b:AK}{x:Int×Int×Bool}(h:CX b)(f:0<=x.1/\x.1<=64/\x.2.1<=64):As (IH b x) λr=>CX r.2:=by unfold IH;rw[(Aa (x:=x.1+1))];refine AA (AY h g!) λg a=>AA (P:=λ_=>True) (AL (λ_=>AB trivial) (λ_=>AB trivial)) λi _=>AL (λ_=>AB a.1) (λ_=>AL (λ_=>AA (AY a.1 o!) λj c=>AB c.1) (λ_=>AL (λ_=>AB a.1) (λ_=>AL (λ_=>AB a.1) (λ_=>AA (P:=λs=>(∃u,s= .inl u/\CX u.1)\/ ∃u,s= .inr u/\CX u.1) ?_ λs e=>?_))));refine AL (λ_=>?_) (λ_=>AL (λ_=>AB (.inl ⟨_,rfl,a.1⟩)) (λ_=>AB (.inr ⟨_,rfl,a.1⟩)));refine AL (λ_=>?_) (λ_=>AB (.inr ⟨_,rfl,a.1⟩));refine AA (AY a.1 g!) λk d=>?_;grind[AA,AY,AB];grind[BK,AB,A4,AA,AY,VH]
def T6{b:AK}{x:Int×Int×Bool}(h:CX b)(g:0<=x.1/\x.1<=64/\x.2.1<=1000/\ -1000<=x.2.1):As (Gk b x) λr=>CX r.2:=by unfold Gk;rw[(Aa (x:=x.2.1+1))];refine AA (AY h o!) λk a=>?_;have c:=a.2.2;refine AA (P:=λr=>CX r.2) ?_ λl d=>AB d;refine AV (λ(s:Int×List Kj×AK)=>0<=s.1/\s.1+s.2.1.length<=1010/\CX s.2.2) (λ(s:Int×List Kj×AK)=>s.1.toNat) ⟨a.2.1,w!,a.1⟩ (λs e=>?_);have⟨i,j,f⟩:=e;unfold ME;rw[(Aa (x:=s.1-1))];refine AC (λ_=>?_) (λ_=>AB f);grind[AA,V6,Ac,AB,List.length_cons,List.length_nil]
variable {B:Int->Prop}
def qt:Dg (1,([],0)):=⟨g!,g!,k!,g!,k!,λi e h=>by simp at h⟩
def fD{x:Unit}:As (Gf x) λr=>r=(1,([],0)):=by unfold Gf;exact AB rfl
def fJ{x:Int×Int}(h:1<=x.1/\x.1<=64/\1<=x.2/\x.2<=64):As (NU x) λr=>r.2=0/\r.1.1=x.1/\SK (λ_=>True) r.1/\Dg r.1.2.2.1/\r.1.2.2.1.1=1:=by unfold NU;refine AC (λa=>absurd a o!) (λ_=>AC (λa=>absurd a o!) (λ_=>AC (λa=>absurd a o!) (λ_=>AC (λa=>absurd a o!) (λ_=>AA UP λf c=>AA UQ λg d=>AA fD λi b=>AB ⟨rfl,rfl,⟨⟨k!,k!⟩,k!,k!,?_⟩,?_⟩))));unfold KI FD;dsimp only;rw[c,b];refine⟨LI.nil _,λp _ _=>⟨k!,k!,λw e=>?_⟩,k!⟩;have:=d w (BP e);exact⟨by rw[this];exact Ae _,λ_ _=>this⟩;dsimp only;rw[b];exact⟨qt,rfl⟩
def ACt{x:Int}(h:1<=x/\x<=64):As (J3 x) λr=>r.2=0:=by unfold J3;refine AC (λa=>absurd a o!) (λ_=>AC (λa=>absurd a o!) (λ_=>AA (Rb o!) λb _=>AB rfl))
def fK{x:Int×Int}(h:1<=x.1/\x.1<=64/\1<=x.2/\x.2<=64):As (NV x) λr=>SQ x.1 r.1:=by unfold NV;refine AA (fJ h) λe a=>AM (λc=>absurd a.1 c) (λ_=>AA ((fA).and (ACt ⟨h.1,h.2.1⟩)) λf b=>AM (λc=>absurd b.2 c) (λ_=>AB ?_));exact⟨_,a.2.1,a.2.2.1,a.2.2.2.1,a.2.2.2.2,(b.1 b.2).1,λi s d=>⟨λ_=>.inl (((b.1 b.2).2.2 i s d).trans (jC _)),.inl trivial⟩⟩
def Up{b:AK}{x:Int×Bool}(h:CX b)(c:x.1<=1000/\ -1000<=x.1):As (HA b x) λr=>CX r.2/\ ∃n,1<=n/\n<=4/\SQ n r.1:=by unfold HA;refine AA (AY h g!) λl a=>AA (AY a.1 g!) λm g=>?_;obtain⟨a1,a2,a3⟩:=a;obtain⟨d,o,p⟩:=g;have e:=Aa (x:=1+l.1);have f:=Aa (x:=1+m.1);rw[e,f];refine AA (fK d!) λq i=>AA (T6 d ⟨d!,d!,c.1,c.2⟩) λs j=>AA (fL i) λt k=>AB ⟨j,_,d!,d!,k⟩
def OK{b:AK}{x:Int×Bool}(h:CX b)(d:x.1<=1000/\ -1000<=x.1):As (HZ b x) λr=>CX r.2/\1<=r.1.1/\r.1.1<=4/\LI r.1.1 r.1.2.2.1.2.1/\Dg r.1.2.2.1/\r.1.2.2.1.1=1:=by unfold HZ;refine AA (Up h d) λg a=>AB ?_;obtain⟨c,n,e,f,_,q1,q2,q3,q4⟩:=a;exact⟨c,d!,d!,q2.ki.1,q3,q4.1⟩
def gH{b:AK}{x:Int}(h:CX b)(g:x<=1000/\ -1000<=x):As (Kt b x) λr=>CX r.2.2/\1<=r.1/\r.1<=4/\Dg r.2.1/\ ∃n,LI n r.2.1.2.1:=by unfold Kt;refine AA (OK h g) λk d=>?_;obtain⟨c,i,j,q2,q3,q4⟩:=d;refine AA FT λl f=>?_;have e:=f q3;refine AA (JZ.and (oT q3 d!)) λm a=>AB ⟨c,i,j,(a.1 a.2).1,_,by have:=q2;rw[<-(a.1 a.2).2.1]at this;exact this⟩
end Go.Pm
namespace Go.Pm
open Go Go.Ab
set_option maxHeartbeats 400000
def IQ{x:Int×Int×Int×Int×Int}:As (HV x) λr=>r=true↔1<=x.1/\x.1<=x.2.1/\x.2.1<=1099511627776/\0<=x.2.2.1/\x.2.2.1<=x.2.2.2.1/\x.2.2.2.1<64/\0<=x.2.2.2.2/\x.2.2.2.2<=8:=by
 unfold HV;exact x!
theorem Ly{x:AE×AE}:As (C3 x) λr=>True:=by
 unfold C3;exact x!
def Pl{x:List AE×AE}{s:Int}(h:0<=s/\s<=x.1.length/\(x.1.length:Int)<=16777216):As (Aj (IP x) s) λr=>0<=r/\r<=x.1.length:=by
 refine AV (λ(s:Int)=>0<=s/\s<=x.1.length/\(x.1.length:Int)<=16777216) (λ(s:Int)=>((x.1.length:Int)-s).toNat) h (λs a=>?_);unfold IP;exact x!
theorem ZZ{x:List AE×AE}(h:x.1.length<=16777215):As (CZ x) λr=>r.1.length<=x.1.length+1:=by
 refine AA (Pl ⟨Ae _,o!⟩) λp b=>?_;have a:As (Option.bind (X8 x.1 0 p) λc=>
  Option.bind (X8 x.1 p (len x.1)) λd=>
  Option.bind (app [] c) λe=>
  Option.bind (app e ([x.2]:List (Int×(Int×(Int×(Int×(Int×(Int×((Int×(Int×((Bool×BY)×(Bool×BY))))×BY))))))))) λf=>
  Option.bind (app f d) λg=>
  some (g,true)) λr=>r.1.length<=x.1.length+1:=by
  refine AA (Bb (Ae _) b.1 b.2) λk i=>AA (Bb b.1 q! q!) λl j=>?_;grind[AA,Ac,AB]
 refine AC (λm=>?_) (λ_=>a);grind[AA,AI,Ly,AQ,AB]
def XL{x:AS}{s:Int}(h:0<=s/\s<=x.2.2.2.2.2.length/\(x.2.2.2.2.2.length:Int)<=16777216):As (Aj (G1 x) s) λr=>r≠ .inl true:=by
 refine AV (λ(s:Int)=>0<=s/\s<=x.2.2.2.2.2.length/\(x.2.2.2.2.2.length:Int)<=16777216) (λ(s:Int)=>((x.2.2.2.2.2.length:Int)-s).toNat) h (λs b=>?_);unfold G1;repeat' with_reducible first|intro a|apply AC|apply AP|apply AQ|apply AM|apply AL|(apply A9;try dsimp only)|apply Bf|apply Bw|(apply BK;try dsimp only)|(apply A4;try dsimp only)|apply AB|(apply AA (CL);intro r hr)|(apply AA (Bz);intro r hr)|(apply AA (Ly);intro r hr)|(refine AO ?_ (AI ?_ ?_);rintro r ⟨hr,c⟩)
 all_goals ((try dsimp[len]at*);(try first|omega|assumption|grind[Aa]|((try simp (disch:=omega) only[Aa,ne_eq,Sum.inl.injEq,Sum.inr.injEq,reduceCtorEq,not_false_eq_true,Bool.not_eq_true,len,true_and,and_true,or_false,false_or,false_implies,implies_true]at*)<;>(try intros)<;>(try and_intros)<;>(try intros)<;>(first|omega|assumption|grind))))
def Zn(x:AS):Prop:=1<=x.1/\x.1<=x.2.1/\x.2.1<=1099511627776/\0<=x.2.2.1/\x.2.2.1<=x.2.2.2.1/\x.2.2.2.1<64/\0<=x.2.2.2.2.1/\x.2.2.2.2.1<=8/\x.2.2.2.2.2.length<=4096
def N6{x:AS}:As (EA x) λr=>r=true->Zn x:=by refine AA IQ λe b=>AP (λ_=>AB λa=>by cases a) (λc=>?_);have hn:=b.1 c;refine AC (λ_=>AB λa=>by cases a) (λd=>?_);simp[len]at d;refine AA (XL ⟨Ae _,o!⟩) λr hr=>?_;grind[Zn,A6,AB]
def Q1{x:List AE×Int×Int×Int×Int×Int}{s:Int×AS}(h:0<=s.1/\s.1<=x.1.length/\x.1.length<=16777215):As (Aj (N4 x) s) λr=> ∀u,r= .inl u->u.1≠0:=by
 refine AV (λ(s:Int×AS)=>0<=s.1/\s.1<=x.1.length/\x.1.length<=16777215) (λ(s:Int×AS)=>((x.1.length:Int)-s.1).toNat) h (λs b=>?_);unfold N4;exact x!
def Q2{a:Bool×Int×AS}{b:AE}{s:Bool×Int}(h:0<=s.2/\s.2<=a.2.2.2.2.2.2.2.length/\a.2.2.2.2.2.2.2.length<=16777215):As (Aj (N5 a b) s) λr=>True:=by
 refine AV (λ(s:Bool×Int)=>0<=s.2/\s.2<=a.2.2.2.2.2.2.2.length/\a.2.2.2.2.2.2.2.length<=16777215) (λ(s:Bool×Int)=>((a.2.2.2.2.2.2.2.length:Int)-s.2).toNat) h (λs c=>?_);unfold N5;exact x!
def de{x:List AE×Int×Int×Int×Int×Int}(h:x.1.length<=16777215):As (JH x) λr=>r.2=0->Zn r.1:=by
 refine AA IQ λp _=>AP (λ_=>AB n!) (λ_=>AA (Q1 ⟨Ae _,q!,h⟩) λq g=>A6 (λu e=>AB λa=>absurd a (g u e)) (λu e=>AA (P:=λr=>r.2.2.2.2.2.2.length<=16777215) ?_ λl f=>?_));refine AV (λ(s:Bool×Int×AS)=>0<=s.2.1/\s.2.1<=x.1.length/\s.2.2.2.2.2.2.2.length<=s.2.1) (λ(s:Bool×Int×AS)=>((x.1.length:Int)-s.2.1).toNat) ⟨Ae _,q!,k!⟩ (λs i=>?_);have⟨j,n,o⟩:=i;unfold Jj;rw[(Aa (x:=s.2.1+1))];refine AC (λc=>?_) (λ_=>AB q!);simp[len]at c;have b:((0<=s.2.1+1/\s.2.1+1<=x.1.length/\s.2.2.2.2.2.2.2.length<=s.2.1+1)/\((x.1.length:Int)-(s.2.1+1)).toNat<((x.1.length:Int)-s.2.1).toNat):=⟨o!,o!⟩
 refine AA (AI j c) λt _=>AA Bz λv _=>AP (λ_=>AB b) (λ_=>AC (λ_=>AB b) (λ_=>AC (λ_=>AB b) (λ_=>AC (λ_=>AB b) (λ_=>AC (λ_=>AB b) (λ_=>AA (Q2 ⟨Ae _,q!,o!⟩) λk _=>?_)))));grind[AA,ZZ,AB];refine AL (λ_=>AB n!) (λ_=>AC (λ_=>AB n!) (λ_=>AA N6 λm d=>AP (λ_=>AB n!) (λc=>AB λ_=>d c)))
def dd{x:AS}:As (HU x) λr=>True:=by
 unfold HU;exact x!
def ZY{x:AS}:As (GY x) λr=>r.1.length<=1099511627776:=by refine AA N6 λk b=>AP (λ_=>AB k!) (λa=>?_);have h:=(b a).2.2.2.2.2.2.2.2;refine AA dd λl _=>AA Sq λm g=>AA (P:=λr:BY=>r.length<=1099511627776) ?_ λo c=>AB c;refine AV (λ(s:BY×Int)=>0<=s.2/\s.2<=x.2.2.2.2.2.length/\s.1.length<=8408*s.2+8408) (λ(s:BY×Int)=>((x.2.2.2.2.2.length:Int)-s.2).toNat) ⟨Ae _,q!,q!⟩ (λs d=>?_);have⟨f,i,j⟩:=d;have e:=Aa (x:=s.2+1);refine AC (λa=>?_) (λ_=>AB o!);refine AA (AI f a) λn _=>?_;grind[AA,ZF,Sq,CA,AB]
def Za{x:BY×Int×Int}(h:x.1.length<=1099511627776):As (BX x) λr=>True:=by exact AA (Cj h) λ_ _=>AB trivial
def ZX{x:BY}(h:x.length<=1099511627776):As (FX x) λr=>r.2=0->Zn r.1:=by refine AA (Qr h) λk n=>AM (λb=>AB λa=>absurd a b) (λj=>AM (λ_=>AB n!) (λg=>?_));simp[len]at g;refine AA (CQ (Ae _) g!) λp _=>AM (λ_=>AB n!) (λ_=>?_);have hn: ∀y,As (BX (k.1,y)) λ_=>True:=λy=>Za q!;refine AA (hn _) λq _=>AA (hn _) λt _=>AA (hn _) λv _=>AA (hn _) λw _=>AA (hn _) λz _=>AA (hn _) λA _=>AC (λ_=>AB n!) (λi=>AA (P:=λr=> ∀u,r= .inl u->u.1≠0) ?_ λl d=>?_);refine AV (λ(s:Int×Int×List AE×Int×Int×Int×Int×Int×AS)=>0<=s.2.1/\s.2.1<=4096/\s.2.2.1.length<=s.2.1) (λ(s:Int×Int×List AE×Int×Int×Int×Int×Int×AS)=>(4096-s.2.1).toNat) ⟨Ae _,q!,k!⟩ (λs o=>?_);have e:=Aa (x:=s.2.1+1);refine AC (λb=>?_) (λ_=>AB λu c=>by cases c);grind[AA,Qr,AM,AB,ZE,Ac,List.length_cons,List.length_nil];refine A6 (λu c=>AB λa=>absurd a (d u c)) (λu c=>AM (λ_=>AB n!) (λ_=>AA N6 λm f=>AP (λ_=>AB n!) (λb=>AB λ_=>f b)))
def SA(a:AJ):Prop:=a.1.length<=16/\a.2.2.1.length<=16777216/\ ∀f∈a.2.2.1,f.2.2.length<=1099511627776
def VA(a:AJ):Prop:=1<=a.2.1/\a.2.1<=64/\1<=a.1.length/\a.1.length<=16/\1<=a.2.2.2.1/\a.2.2.2.1<=1099511627777/\1<=a.2.2.2.2/\a.2.2.2.2<=1073741825/\a.2.2.1.length<=256
def Zc{x:Int×List Int}:As (FY x) λr=>r=true->1<=x.1/\x.1<=64/\1<=x.2.length/\x.2.length<=16:=by unfold FY;refine AC (λ_=>AB λa=>by cases a) (λh=>AC (λ_=>AB λa=>by cases a) (λi=>AC (λ_=>AB λa=>by cases a) (λb=>AC (λ_=>AB λa=>by cases a) (λc=>?_))));simp only[len]at b c;refine AA (AI (Ae _)) λk _=>AM (λ_=>AB λa=>by cases a) (λ_=>AA (P:=λ_=>True) ?_ λr _=>?_);refine AV (λ(s:Int)=>1<=s/\s<=x.2.length) (λ(s:Int)=>((x.2.length:Int)-s).toNat) ⟨Ae _,o!⟩ (λs j=>?_);unfold L3;have d:=Aa (x:=s-1);have f:=Aa (x:=s+1);rw[d,f];refine AC (λg=>?_) (λ_=>AB trivial);simp only[len]at g;refine AA (AI) λ_ _=>AA (AI) λ_ _=>AC (λ_=>AB trivial) (λ_=>AB ⟨o!,o!⟩);refine A6 (λu _=>AB λ_=>o!) (λu _=>?_);have e:=Aa (x:=len x.2-1) i!;rw[e];exact AA (AI i! i!) λl _=>AB λ_=>o!
def XM{x:AJ}{s:Int×Int}(h:0<=s.2/\s.2<=x.2.2.1.length/\x.2.2.1.length<=256):As (Aj (I8 x) s) λr=>r≠ .inl true:=by
 refine AV (λ(s:Int×Int)=>0<=s.2/\s.2<=x.2.2.1.length/\x.2.2.1.length<=256) (λ(s:Int×Int)=>((x.2.2.1.length:Int)-s.2).toNat) h (λs b=>?_);unfold I8;exact x!
def Jk{x:AJ}:As (C5 x) λr=>r=true->VA x:=by
 unfold C5;refine AA Zc λi c=>AP (λ_=>AB λa=>by cases a) (λd=>?_);obtain⟨a1,a2,a3,a4⟩:=c d;refine AC (λ_=>AB λa=>by cases a) (λe=>AC (λ_=>AB λa=>by cases a) (λf=>AC (λ_=>AB λa=>by cases a) (λg=>AC (λ_=>AB λa=>by cases a) (λh=>AC (λ_=>AB λa=>by cases a) (λb=>?_)))));simp only[len]at b;refine AA (XM ⟨Ae _,d!,o!⟩) λr hr=>?_;have q:VA x:=⟨a1,a2,a3,a4,o!⟩
 exact A6 (λu _=>AB λ_=>q) (λu _=>AB λ_=>q)
def S3{x:AJ×Int}(h:x.1.1.length<=16)(a:0<=x.2/\x.2<x.1.1.length):As (El x) λr=>True:=by unfold El;have e:=Aa (x:=x.2+1);rw[e];refine AA (P:=λ_=>True) ?_ λd _=>AA (AI a.1 a.2) λf _=>AB trivial;refine AC (λb=>?_) (λ_=>AB trivial);simp only[len]at b;exact AA (AI o! b) λc _=>AB trivial
def WJ{x:AJ×AS}(h:x.1.1.length<=16):As (FL x) λr=> -1<=r/\r<16:=by
 unfold FL;refine AA (P:=λr=> ∀u,r= .inl u->0<=u/\u<16) ?_ λr hr=>A6 (λu a=>AB (by have:=hr u a;omega)) (λ_ _=>AB g!);refine AV (λ(s:Int)=>0<=s/\s<=x.1.1.length) (λ(s:Int)=>((x.1.1.length:Int)-s).toNat) ⟨Ae _,o!⟩ (λs d=>?_);unfold HB;have e:=Aa (x:=s+1);rw[e];refine AC (λb=>?_) (λ_=>AB λu a=>by cases a);simp only[len]at b;have c:((0<=s+1/\s+1<=x.1.1.length)/\((x.1.1.length:Int)-(s+1)).toNat<((x.1.1.length:Int)-s).toNat):=⟨o!,o!⟩
 refine AA (S3 h ⟨d.1,b⟩) λf _=>AQ (λ_=>?_) (λ_=>AB c);exact AQ (λ_=>AB λu a=>by cases a;omega) (λ_=>AB c)
def Zb{x:AJ×BG}(h:x.1.1.length<=16)(c:x.2.2.2.length<=1099511627776):As (DD x) λr=>0<=r.2->Zn r.1:=by unfold DD;refine AM (λ_=>AB n!) (λ_=>AA (ZX c) λd b=>AM (λ_=>AB n!) (λa=>AA (WJ h) λe _=>AB λ_=>b a))
def Vn{x:AS×Int}{s:Int×(List AE)×Int×Int×Int×Int×Int}(h:0<=s.1/\s.1<=x.1.2.2.2.2.2.length/\x.1.2.2.2.2.2.length<=4096/\s.2.1.length<=s.1):As (Aj (K1 x) s) λr=>r.1.length<=4096:=by
 refine AV (λ(s:Int×(List AE)×Int×Int×Int×Int×Int)=>0<=s.1/\s.1<=x.1.2.2.2.2.2.length/\x.1.2.2.2.2.2.length<=4096/\s.2.1.length<=s.1) (λ(s:Int×(List AE)×Int×Int×Int×Int×Int)=>((x.1.2.2.2.2.2.length:Int)-s.1).toNat) h (λs c=>?_);unfold K1;exact x!
def Q5{x:AS×Int}(h:x.1.2.2.2.2.2.length<=4096):As (E8 x) λr=>r.2.2.2.2.2.length<=4096:=by unfold E8;refine AC (λ_=>AB h) (λ_=>AA (Vn ⟨Ae _,d!,h,k!⟩) λb a=>AB a)
def Q4{x:AJ×Af×Int}{a:List AE}{s:Int×AJ}(h:0<=s.1/\s.1<=a.length/\a.length<=4096):As (Aj (N7 x a) s) λr=> ∀u,r= .inl u->u.1≠0:=by
 refine AV (λ(s:Int×AJ)=>0<=s.1/\s.1<=a.length/\a.length<=4096) (λ(s:Int×AJ)=>((a.length:Int)-s.1).toNat) h (λs c=>?_);unfold N7;exact x!
def RL(l:List AS):Prop:= ∀r∈l,r.2.2.2.2.2.length<=4096
def QQ{a:List AS×List Int×Int}{c:AS×Int}{s:Int}(h:0<=s/\s<=a.1.length/\a.1.length<=16777215):As (Aj (G2 a c) s) λr=>0<=r/\r<=a.1.length:=by refine AV (λ(s:Int)=>0<=s/\s<=a.1.length) (λ(s:Int)=>s.toNat) ⟨h.1,h.2.1⟩ (λs b=>?_);unfold G2;have d:=h.2.2;have e:=Aa (x:=s-1);rw[e];refine AC (λf=>?_) (λ_=>AB b);refine AA (AI) λg _=>AC (λ_=>AB ⟨o!,o!⟩) (λ_=>AB b)
def XN{x:AJ}{B:Int×List AS×List Int×List Bool}(h:VA x)(G:SA x)(V:0<=B.1):As (Aj (Ec x B) ([],([],0))) λr=>r.2.length=r.1.length/\r.1.length<=256/\RL r.1:=by have a4:=h.2.2.2.1;have a9:=h.2.2.2.2.2.2.2.2;refine AV (λ(s:List AS×List Int×Int)=>0<=s.2.2/\s.2.2<=x.2.2.1.length/\s.2.1.length=s.1.length/\s.1.length<=s.2.2/\RL s.1) (λ(s:List AS×List Int×Int)=>((x.2.2.1.length:Int)-s.2.2).toNat) ⟨Ae _,d!,rfl,k!,λr hr=>by simp at hr⟩ (λs E=>?_);obtain⟨z,W,A,X,f⟩:=E;unfold Ec;have e:=Aa (x:=s.2.2+1);rw[e];refine AC (λm=>?_) (λ_=>AB ⟨A,d!,f⟩);simp only[len]at m;refine AA (AI z m) λU C=>AA (Zb a4 (G.2.2 U C.2)) λZ D=>AM (λ_=>AB ⟨⟨d!,d!,A,d!,f⟩,d!⟩) (λF=>?_);have n:=D o!;refine AA (QQ ⟨i!,i!,o!⟩) λv7 d=>AA (Bb (Ae _) d.1 d.2) λv8 v=>AA (Bb d.1 i! i!) λv9 y=>?_;have Y:=v.2;have K:=y.2;simp only[len]at K;refine AA (Ac w!) λL a=>?_;have o:=a.2.1;simp only[Ba]at o;refine AA (Ac w!) λM b=>?_;have p:=b.2.1;simp only[Ba,Bo]at p;refine AA (Ac o!) λN c=>?_;have H:=c.2.1;refine AA (Bb (Ae _) d.1) λO g=>?_;have I:=g.2;refine AA (AI z m) λP _=>AA (Bb d.1 i! i!) λQ i=>?_;have q:=i.2;simp only[len]at q;refine AA (Ac w!) λR j=>?_;have t:=j.2.1;simp only[Ba]at t;refine AA (Ac w!) λS k=>?_;have u:=k.2.1;simp only[Ba,Bo]at u;refine AA (Ac o!) λT l=>AB ?_;have J:=l.2.1;refine⟨⟨d!,d!,d!,d!,λr hr=>?_⟩,d!⟩;dsimp only at hr;rw[c.1,b.1,a.1,v.1,y.1]at hr;rcases Ao.1 hr with w|w;rcases Ao.1 w with w|w;rw[By]at w;exact f r (OT (Fl w));simp at w;rw[w];exact n.2.2.2.2.2.2.2.2;exact f r (OT (Fl w))
def T3(n:Int)(t:List AS×List Int×List Bool):Prop:=t.2.1.length=t.1.length/\t.2.2.length=t.1.length/\t.1.length<=n/\RL t.1
def XO{a:List AS×List Int}{n:Int}{t:List AS×List Int×List Bool}(h:a.2.length=a.1.length/\a.1.length<=256/\RL a.1)(hn:n<=100000)(z:T3 n t):As (Aj (Ed a) (0,(0,t))) λr=>T3 (n+256) r:=by refine AV (λ(s:Int×Int×List AS×List Int×List Bool)=>0<=s.2.1/\s.2.1<=a.1.length/\T3 (n+s.2.1) s.2.2) (λ(s:Int×Int×List AS×List Int×List Bool)=>((a.1.length:Int)-s.2.1).toNat) ⟨Ae _,d!,by simpa using z⟩ (λs y=>?_);obtain⟨d,K,q,u,L,k⟩:=y;obtain⟨I,J,v⟩:=h;unfold Ed;have e:=Aa (x:=s.2.1+1);rw[e];refine AC (λc=>?_) (λ_=>AB ⟨q,u,o!,k⟩);simp only[len]at c;refine AA (AI d c) λA _=>AC (λ_=>AB ⟨⟨d!,d!,q,u,d!,k⟩,d!⟩) (λ_=>AA (AI d c) λp f=>AA (AI d) λB _=>AA (AI d c) λC _=>AA (Q5 (v p f.2)) λD g=>AA (Ac w!) λE b=>?_);have l:=b.2.1;simp only[Ba,Bo]at l;refine AA (Ac w!) λF i=>?_;have m:=i.2.1;simp only[Ba,Bo]at m;refine AA (Ac w!) λG j=>?_;have o:=j.2.1;simp only[Ba,Bo]at o;refine AA (AI d c) λH _=>AB ?_;refine⟨⟨d!,d!,d!,d!,d!,λr hr=>?_⟩,d!⟩;dsimp only at hr;rw[b.1]at hr;rcases Ao.1 hr with w|w;exact k r w;simp at w;rw[w];exact g
def VI{b:AK}{x:BY}(h:CX b)(I:x.length<=1099511627776):As (Fx b x) λr=>CX r.2/\r.1.length<=x.length+1:=by
 refine AQ (λ_=>?_) (λg=>?_);refine AA (AY h g!) λJ m=>AB ⟨m.1,?_⟩;rw[L9];simp;simp only[len]at g;refine AA (AY h i!) λw n=>?_;obtain⟨k,a,l⟩:=n;simp only[len]at l;have e:=Aa (x:=w.1+1);refine AA (AY k g!) λK f=>AQ (λ_=>?_) (λ_=>?_);refine AA (CQ (Ae _) a) λL E=>AA (CQ o! i! i!) λM q=>?_;have u:=q.2;simp only[len]at u;refine AA (CA o!) λN F=>AB ⟨f.1,?_⟩;grind;refine AQ (λ_=>?_) (λ_=>?_);refine AA (AY f.1 g!) λC s=>?_;have v:(Ei ([(IntKind.wrap .u8 C.1)]:List Int)).length=1:=by rw[L9];rfl
 refine AA (CA o!) λO G=>AB ⟨s.1,?_⟩;grind;refine AA (CQ (Ae _) a) λP H=>AA (Qd a o!) λD _=>AA (CQ o! i! i!) λy c=>AA (AY f.1 g!) λj d=>?_;have i:=c.2;simp only[len]at i;generalize t:Ei ([(IntKind.wrap .u8 (((BitVec.toNat ((BitVec.ofInt 8 D)^^^(BitVec.ofInt 8 (IntKind.wrap .u8 (wi (1+j.1)))))):Nat):Int))]:List Int)=B;have v:B.length=1:=by rw[<-t,L9];rfl
 refine AA (CA o!) λz o=>AA (CA o!) λA p=>AB ⟨d.1,?_⟩;grind
def yk{x:Af×Int}(h:Dg x.1)(c:x.2=x.1.1+x.1.2.1.length-1):As (D9 x) λr=>r.1.2.2=r.1.1+r.1.2.1.length-1/\r.1.1=x.1.1:=by refine AA BS λv e=>AP (λa=>?_) (λ_=>?_);grind;refine AA ES λf b=>?_;rw[h.last]at b;have d:=h.2.2.2.2.1;refine AC (λa=>absurd a o!) (λ_=>AB ⟨?_,rfl⟩);grind
def wH{b:AK}{x:Int}(h:CX b)(f:x<=1000/\ -1000<=x):As (Kt b x) λr=>r.2.1.2.2=r.2.1.1+r.2.1.2.1.length-1/\r.2.1.1=1:=by refine AA (OK h f) λj d=>?_;obtain⟨c,g,i,q2,q3,q4⟩:=d;refine AA FT λk e=>AA (yk q3 (e q3)) λl a=>AB ⟨a.1,a.2.trans q4⟩
def fC{x:Af×Int}(h:Dg x.1)(p:x.1.2.2=x.1.1+x.1.2.1.length-1)(l:x.1.1<=x.2)(m:x.2<=x.1.2.2+1)(n:x.2<=1099511627776):As (J4 x) λr=>r.2=0/\Dg r.1/\r.1.1=x.2:=by obtain⟨a1,a2,a3,a4,a5,a6⟩:=id h;refine AA BS λv q=>AP (λa=>?_) (λ_=>?_);grind;refine AC (λa=>absurd a o!) (λ_=>AA ES λf d=>?_);rw[h.last]at d;have g:=Aa (x:=f+1);have j:=Aa (x:=x.1.2.2+1);have k:=Aa (x:=x.2-x.1.1);refine AC (λa=>absurd a o!) (λ_=>AC (λa=>absurd a o!) (λ_=>AC (λa=>absurd a o!) (λ_=>AA (Bb o! q! q!) λs b=>?_)));have l2:=b.2;simp only[len]at l2;refine AA (Ac w!) λt c=>AB ⟨rfl,?_,rfl⟩;refine⟨q!,q!,q!,q!,q!,λi e o=>?_⟩;grind
def Ris(l:List Int)(n:Int):Prop:= ∀(i:Nat) (a b:Int),(i:Int)+1<n->l[i]? =some a->l[i+1]? =some b->a<b
def BD(n:Int)(l:List Int):Prop:=1<=n/\n<=64/\1<=l.length/\l.length<=16/\l[0]? =some 0/\Ris l l.length/\ ∀a,l[l.length-1]? =some a->a<n
def jc{x:Int×List Int}:As (FY x) λr=>r=true↔BD x.1 x.2:=by
 unfold FY;refine AC (λc=>AB ⟨λd=>(by cases d),λh=>(by have:=h.1;omega)⟩) (λL=>AC (λc=>AB ⟨λd=>(by cases d),λh=>(by have:=h.2.1;omega)⟩) (λM=>AC (λc=>AB ⟨λd=>(by cases d),λh=>(by have:=h.2.2.1;simp only[len]at c;omega)⟩) (λy=>AC (λc=>AB ⟨λd=>(by cases d),λh=>(by have:=h.2.2.2.1;simp only[len]at c;omega)⟩) (λz=>?_))));simp only[len]at y z;refine AA (AI (Ae _)) λQ E=>?_;have f:=E.1;refine AM (λc=>AB ⟨λd=>(by cases d),λh=>?_⟩) (λo=>?_);have:=h.2.2.2.2.1;simp only[Int.toNat_zero]at f;rw[f]at this;exact absurd (BV this) c;rw[o]at f;refine AA (P:=λr=>(r= .inl false/\ ¬Ris x.2 x.2.length)\/(r= .inr ()/\Ris x.2 x.2.length)) ?_ λr hr=>?_;refine AV (λ(s:Int)=>1<=s/\s<=x.2.length/\Ris x.2 s) (λ(s:Int)=>((x.2.length:Int)-s).toNat) ⟨Ae _,o!,λi a b v=>absurd v o!⟩ (λs G=>?_);obtain⟨N,O,w⟩:=G;unfold L3;have A:=Aa (x:=s-1);have B:=Aa (x:=s+1);rw[A,B];refine AC (λk=>?_) (λk=>AB (.inr ⟨rfl,?_⟩));simp only[len]at k;refine AA (AI) λa j=>AA (AI o! k) λb u=>?_;have t:(s-1).toNat+1=s.toNat:=o!
 refine AC (λJ=>AB (.inl ⟨rfl,λH=>?_⟩)) (λm=>AB ⟨⟨o!,o!,λi p q v n l=>?_⟩,o!⟩);have:=H (s-1).toNat a b o! j.1 (by rw[t];exact u.1);omega;by_cases I:(i:Int)+1<s;exact w i p q I n l;have C:i=(s-1).toNat:=o!
 subst C;rw[t]at l;rw[j.1]at n;rw[u.1]at l;have:=BV n;have:=BV l;omega;simp only[len]at k;have:s=x.2.length:=o!
 rw[<-this];exact w;rcases hr with⟨rfl,hr⟩|⟨rfl,hr⟩;exact BK (AB ⟨λd=>(by cases d),λh=>absurd h.2.2.2.2.2.1 hr⟩);apply A4;have e:=Aa (x:=len x.2-1) i!;rw[e];refine AA (AI i! i!) λK F=>AB ?_;have g:=F.1;have D:(len x.2-1).toNat=x.2.length-1:=i!
 rw[D]at g;rw[decide_eq_true_eq];refine⟨λm=>⟨o!,o!,o!,o!,f,hr,λa j=>?_⟩,λh=>h.2.2.2.2.2.2 K g⟩;rw[g]at j;have:=BV j;omega
def BI(i:Int)(l:List Int):Prop:=1<=l.length/\l.length<=16/\l[0]? =some 0/\Ris l l.length/\ ∀a,l[l.length-1]? =some a->a<i
def BI.mono{i:Int}{l:List Int}(h:BI i l):BI (i+1) l:=⟨h.1,h.2.1,h.2.2.1,h.2.2.2.1,λa b=>by have:=h.2.2.2.2 a b;omega⟩
def BI.push{i:Int}{l m:List Int}(h:BI i l)(u:l.length<16)(r:m=l++[i]):BI (i+1) m:=by
 subst r;obtain⟨s,t,n,o,p⟩:=h;have g:(l++[i]).length=l.length+1:=k!
 refine⟨o!,o!,?_,λk a b q c d=>?_,λa c=>?_⟩;rw[CO o!];exact n;rw[g]at q;rw[CO o!]at c;by_cases f:k+1<l.length;rw[CO f]at d;exact o k a b o! c d;have j:k=l.length-1:=o!
 subst j;rw[Ch o!]at d;have e:l.length-1+1-l.length=0:=o!
 rw[e]at d;simp at d;have:=p a c;omega;rw[g]at c;rw[Ch o!]at c;have e:l.length+1-1-l.length=0:=o!
 rw[e]at c;simp at c;omega
def yi{b:AK}{x:Int}(h:CX b)(d:1<=x/\x<=64):As (LD b x) λr=>CX r.2/\BD x r.1:=by
 unfold LD;refine AA (P:=λr=>CX r.2/\BD x r.1) ?_ λr hr=>AB hr;refine AV (λ(s:Int×List Int×AK)=>1<=s.1/\s.1<=x/\BI s.1 s.2.1/\CX s.2.2) (λ(s:Int×List Int×AK)=>(x-s.1).toNat) ⟨Ae _,d.1,⟨k!,k!,k!,λi a b q=>absurd q w!,λa o=>by simp at o;omega⟩,h⟩ (λs n=>?_);obtain⟨u,v,c,g⟩:=n;unfold RY;have e:=Aa (x:=s.1+1);rw[e];refine AC (λp=>?_) (λp=>AB ⟨g,?_⟩);refine AA (AY g g!) λw f=>AQ (λ_=>?_) (λ_=>AB ⟨⟨d!,d!,c.mono,f.1⟩,d!⟩);refine AA (P:=λl=>BI (s.1+1) l) ?_ λz m=>AB ⟨⟨d!,d!,m,f.1⟩,d!⟩;refine AC (λt=>?_) (λ_=>AB c.mono);simp only[len]at t;exact AA (Ac w!) λy k=>AB (c.push o! k.1);have j:s.1=x:=o!
 rw[j]at c;exact⟨d.1,d.2,c.1,c.2.1,c.2.2.1,c.2.2.2.1,c.2.2.2.2⟩
def FR(l:List BG)(m n:Int):Prop:=(∀(i:Nat) (f:BG),(i:Int)<n->l[i]? =some f->0<f.2.1/\f.2.1<m)/\ ∀(i:Nat) (f g:BG),(i:Int)+1<n->l[i]? =some f->l[i+1]? =some g->f.2.1<g.2.1
def VB(a:AJ):Prop:=BD a.2.1 a.1/\1<=a.2.2.2.1/\a.2.2.2.1<=1099511627777/\1<=a.2.2.2.2/\a.2.2.2.2<=1073741825/\a.2.2.1.length<=256/\FR a.2.2.1 a.2.2.2.2 a.2.2.1.length
theorem OH{x:AJ}:As (C5 x) λr=>r=true↔VB x:=by
 unfold C5;refine AA jc λU w=>AP (λj=>AB ⟨λb=>(by cases b),λh=>(by rw[w.2 h.1]at j;cases j)⟩) (λj=>?_);have H:=w.1 j;refine AC (λc=>AB ⟨λb=>(by cases b),λh=>(by have:=h.2.1;omega)⟩) (λN=>AC (λc=>AB ⟨λb=>(by cases b),λh=>(by have:=h.2.2.1;omega)⟩) (λO=>AC (λc=>AB ⟨λb=>(by cases b),λh=>(by have:=h.2.2.2.1;omega)⟩) (λQ=>AC (λc=>AB ⟨λb=>(by cases b),λh=>(by have:=h.2.2.2.2.1;omega)⟩) (λR=>AC (λc=>AB ⟨λb=>(by cases b),λh=>(by have:=h.2.2.2.2.2.1;simp only[len]at c;omega)⟩) (λA=>?_)))));simp only[len]at A;refine AA (P:=λr=>(r= .inl false/\ ¬FR x.2.2.1 x.2.2.2.2 x.2.2.1.length)\/(r= .inr ()/\FR x.2.2.1 x.2.2.2.2 x.2.2.1.length)) ?_ λr hr=>?_;refine AV (λ(s:Int×Int)=>0<=s.2/\s.2<=x.2.2.1.length/\FR x.2.2.1 x.2.2.2.2 s.2/\0<=s.1/\(s.2=0->s.1=0)/\ ∀f,0<s.2->x.2.2.1[(s.2-1).toNat]? =some f->f.2.1=s.1) (λ(s:Int×Int)=>((x.2.2.1.length:Int)-s.2).toNat) ⟨Ae _,d!,⟨λi f k=>absurd k d!,λi f g k=>absurd k d!⟩,Ae _,λ_=>rfl,λf d=>absurd d d!⟩ (λs G=>?_);obtain⟨q,S,t,T,L,z⟩:=G;unfold I8;have e:=Aa (x:=s.2+1);rw[e];refine AC (λj=>?_) (λj=>AB (.inr ⟨rfl,?_⟩));simp only[len]at j;refine AA (AI q j) λu D=>?_;have a:=D.1;refine AC (λJ=>AB (.inl ⟨rfl,λn=>?_⟩)) (λK=>?_);by_cases b:s.2=0;have:=(n.1 s.2.toNat u o! a).1;have:=L b;omega;obtain⟨f,d⟩: ∃f,x.2.2.1[(s.2-1).toNat]? =some f:=⟨_,Au o!⟩
 have m:(s.2-1).toNat+1=s.2.toNat:=o!
 have:=n.2 (s.2-1).toNat f u o! d (by rw[m];exact a);have:=z f o! d;omega;refine AA (AI q j) λv E=>?_;have B:v=u:=by have:=E.1;rw[a]at this;exact(BV this).symm
 subst B;refine AC (λI=>AB (.inl ⟨rfl,λn=>?_⟩)) (λy=>?_);have:=(n.1 s.2.toNat v o! a).2;omega;refine AA (AI q j) λM F=>AB ?_;have C:M=v:=by have:=F.1;rw[a]at this;exact(BV this).symm
 subst C;refine⟨⟨d!,d!,⟨λi f k d=>?_,λi f g k d p=>?_⟩,d!,λb=>absurd b d!,λf _ d=>?_⟩,d!⟩;dsimp only at k;by_cases l:(i:Int)<s.2;exact t.1 i f l d;have o:i=s.2.toNat:=o!
 subst o;rw[a]at d;have:=BV d;subst this;exact o!;dsimp only at k;by_cases l:(i:Int)+1<s.2;exact t.2 i f g l d p;have o:i=(s.2-1).toNat:=o!
 have m:i+1=s.2.toNat:=o!
 rw[m,a]at p;have:=BV p;subst this;rw[o]at d;have:=z f o! d;omega;dsimp only at d⊢;have m:(s.2+1-1).toNat=s.2.toNat:=o!
 rw[m,a]at d;have:=BV d;rw[this];simp only[len]at j;have:s.2=x.2.2.1.length:=o!
 rw[<-this];exact t;rcases hr with⟨rfl,hr⟩|⟨rfl,hr⟩;exact BK (AB ⟨λb=>(by cases b),λh=>absurd h.2.2.2.2.2.2 hr⟩);exact A4 (AB ⟨λ_=>⟨H,o!,o!,o!,o!,o!,hr⟩,λ_=>rfl⟩)
end Go.Pm
