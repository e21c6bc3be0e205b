import Derived.Test.YtdbincbpjobdpaaGreatK2
import Derived.KernelRfl
import Derived.ProofKit
import Derived.Shelf.SlSortCmp.InsertionK
noncomputable section
set_option linter.all false
open Option renaming some->Y
open List renaming length->W
open Go renaming Ψ->S
open Bool renaming false->X
open Bool renaming true->E
open Option renaming none->D
open Go renaming Ω->Z
open Option renaming some->δ,none->ε,bind->σ
open Bool renaming true->ζ,false->η
open List renaming length->θ,replicate->ς
open Go.IntKind renaming wrap->ι
open Sum renaming elim->ν
open Nat renaming beq->ξ
open Decidable renaming decide->τ
open _root_ renaming Nat->V,Int->U
open Go renaming Program->z
namespace Go.Ab
variable {P:Program}{N:Nat}
variable {a m:Type}{N:Nat}{F:FuncId}{P:Program}{b:S Qd}{c:S Ad}{d:Code}{e:Bool}{f:As}{g:Int}{h:S TV}{i:World}{j:Ty}{k:Ss}{l:Ad}{o:S Nat}{p:IntKind}{q:Value}{r:Func}{s:Sem}
def KC.mono{B:S V}(h:KC P N o d s)(f:∀t,t∈o->t∈B):KC P N B d s:=λenv H k r ok g=>by obtain⟨e,a,A,q1,q2,q3,q4⟩:=h env H k r ok g;exact⟨e,a,A,q1,q2,q3,q4.mono f⟩
def ux{hs:S Hint}{A B:S V}(hr:KC P N B d s)(c:∀t,t∈B->t∈A)(b:∀t,t∈sK hs d->t∈A):KC P N A d (ww (hintOf hs d) A s):=by
 unfold sK at b;generalize hintOf hs d=o at b⊢;cases o with
 |none=>exact hr.mono c
 |some h=>exact λenv H k r ok f=>zu hr c (h:=h.rel (W H)) (λt e=>b t (by rw[Tz]at e;exact e)) env H k r ok f
def AFE{hs:S Hint}{A B:S V}{s:AEI}(hr:KC P N B d s.main)(i:AB8 P N B d s.pre)(g:KC P N B (nP d) s.suf)(e:∀t,t∈B->t∈A)(b:∀t,t∈sK hs (.loop d)->t∈A):KC P N A (.loop d) (vA (hintOf hs (.loop d)) A s):=by
 unfold sK at b;generalize hintOf hs (.loop d)=o at b⊢;cases o with
 |none=>exact λenv H k r ok a=>by cases a
 |some h=>
  intro R env H k r ok a;have a:vA (Y h) A s env H k=Y r:=a;have b:∀t,t∈(h.rel (W H)).tmps->t∈A:=λt c=>b t (by rw[Tz]at c;exact c);cases f:ξ h.kind 8 with
  |true=>rw[show vA (Y h) A s env H k=ACe (h.rel (W H)) A s env H k by simp only[vA,f]]at a;exact AFF i g e b env H k r ok a
  |false=>rw[show vA (Y h) A s env H k=w7 (h.rel (W H)) A (AFM (h.rel (W H)).slots s.main) env H k by simp only[vA,f]]at a;exact AFD (AFN hr e λt c=>b t (by unfold Hint.tmps;simp only[List.mem_append];exact .inl (.inr c))) (λ_ q=>q) b env H k r ok a
def Wu:∀{env}{p:V×TV},p∈jD env->p∈env/\Lq p.2.refs=[]
 |(t,v)::r,p,h=>by simp only[jD]at h;split at h;rename_i a;rcases Av.1 h with rfl|h;exact⟨JV,a⟩;exact⟨Ca _ (Wu h).1,(Wu h).2⟩;exact⟨Ca _ (Wu h).1,(Wu h).2⟩
theorem ADl(Q:Wx P k){f:Operand}{B:Array Tmp}{b:Code}:KC P N o (.rangeFunc f B d b) (ABh P k N F f B d b):=by
 intro R env H A r ok q;unfold ABh at q;dsimp only at q;split at q;rename_i G first m hf
 split at q;rename_i Z;have Y_:BS (B3 env) f=.fn (.func G) first m:=by rw[Lx,hf];rfl
 have E_:(Dx.lp X F N (jD env) B d b .ready).ok (H++[.lp X F N (jD env) B d b .ready]):=λp S id al t n hm=>by have:=oO hm;rw[(Wu S).2]at this;cases this
 have U:CL H (H++[.lp X F N (jD env) B d b .ready]):=CL.push H _;obtain⟨v,i,q1,q2,q3,q4,q5⟩:=Q (.fn G) _ _ _ r (λv X_=>by simp only[Ak,Bp,A9]at X_;rcases X_ with(⟨u,_,rfl⟩|rfl)|⟨u,_,rfl⟩;exact ln u;exact KB trivial;exact ln u) (QF ok.heap E_) q
 have y:∀{ro}{a n e p c O}{s}{x},i[θ H]?=Y (.lp ro a n e p c O s)→ro=X→(∀L:nG,L.state=s.st→L.pending=s.pend→AFm P N (B3 env) (θ H) (VM x (B3 env) (BL (i.set (θ H) .dead))) ((BL i).set (θ H) (.lp L)))→A x env (i.set (θ H) .dead)=Y r→
   ∃V g M,tW P N (.rangeFunc f B d b) (B3 env) (BL H) (VM V (B3 g) (BL M))/\A V g M=Y r/\OL g M/\EG o env H g M:=by
  intro ro a n e p c O s x w T hq q;subst T;have K:CL i (i.set (θ H) .dead):=CL.set w rfl λ_ _ _ _ _ h=>by cases h
  have st:=(U.trans q5).trans K;refine⟨x,env,_,EE (λ_ e=>by cases e) (my (B3 (jD env)) (λp S=>?_) Y_ Z ?_),q,⟨st.env ok.env,R0 K q4 trivial⟩,st,λ_ _ _=>rfl⟩;obtain⟨u,hu,rfl⟩:=Bp.1 S;exact Bp.2 ⟨u,(Wu hu).1,rfl⟩;have J:Ej P G _ _ _:=q1;have z:(first.map tvA++[TV.c (.raw (.yf (θ H)))]++m.map tvA).map TV.enc=first++[.yf (BL H).length]++m:=by
   have W:∀l:Ψ Ad,(l.map tvA).map TV.enc=l:=by
    intro l;rw[PJ];conv=>rhs;rw[<-fj l]
    grind[List.map_congr_left,jN]
   rw[LR,LR,W,W,Cd];rfl
  rw[z,Rr]at J;apply J.mono;rintro _ _ ⟨rfl,rfl⟩;rw[Cd];have I:BL i=(BL i).set (θ H) (.lp ⟨n,B3 e,p,c,O,s.st,s.pend⟩):=by
   have hg:(BL i)[θ H]?=Y (.lp ⟨n,B3 e,p,c,O,s.st,s.pend⟩):=by rw[EK,w];rfl
   apply JW;intro j;by_cases ad:j=θ H<;>grind
  rw[I];exact hq _ rfl rfl
 have look:∀L:nG,θ H<θ i->((BL i).set (θ H) (.lp L))[θ H]?=Y (.lp L):=λL h=>by grind[List.getElem?_set_self,Cd]
 have dead:∀L:nG,((BL i).set (θ H) (.lp L)).set (θ H) .dead=BL (i.set (θ H) .dead):=λL=>by rw[Yr,LY];rfl
 split at q2;rename_i w;refine y w rfl (λL C D_=>⟨L,look L (HK w),by rw[C];simp[LS.st],?_⟩) q2;rw[D_,dead];exact⟨rfl,rfl,rfl⟩;rename_i w;refine y w rfl (λL C D_=>⟨L,look L (HK w),by rw[C];simp[LS.st],?_⟩) q2;rw[D_,dead];exact J9.ret ⟨rfl,rfl,rfl⟩;rename_i x w;refine y w rfl (λL C D_=>⟨L,look L (HK w),by rw[C];simp[LS.st],?_⟩) q2;rw[D_,dead];exact J9.exit ⟨rfl,rfl,rfl⟩;cases q2;cases q;cases q
theorem AEi{m}{p:Yl}{hs:S Hint}(h:pA d m=Y p):∀t∈p.tmps,t∈PN hs d++PN hs m:=by obtain⟨o,v,l,q,w,n,r,x,s,y,u,z,rfl,rfl,f,g,i,j,k,_⟩:=pB h;obtain⟨_,_,_,_,_,_,l1⟩:=sR f;obtain⟨_,_,_,_,_,_,l2⟩:=sS g;obtain⟨_,_,_,_,_,_,_,_,_,_,_,_,c⟩:=sT i;obtain⟨_,_,_,_,_,_,_,_,_,_,_,_,_,_,_,a⟩:=sU j;obtain⟨_,_,_,_,_,_,_,e⟩:=sV k;intro t b;simp only[PN,l1,l2,c,a,e,pE,Ak];simp only[Yl.tmps]at b;grind
theorem AHp(S:∀c∈b,c.Ok P)(O:Wx P k)(y:FuncId)(d:Ψ Hint):∀c:Code,KC P N (PN d c) c (tF P b k N y d c)/\(∀m r,c=.seq m r->KC P N (PN d r) r (tF P b k N y d r))/\AB8 P N (PN d c) c (fX P b k N y d c).pre/\KC P N (PN d c) (nP c) (fX P b k N y d c).suf:=by
 have L:∀A c,KC P N A c QE:=λA c R env H x r ok j=>by cases j
 have u:∀A c,AB8 P N A c QE:=λA c R env H x r ok j=>by cases j
 intro c;induction c with
 |skip=>exact⟨λenv H x r ok j=>⟨.normal,env,H,EE (λ_ e=>by cases e) (J9.skip ⟨rfl,rfl,rfl⟩),j,ok,EG.refl _ _ _⟩,λ_ _ e=>(by cases e),u _ _,L _ _⟩
 |ret=>exact⟨λenv H x r ok j=>⟨.ret,env,H,EE (λ_ e=>by cases e) (J9.ret ⟨rfl,rfl,rfl⟩),j,ok,EG.refl _ _ _⟩,λ_ _ e=>(by cases e),u _ _,L _ _⟩
 |exit id=>exact⟨λenv H x r ok j=>⟨.exit id,env,H,EE (λ_ e=>by cases e) (J9.exit ⟨rfl,rfl,rfl⟩),j,ok,EG.refl _ _ _⟩,λ_ _ e=>(by cases e),u _ _,L _ _⟩
 |seq a g D_ w=>
  refine⟨?_,λm r e=>(by injection e with V C;subst V C;exact w.1),?_,?_⟩;rotate_left;by_cases I:∃m z,g=.seq m z;obtain⟨m,z,rfl⟩:=I;intro env H x r ok j;obtain⟨e,env1,J,a1,k1,v,M⟩:=D_.1 env H _ r ok (show tF P b k N y d a env H _=Y r from j);cases e with
  |normal=>obtain⟨C,env2,K,a2,Y_,F,Z⟩:=w.2.2.1 env1 J x r v k1;refine⟨C,env2,K,J9.mono a1.awp ?_,Y_,F,(EG.trans ok.env M Z).mono λt l=>Ak.2 (.inl l)⟩;rintro _ _ _ ⟨rfl,rfl,rfl⟩;exact a2
  |_=>refine⟨_,env1,J,J9.mono a1.awp ?_,k1,v,M.mono λt l=>Ak.2 (.inl (Ak.2 (.inl l)))⟩;rintro _ _ _ ⟨rfl,rfl,rfl⟩;exact⟨rfl,rfl,rfl⟩
  intro env H x r ok j;have j:tF P b k N y d a env H x=Y r:=by cases g<;>first|exact j|exact O! ⟨_,_,rfl⟩ I
  obtain⟨e,env1,J,a1,k1,v,M⟩:=D_.1 env H x r ok j;have C:∀Q,am P N (.seq a g) (B3 env) (BL H) Q=J9 P N a (B3 env) (BL H) Q:=λQ=>by cases g<;>first|rfl|exact O! ⟨_,_,rfl⟩ I
  exact⟨e,env1,J,by rw[C];exact a1.awp,k1,v,M.mono λt l=>Ak.2 (.inl (Ak.2 (.inl l)))⟩;have mo:∀t,t∈PN d g->t∈PN d (.seq a g):=λt l=>Ak.2 (.inl (Ak.2 (.inr l)));intro R env H x r ok j;by_cases I:∃m z,g=.seq m z;obtain⟨m,z,rfl⟩:=I;exact KC.mono w.2.2.2 mo env H x r ok j;have q:KC P N (PN d (.seq a g)) g (tF P b k N y d g):=KC.mono w.1 mo;have j:tF P b k N y d g env H x=Y r:=by cases g<;>first|exact j|exact O! ⟨_,_,rfl⟩ I
  have C:nP (.seq a g)=g:=by cases g<;>first|rfl|exact O! ⟨_,_,rfl⟩ I
  rw[C];exact q env H x r ok j;have U:KC P N (PN d a++PN d g) (.seq a g) (λenv H x=>tF P b k N y d a env H λe n G=>match e with|.normal=>tF P b k N y d g n G x|e=>x e n G):=by
   intro R env H x r ok j;obtain⟨e,env1,J,a1,k1,v,M⟩:=D_.1 env H _ r ok j;cases e with
   |normal=>obtain⟨C,env2,K,a2,Y_,F,Z⟩:=w.1 env1 J x r v k1;refine⟨C,env2,K,EE (λ_ e=>by cases e) (J9.seq (a1.awp.mono ?_)),Y_,F,EG.trans ok.env M Z⟩;rintro _ _ _ ⟨rfl,rfl,rfl⟩;exact a2.awp
   |_=>refine⟨_,env1,J,EE (λ_ e=>by cases e) (J9.seq (a1.awp.mono ?_)),k1,v,M.mono λt l=>Ak.2 (.inl l)⟩;rintro _ _ _ ⟨rfl,rfl,rfl⟩;exact⟨rfl,rfl,rfl⟩
  intro R env H x r ok j;by_cases I:∃m z,g=.seq m z;obtain⟨m,z,rfl⟩:=I;simp only[tF,fX]at j;split at j;rename_i p hp;obtain⟨env1,J,a1,k1,v,M⟩:=AEh S hp ok j;obtain⟨C,env2,K,a2,Y_,F,Z⟩:=w.2.1 m z rfl env1 J x r v k1;refine⟨C,env2,K,EE (λ_ e=>by cases e) (J9.seq (a1.mono ?_)),Y_,F,(EG.trans ok.env M Z).mono λt l=>?_⟩;intro e E_ h hx;cases e with
  |normal=>exact J9.seq (hx.mono (by rintro _ _ _ ⟨rfl,rfl,rfl⟩;exact a2.awp))
  |_=>exact hx.elim
  show t∈(PN d a++((PN d m++PN d z)++vX d m z))++vX d a (.seq m z);rcases Ak.1 l with l|l;rcases Ak.1 (AEi (hs:=d) hp t l)with h|h<;>simp[h];simp[l];exact U.mono (λt l=>Ak.2 (.inl l)) env H x r ok j;have j:tF P b k N y d (.seq a g) env H x=Y r:=j;rw[AHq λm r e=>I ⟨m,r,e⟩]at j;have hA:∀t,t∈vX d a g->t∈PN d (.seq a g):=λt l=>Ak.2 (.inr l);have hB:∀t,t∈PN d a++PN d g->t∈PN d (.seq a g):=λt l=>Ak.2 (.inl l);unfold vX at hA;generalize tS d a g=o at j hA;cases o with
  |none=>exact U.mono hB env H x r ok j
  |some h=>exact zu U hB (h:=h.rel (θ H)) (λt l=>hA t (by rw[Tz]at l;exact l)) env H x r ok j
 |cond c a g D_ w=>have W:KC P N (PN d a++PN d g) (.cond c a g) (ACM c (tF P b k N y d a) (tF P b k N y d g)):=AEj D_.1 w.1;refine⟨?_,λ_ _ e=>(by cases e),u _ _,L _ _⟩;intro R;exact ux (hs:=d) (A:=PN d (.cond c a g)) W (λt l=>Ak.2 (.inl l)) (λt l=>Ak.2 (.inr l))
 |block id g X_=>have W:KC P N (PN d g) (.block id g) (AA4 id (tF P b k N y d g)):=AC8 X_.1;refine⟨?_,λ_ _ e=>(by cases e),u _ _,L _ _⟩;intro R;exact ux (hs:=d) (A:=PN d (.block id g)) W (λt l=>Ak.2 (.inl l)) (λt l=>Ak.2 (.inr l))
 |loop g X_=>exact⟨AFE (hs:=d) (A:=PN d (.loop g)) X_.1 X_.2.2.1 X_.2.2.2 (λt l=>Ak.2 (.inl l)) (λt l=>Ak.2 (.inr l)),λ_ _ e=>(by cases e),u _ _,L _ _⟩
 |region id s B=>
  refine⟨?_,λ_ _ e=>(by cases e),(by cases B<;>exact u _ _),(by cases B<;>exact L _ _)⟩;cases B with
  |false=>
   have W:KC P N (pE s.toList) (.region id s X) (λenv H x=>match PW N s.toList with
    |true=>AAX P b k s (guards s) X s.toList 0 env H λn G=>x .normal n G
    |false=>D):=by
    intro R env H x r ok j;dsimp only at j;split at j;rename_i T;obtain⟨n,G,r1,r2,r3,r4⟩:=jG (N:=N) S O _ _ _ _ _ _ ok j;refine⟨.normal,n,G,EE (λ_ e=>by cases e) (Fx T ?_),r2,r3,r4⟩;show Xd P N s s.toList (B3 env) (BL H) (λV K=>Exit.normal=Exit.normal/\V=B3 n/\K=BL G);simpa using r1;cases j
   intro R;exact ux (hs:=d) (A:=PN d (.region id s X)) W (λt l=>Ak.2 (.inl l)) (λt l=>Ak.2 (.inr l))
  |true=>
   intro R env H x r ok j;simp only[tF,fX]at j;split at j;rename_i T;simp only[BZ]at T;obtain⟨n,G,r1,r2,r3,r4⟩:=Zf (N:=N) S O _ _ _ _ _ _ ok j;refine⟨.normal,n,G,EE (λ_ e=>by cases e) (lC T.1.1.1 _ T.1.1.2 T.1.2 ?_ ?_),r2,r3,r4.mono λt l=>Ak.2 (.inl ?_)⟩;have:=ae T.2;rw[B3,PJ];exact this;show RA P N s (ABe s) [] (B3 env) (BL H) (λV K=>Exit.normal=Exit.normal/\V=B3 n/\K=BL G);simpa using r1;unfold vq at l;obtain⟨i,_,hi⟩:=PK.1 l;cases ho:s[i]? with
   |none=>rw[ho]at hi;cases hi
   |some o=>
    rw[ho]at hi;refine PK.2 ⟨o,?_,hi⟩;have:s.toList[i]?=Y o:=by simpa using ho
    exact BP this
   cases j
 |rangeFunc f ps a g _ _=>exact⟨ADl O,λ_ _ e=>(by cases e),u _ _,L _ _⟩
 |_=>exact⟨λenv H x r ok j=>(by simp only[tF,fX,QE]at j;cases j),λ_ _ e=>(by cases e),u _ _,L _ _⟩
theorem rU(f:∀c∈b,c.Ok P)(e:Wx P k)(g:FuncId)(d:S Hint)(c:Code):KC P N (PN d c) c (tF P b k N g d c):=by grind[AHp]
end Go.Ab
namespace Go.Ab
def eJ:V->S TV->Bi
 |_,[]=>[]
 |i,v::r=>(i,v)::eJ (i+1) r
def oQ(P:z)(env:Bi)(H:As):S ResultVar->Z (S TV)
 |[]=>Y []
 |.tmp t::r=>match oQ P env H r with|some vs=>Y (env.get t::vs)|none=>D
 |.cell a t::r=>match oQ P env H r with|some vs=>loadT P H t (env.get a) λv=>Y (v::vs)|none=>D
def zr:Exit->Bool
 |.normal=>E
 |.ret=>E
 |_=>X
variable {a m:Type}{N:Nat}{F:FuncId}{P:Program}{b:S Qd}{c:S Ad}{e:Bool}{f:As}{g:Int}{h:S TV}{i:World}{j:Ty}{l:Ad}{p:IntKind}{q:Value}{r:Func}
def AKE(P:z)(fn:Func)(k:TV->As->Z a):Exit->Bi->As->Z a:=λe env H=>
 match zr e with
 |true=>match oQ P env H fn.results.toList with|some vs=>k (one vs) H|none=>D
 |false=>D
def AAa:Bi->S Tmp->S TV->Bi
 |env,t::ts,v::vs=>AAa (env.put t v) ts vs
 |env,_,_=>env
def AFr(id:V)(k:TV->As->Z a):Exit->Bi->As->Z a:=λe _ H=>
 match H[id]? with
 |some (.lp X F n env ps R b _)=>
  match e with
  |.normal=>k (.c (.bl E)) (H.set id (.lp X F n env ps R b .ready))
  |.ret=>k (.c (.bl X)) (H.set id (.lp X F n env ps R b .ret))
  |.exit x=>k (.c (.bl X)) (H.set id (.lp X F n env ps R b (.exit x)))
  |_=>D
 |_=>D
noncomputable def ABp(P:z)(cs:S Qd)(call:Ss)(hs:FuncId->S Hint)(id:V)(vs:S TV)(H:As){R:Type}(k:TV->As->Z R):Z R:=
 match H[id]? with
 |some (.lp X F n env ps a b .ready)=>
  match ξ (W vs) ps.size&&ps.toList.all λt=>Nat.blt t n with
  |true=>tF P cs call n F (hs F) a (AAa env ps.toList vs) H λe env1 H1=>
   match e with
   |.normal=>
    match H1[id]? with
    |some (.lp X F1 n1 e1 ps1 a1 b1 .ready)=>tF P cs call n F (hs F) b env1 (H1.set id (.lp X F1 n1 e1 ps1 a1 b1 .busy)) (AFr id k)
    |_=>D
   |_=>D
  |false=>D
 |_=>D
noncomputable def rk(P:z)(cs:S Qd)(hs:FuncId->S Hint):V->Ss
 |0=>λ_ _ _ _=>D
 |n+1=>λtg vs H k=>
  match tg with
  |.fn F=>
   match P.funcs[F]? with
   |some fn=>
    match fn.body with
    |some c=>match Nat.ble (W vs) fn.ntmps with|true=>tF P cs (rk P cs hs n) fn.ntmps F (hs F) c (eJ 0 vs) H (AKE P fn k)|false=>D
    |none=>D
   |none=>D
  |.yd id=>ABp P cs (rk P cs hs n) hs id vs H k
def uw(bt:Ty):(rs:S Ty)->DL rs->bt.D->DL (rs++[bt])
 |[],_,b=>b
 |[_],y,b=>(y,b)
 |_::u::r,y,b=>(y.1,uw bt (u::r) y.2 b)
def rQ(vs:S TV):S V:=vs.flatMap λv=>Lq v.refs
def AKB(P:z)(fn:Func)(rs:S Ty):Exit->Bi->As->Z (DL rs):=λe env H=>
 match zr e with
 |true=>
  match oQ P env H fn.results.toList with
  |some vs0=>match Ir (rQ vs0) env H with|(ef,hf)=>match oQ P ef hf fn.results.toList with|some vs=>inp rs vs|none=>D
  |none=>D
 |false=>D
def AKC(P:z)(fn:Func)(bt:Ty)(rs:S Ty):Exit->Bi->As->Z (DL (rs++[bt])):=λe env H=>
 match zr e with
 |true=>
  match oQ P env H fn.results.toList with
  |some vs0=>
   match Ir (rQ vs0++(match (H[0]? :Z Dx)with|some (.live _ cs)=>Lq cs|_=>[])) env H with
   |(ef,hf)=>
    match oQ P ef hf fn.results.toList,(hf[0]? :Z Dx)with
    |some vs,Y (.live _ cs)=>match inp rs vs,bt.all cs with|some y,Y b=>Y (uw bt rs y b)|_,_=>D
    |_,_=>D
  |none=>D
 |false=>D
def uu:V->TV->S TV->S TV
 |0,v,l=>v::l
 |n+1,v,x::l=>x::uu n v l
 |_+1,v,[]=>[v]
noncomputable def ACD(P:z)(cs:S Qd)(hs:FuncId->S Hint)(n:V)(F:FuncId)(ds rs:S Ty)(x:DL ds):Z (DL rs):=
 match P.funcs[F]? with
 |some fn=>
  match fn.body with
  |some c=>match Nat.ble (yr ds x).length fn.ntmps with|true=>tF P cs (rk P cs hs n) fn.ntmps F (hs F) c (eJ 0 (yr ds x)) [] (AKB P fn rs)|false=>D
  |none=>D
 |none=>D
noncomputable def AEY(P:z)(cs:S Qd)(hs:FuncId->S Hint)(n:V)(F:FuncId)(pos:V)(bt:Ty)(ds rs:S Ty)(b:bt.D)(x:DL ds):Z (DL (rs++[bt])):=
 match P.funcs[F]? with
 |some fn=>
  match fn.body with
  |some c=>
   match Nat.ble (uu pos (.c (.raw (.ptr 0 0 0))) (yr ds x)).length fn.ntmps with
   |true=>tF P cs (rk P cs hs n) fn.ntmps F (hs F) c (eJ 0 (uu pos (.c (.raw (.ptr 0 0 0))) (yr ds x))) [.live X (bt.lvs b)] (AKC P fn bt rs)
   |false=>D
  |none=>D
 |none=>D
theorem eK:∀l i,B3 (eJ i l)=env0 i (l.map TV.enc)
 |[],_=>rfl
 |v::r,i=>by have:=eK r (i+1);grind[B3,eJ,env0]
def kz{H:As}:∀{l:S TV}{i},(∀v∈l,v.ok H)->∀p∈eJ i l,p.2.ok H
 |[],_,_,p,a=>by cases a
 |v::r,i,h,p,a=>by simp only[eJ]at a;rcases Av.1 a with rfl|a;exact h v q!;exact kz (λw b=>h w (by simp[b])) p a
theorem mb{P}{env:Bi}{H:As}(d:∀p∈env,p.2.ok H)(c:∀e∈H,e.ok H):∀{l}{b:S TV},oQ P env H l=Y b->Ti P (B3 env) (BL H) l=Y (b.map TV.enc)/\∀v∈b,v.ok H
 |[],b,h=>by simp only[oQ,Ar]at h;subst h;exact⟨rfl,λv g=>by cases g⟩
 |.tmp t::r,b,h=>by simp only[oQ]at h;split at h;rename_i i f;obtain⟨q1,q2⟩:=mb d c f;grind[Ti,oR,VJ,lR];cases h
 |.cell a t::r,b,h=>by simp only[oQ]at h;split at h;rename_i i f;obtain⟨q1,q2⟩:=mb d c f;obtain⟨u,j,k,m⟩:=sO c (lR d a) h;grind[Ti,oR,VJ];cases h
def vR{env:Bi}(d:∀p∈env,p.2.ok f)(c:∀e∈f,e.ok f)(b:oQ P env f r.results.toList=Y h):jV P r (B3 env) (BL f)=Y (rL (h.map TV.enc)):=by
 unfold jV;rw[(mb d c b).1];cases h with
 |nil=>rfl
 |cons v H=>
  cases H with
  |nil=>rfl
  |cons u H=>rfl
def xS:∀a(b:S TV)env,R2 (B3 env) a (b.map TV.enc)=B3 (AAa env a b)
 |[],_,_=>rfl
 |_::_,[],_=>rfl
 |t::a,v::b,env=>by simp only[B4,R2,AAa];rw[<-kv];exact xS a b (env.put t v)
def AAb{H:As}:∀b(a:S TV)(env:Bi),(∀p∈env,p.2.ok H)->(∀v∈a,v.ok H)->∀p∈AAa env b a,p.2.ok H
 |[],_,_,h,_=>h
 |_::_,[],_,h,_=>h
 |t::b,v::a,env,h,hv=>AAb b a (env.put t v) (cg (d:=Y t) h (hv v q!)) λu c=>hv u (by simp[c])
def AIL{d:As}{c}{F n env ps a b}{s H}(h:(Dx.lp e F n env ps a b s).ok f):(Dx.lp c F n env ps a b H).ok d:=h
theorem ACf{F n env ps a b}{s s':LS}(h:f[N]?=Y (.lp X F n env ps a b s)):CL f (f.set N (.lp X F n env ps a b s')):=CL.set h rfl (λ_ _ _ _ _ h=>by cases h) λ_ _ _ _ _ _ _ _ e=>k!
def ABQ{F n env ps a b}{s:LS}(h:f[N]?=Y (.lp e F n env ps a b s)):(BL f)[N]?=Y (.lp ⟨n,B3 env,ps,a,b,s.st,s.pend⟩):=by rw[EK,h];rfl
theorem ADp{P:Program}{cs:List Qd}(K: ∀c∈cs,c.Ok P){hs:FuncId→List Hint}{g:Ss}(J:Wx P g){R:Type}{id:Nat}{S:List TV}{H:As}{k:TV→As→Option R}{r:R}(hv: ∀v∈S,v.ok H)(hH: ∀e∈H,e.ok H)
  (h:ABp P cs g hs id S H k=some r): ∃v d,zE P (S.map TV.enc) (BL H) v.enc (BL d) (.yd id)/\k v d=some r/\v.ok d/\(∀e∈d,e.ok d)/\CL H d:=by
 unfold ABp at h;split at h;rename_i F n env ps a b he;split at h;rename_i hb;simp only[BZ]at hb;have M: ∀p∈env,p.2.ok H:=λp hp x hx=>by
  have:=(hH _ (BP he)) p hp;cases x with
  |own i v t m=>grind
  |_=>trivial
 obtain⟨e,env1,T,a1,k1,w,s1⟩:=rU (N:=n) K J F (hs F) a _ H _ r ⟨AAb ps.toList S env M hv,hH⟩ h;split at k1;split at k1;rename_i F1 n1 Y_ z U V s;have B:CL T _:=ACf (s':=.busy) s;obtain⟨x,env2,D_,a2,j,O,s2⟩:=rU (N:=n) K J F (hs F) b _ _ _ r ⟨B.env w.env,R0 B w.heap (AIL (w.heap _ (BP s)))⟩ k1;unfold AFr at j;split at j;rename_i F2 n2 Z A W X_ s0 u
 have l: ∀(v:Bool) (C:LS),k (.c (.bl v)) (D_.set id (.lp false F2 n2 Z A W X_ C))=some r→(∀L:nG,(BL D_)[id]? =some (.lp L)→L=⟨n2,B3 Z,A,W,X_,s0.st,s0.pend⟩→AFs id (DW (.bool v) (BL (D_.set id (.lp false F2 n2 Z A W X_ C)))) x (B3 env2) (BL D_))→
   ∃v d,zE P (S.map TV.enc) (BL H) v.enc (BL d) (.yd id)/\k v d=some r/\v.ok d/\(∀e∈d,e.ok d)/\CL H d:=by
  intro v C hk hq;have Q:CL D_ _:=ACf (s':=C) u;refine⟨.c (.bl v),_,?_,hk,KB trivial,R0 Q O.heap (AIL (O.heap _ (BP u))),((s1.step.trans B).trans s2.step).trans Q⟩;intro N o c f env0 ho I hf q;apply Jw.yield ho I hf (ABQ he);grind[List.length,List.length_map,Array.length_toList,Nat.eq_of_beq_eq_true];simp_all;show J9 P n a (R2 (B3 env) ps.toList (c.args.toList.map (BS env0))) (BL H) _;rw[q,xS];apply a1.awp.mono;rintro _ _ _ ⟨rfl,rfl,rfl⟩;refine⟨rfl,_,ABQ s,rfl,?_⟩;have e3:(BL T).set id (.lp ⟨n1,B3 Y_,z,U,V,.busy,LS.pend .ready⟩)=BL (T.set id (.lp false F1 n1 Y_ z U V .busy)):=by rw[LY];rfl
  show J9 P n b (B3 env1) ((BL T).set id (.lp ⟨n1,B3 Y_,z,U,V,.busy,LS.pend .ready⟩)) _;rw[e3];apply a2.awp.mono;rintro _ _ _ ⟨rfl,rfl,rfl⟩;exact hq _ (ABQ u) rfl
 split at j;refine l true .ready j λL G E_=>⟨L,G,rfl,?_⟩
 subst E_;rw[LY];rfl;refine l false .ret j λL G E_=>⟨L,G,rfl,?_⟩
 subst E_;rw[LY];rfl;rename_i y;refine l false (.exit y) j λL G E_=>⟨L,G,rfl,?_⟩
 subst E_;rw[LY];rfl;cases j;cases j;cases k1;cases k1;cases h;cases h
theorem kh{P}{j:S Qd}(b:∀c∈j,c.Ok P){m:FuncId->S Hint}:∀n,Wx P (rk P j m n)
 |0=>by grind[rk]
 |n+1=>by
  intro z A H k r p l h;cases z with
  |yd id=>exact ADp b (kh b n) p l h
  |fn F=>
  simp only[rk]at h;split at h;rename_i fn y;split at h;rename_i c w;split at h;rename_i hn;obtain⟨e,d,f,a1,k1,a,q⟩:=rU (N:=fn.ntmps) b (kh b n) F (m F) c (eJ 0 A) H _ r ⟨kz p,l⟩ h;unfold AKE at k1;split at k1;rename_i x;split at k1;rename_i s o;refine⟨one s,f,Km y w t! ?_,k1,yP (mb a.env a.heap o).2,a.heap,q.step⟩;rw[<-eK];apply a1.awp.mono;rintro _ _ _ ⟨rfl,rfl,rfl⟩;have g:∃v t i,jV P fn (B3 d) (BL f)=Y v/\PC (BL H).length v (BL f) t i/\DW (one s).enc (BL f) t i:=⟨_,_,_,vR a.env a.heap o,PC.refl _ _ (by rw[Cd,Cd];exact q.step.len),by rw[tP],rfl⟩
  rename_i u;cases u<;>first|exact g|cases x
  cases k1;cases k1;cases h;cases h;cases h
def Dq.tup{b a}(h:Dq b a):Xc (.tup b) (.tup a):=by
 intro x c r;cases r with
 |tup g hr=>refine .tup (by rw[g,h.1]) λj i d f e=>?_;obtain⟨v,q1,q2⟩:=h.2 j i f;exact q2 _ _ (hr j v d q1 e)
def Xi{b}(h:Dq c b):Xc (rL c) (rL b):=by
 match c,b,h with
 |[],[],h=>exact Xc.refl _
 |[v],[w],h=>obtain⟨u,q1,q2⟩:=h.2 0 w rfl;simp at q1;subst q1;exact q2
 |v::u::r,w::x::s,h=>exact Dq.tup h
def P0:∀a x,∀v∈nr a x,Pure v
 |[],_,v,h=>by cases h
 |[t],x,v,h=>by simp only[nr,A9]at h;subst h;exact t.enc_pure x
 |t::u::r,x,v,h=>by simp only[nr]at h;rcases Av.1 h with rfl|h;exact t.enc_pure x.1;exact P0 (u::r) x.2 v h
def Yi(h:∀v∈c,Pure v):Pure (rL c):=by
 match c,h with
 |[],_=>rfl
 |[v],h=>exact h v q!
 |v::u::r,h=>exact(Dv _ _).2 h
theorem vT{a H2:As}(j:W H2<=W a)(hr:HR a H2 [])(i:mw (W H2) H2=E){d}(v:Xc l d)(k:Pure d):PC (W H2) l (BL a) d (BL H2):=by
 refine⟨by rw[Cd];exact Al _,λX h w c s r=>?_⟩;have q:=(HR.rel j hr (cx X h (BL a) w)).onto;have n:=s.rel q;have m:=(v _ c r).later q.later;have e:(BL H2++(BL a).drop (W H2)).take (W H2)=BL H2:=by grind[Cd]
 have b:W H2<=(BL H2++(BL a).drop (W H2)).length:=by simp[BL]
 have g:=n.trunc b (by rw[e];exact mP i);have f:=m.trunc b (lg k _);rw[e]at g f;exact⟨h,g,f,λ_ _=>⟨rfl,rfl,rfl⟩,λB o=>q.own B (jE (n0:=W H2) k!)⟩
def rp{n}:∀{a b},be n a=E->be n b=E->be n (a++b)=E
 |[],_,_,hb=>hb
 |x::r,b,ha,hb=>by obtain⟨c,e⟩:=wW ha;have d:=rp e hb;cases x<;>simp only[ET,be,BZ,Rj]at c⊢ <;>first|exact d|exact⟨c,d⟩
mutual
theorem Ty.lvs_clo{n:V}:∀(t:Ty)x,be n (t.lvs x)=E
 |.bool,_=>rfl
 |.int _,_=>rfl
 |.str,_=>rfl
 |.list _,_=>rfl
 |.arr _ _,_=>rfl
 |.prod ts,x=>ts.lvs_clo x
theorem Sr.lvs_clo{n:V}:∀(a:Sr)x,be n (a.lvs x)=E
 |.one t,x=>t.lvs_clo x
 |.cons t a,x=>rp (t.lvs_clo x.1) (a.lvs_clo x.2)
end
def rN(h:∀v∈c,Pure v)(a:V->V):Ad.renL a c=c:=by
 rw[O1];conv=>rhs;rw[<-fj c]
 exact NS λv b=>(h v b).ren a
def ut{ρ:V->V}:∀{n}{v:Ad}{l:S Ad},(∀v∈l,Pure v)->Ad.renL ρ (WP n v l)=WP n (v.ren ρ) l
 |0,v,l,h=>by simp only[WP,Ad.renL,rN h]
 |n+1,v,[],h=>rfl
 |n+1,v,x::l,h=>by have b:=ut (ρ:=ρ) (n:=n) (v:=v) (l:=l) λu a=>h u (Ca _ a);simp only[WP,Ad.renL,(h x JV).ren,b]
def wu:∀{n}{v u:Ad}{l},u∈WP n v l->u=v\/u∈l
 |0,v,u,l,h=>by simpa[WP]using h
 |n+1,v,u,[],h=>by simpa[WP]using h
 |n+1,v,u,x::l,h=>by simp only[WP]at h;rcases Av.1 h with rfl|h;exact .inr q!;rcases wu h with h|h;exact .inl h;exact .inr (by simp[h])
def zp:∀{n}{v}{l},(uu n v l).map TV.enc=WP n v.enc (l.map TV.enc)
 |0,_,_=>rfl
 |n+1,_,[]=>rfl
 |n+1,v,x::l=>by simp only[uu,B4,WP,zp]
def zq:∀{n}{v u:TV}{l},u∈uu n v l->u=v\/u∈l
 |0,v,u,l,h=>by simpa[uu]using h
 |n+1,v,u,[],h=>by simpa[uu]using h
 |n+1,v,u,x::l,h=>by simp only[uu]at h;rcases Av.1 h with rfl|h;exact .inr q!;rcases zq h with h|h;exact .inl h;exact .inr (by simp[h])
theorem rl{x}:∀v∈(j.enc x).cells,Pure v:=by
 intro v a;have h:=j.enc_pure x;cases b:j.enc x with
 |agg c=>rw[b]at a h;exact((Dv _ _).1 h) v a
 |_=>grind[Ad.cells]
def jK(a:Ty):∀c y b,Lu a c (uw a c y b)=(y,b)
 |[],_,_=>rfl
 |[_],_,_=>rfl
 |_::u::r,y,b=>by simp only[uw,Lu,jK a (u::r) y.2 b]
variable {P:Program}{cs:S Qd}{hs:FuncId->S Hint}{n:Nat}{F:FuncId}{ds rs:S Ty}
def AI7{e}{env}{c}(k:zr e=E)(ok:OL env f)(hr:oQ P env f r.results.toList=Y h)(H:PC N (rL (h.map TV.enc)) (BL f) l c):
  AKf P r N (DW l c) e (B3 env) (BL f):=by
 have d:∃v b a,jV P r (B3 env) (BL f)=Y v/\PC N v (BL f) b a/\DW l c b a:=⟨_,_,_,vR ok.env ok.heap hr,H,rfl,rfl⟩
 cases e<;>first|exact d|cases k
def ACO{g:DL ds->Z (DL rs)}(d:∀c∈cs,c.Ok P)(t:∀x,g x=ACD P cs hs n F ds rs x):(Qd.c0 F ds rs g).Ok P:=by
 intro x y a H;rw[t]at a;have key:Ej P F (nr ds x) [] (DW (rL (nr rs y)) []):=by unfold ACD at a;split at a;rename_i q s;split at a;rename_i c r;split at a;rename_i hn;obtain⟨e,o,z,a1,k1,l,B⟩:=rU (N:=q.ntmps) d (kh d n) F (hs F) c (eJ 0 (yr ds x)) [] _ y ⟨kz (oU ds x),λe i=>by cases i⟩ a;unfold AKB at k1;split at k1;rename_i i;split at k1;rename_i m u;obtain⟨f,w,p⟩:=Rt (rQ m) l;simp only at k1 f w p;split at k1;rename_i C k;apply Km s r (by rw[<-aj,Ba];exact PL hn);rw[<-aj,<-eK];refine J9.after (a1.awp.mono ?_);rintro _ _ _ ⟨rfl,rfl,rfl⟩;exact⟨_,_,(p _).of_le (BU _),AI7 i f k (vT (H2:=[]) (BU _) (λj A _ h=>by cases h) rfl (Xi (Zb k1)) (Yi (P0 rs y)))⟩;cases k1;cases k1;cases k1;cases a;cases a;cases a
 exact Ej.frame (H:=H) [] key Q7 rfl rfl (λj b e h=>by cases h) (λe h=>by cases h) (λe h=>by cases h) (Yi (P0 rs y)) (rN (P0 ds x) _) ((Dv _ _).2 λv k=>(P0 ds x v k).all _)
theorem AGy{g:j.D->DL ds->Ω (DL (rs++[j]))}(m:∀c∈cs,c.Ok P)(T:∀b x,g b x=AEY P cs hs n F N j ds rs b x):(Qd.c1 F N j ds rs g).Ok P:=by
 intro b x y f H id V;rw[T]at f;have key:∃r i,y=uw j rs r i/\Ej P F (WP N (.ptr 0 0 0) (nr ds x)) [.live 0 (j.enc b).cells] (DW (rL (nr rs r)) [.live 0 (j.enc i).cells]):=by
  unfold AEY at f;split at f;rename_i M S;split at f;rename_i c R;split at f;rename_i hn;have t:OL (eJ 0 (uu N (.c (.raw (.ptr 0 0 0))) (yr ds x))) [.live X (j.lvs b)]:=by refine⟨kz λv d=>?_,λe s=>?_⟩;rcases zq d with rfl|d;exact KB trivial;grind[oU];rw[A9.1 s];exact j.lvs_ok b
  obtain⟨e,l,G,a1,k1,u,E_⟩:=rU (N:=M.ntmps) m (kh m n) F (hs F) c _ _ _ y t f;unfold AKC at k1;split at k1;rename_i s;split at k1;rename_i z W;generalize C:(rQ z++_)=ids at k1;obtain⟨k,w,A⟩:=Rt ids u;generalize Ir ids l G=fz at k1 k w A;obtain⟨ef,U⟩:=fz;simp only at k1 k w A;split at k1;rename_i vs Y_ I d O;split at k1;rename_i r i hr q;injection k1 with k1;refine⟨r,i,k1.symm,?_⟩;have J:BL [.live X (j.lvs b)]=[.live 0 (j.enc b).cells]:=by simp only[BL,B4,Hi,Dx.enc,j.lvs_enc]
  have K:BL [.live X (j.lvs i)]=[.live 0 (j.enc i).cells]:=by simp only[BL,B4,Hi,Dx.enc,j.lvs_enc]
  have L:WP N (.ptr 0 0 0) (nr ds x)=(uu N (.c (.raw (.ptr 0 0 0))) (yr ds x)).map TV.enc:=by rw[zp,aj];rfl
  rw[<-J,<-K,L];apply Km S R (by rw[Ba];exact PL hn);rw[<-eK];refine J9.after (a1.awp.mono ?_);rintro _ _ _ ⟨rfl,rfl,rfl⟩;have o:1<=θ U:=Cq E_.step.len w.step.len;refine⟨_,_,(A _).of_le (by rw[Cd,Cd];exact E_.step.len),AI7 s k d ?_⟩;rw[Cd];refine vT (H2:=[.live X (j.lvs i)]) o (λD_ Z _ h=>?_) (by simp only[mw,j.lvs_clo,YZ]) (Xi (Zb hr)) (Yi (P0 rs r));match D_,h with
  |0,h=>simp only[dA,Ar]at h;subst h;refine⟨_,O,.inr (.inl ⟨_,_,_,_,rfl,rfl,?_⟩)⟩;rw[j.lvs_enc];exact Fy q
  |D_+1,h=>grind
  cases k1;cases k1;cases k1;cases k1;cases f;cases f;cases f
 obtain⟨r,i,rfl,key⟩:=key;rw[jK];have Q:Ad.renL ([id].getD · 0) (WP N (.ptr 0 0 0) (nr ds x))=WP N (.ptr id 0 0) (nr ds x):=by rw[ut (P0 ds x)];rfl
 exact Ej.frame (H:=H) [id] key (G1.2 ⟨q!,Q7⟩) rfl rfl (λD_ X_ e p B=>by
   match D_,p,B with
   |0,p,B=>grind[List.getElem?_cons_zero,Option.some.injEq]
   |D_+1,p,_=>simp at p) (λe h=>by
   rw[A9.1 h];exact(Dv _ _).2 λv d=>rl v d) (λe h=>by
   rw[A9.1 h];exact(Dv _ _).2 λv d=>rl v d) (Yi (P0 rs r)) Q ((Dv _ _).2 λv d=>by
   rcases wu d with rfl|d;rfl;exact(P0 ds x v d).all _)
end Go.Ab
namespace Go.Ab
def iy:S (V×S Hint)->FuncId->S Hint
 |[],_=>[]
 |(k,h)::r,F=>match ξ k F with|true=>h|false=>iy r F
theorem CA{P}:∀c∈([]:S Qd),c.Ok P:=k!
variable {a m:Type}{N:Nat}{F:FuncId}{P:Program}{b:S Qd}{c:S Ad}{e:Bool}{g:Int}{i:World}{j:Ty}{l:Ad}{p:IntKind}{q:Value}
theorem A8{P}{c:Qd}(h:c.Ok P)(a:∀c∈b,c.Ok P):∀d∈c::b,d.Ok P:=k!
def wi(a:U):U:=ι .i64 a
abbrev len{α:Type}(l:S α):U:=(W l:U)
def pI{A B:Type}(f:(A->Z B)->A->Z B):V->A->Z B
 |0,_=>D
 |n+1,x=>f (pI f n) x
noncomputable def sy{A B:Type}(f:(A->Z B)->A->Z B)(x:A):Z B:=open Classical in if h:∃r n,pI f n x=Y r then Y h.choose else D
theorem eL{f:(a->Z m)->a->Z m}{x:a}{r:m}(h:sy f x=Y r):∃n,pI f n x=Y r:=by unfold sy at h;split at h<;>grind
theorem iG{f:(a->Z m)->a->Z m}{x:a}{r:m}{n}(h:pI f n x=Y r):∃s,sy f x=Y s:=by unfold sy;rw[dif_pos ⟨r,n,h⟩];grind
def AG0{P:z}{hs:FuncId→S Hint}{n:V}{F:FuncId}{ds rs:S Ty}{f:(DL ds→Z (DL rs))→DL ds→Z (DL rs)}(a:∀c∈b,c.Ok P)
  (e:∀g x,f g x=ACD P (.c0 F ds rs g::b) hs n F ds rs x):(Qd.c0 F ds rs (sy f)).Ok P:=by
 have key:∀m,(Qd.c0 F ds rs (pI f m)).Ok P:=by
  intro m;induction m with
  |zero=>intro x y d;cases d
  |succ m i=>exact ACO (cs:=.c0 F ds rs (pI f m)::b) (A8 i a) λx=>e (pI f m) x
 intro x y d;obtain⟨m,h⟩:=eL d;exact key m x y h
def AKD(P:z)(fn:Func)(te:Ty)(rs:S Ty):Exit->Bi->As->Z (DL (rs++[.list te])):=λe env H=>
 match zr e with
 |true=>
  match oQ P env H fn.results.toList with
  |some vs0=>
   match Ir ((rQ vs0).filter λi=>! ξ i 0) env H with
   |(ef,hf)=>
    match oQ P ef hf fn.results.toList,(hf[0]? :Z Dx)with
    |some vs,Y (.buf _ t l _ _)=>if h:(Ty.list t).beq (Ty.list te)=E then(match inp rs vs with|some y=>Y (uw (.list te) rs y (Ty.cast h l))|none=>D)else D
    |_,_=>D
  |none=>D
 |false=>D
def fnC:Ad->Bool
 |.fn (.func _) [] []=>E
 |_=>X
def zJ(te:Ty)(ds:S Ty)(post:S Ad)(l:S te.D)(x:DL ds):S TV:=.c (.own 0 0 te (W l))::(yr ds x++post.map λv=>.c (.raw v))
noncomputable def AEZ(P:z)(cs:S Qd)(hs:FuncId->S Hint)(n:V)(F:FuncId)(te:Ty)(ds rs:S Ty)(post:S Ad)(l:S te.D)(x:DL ds):Z (DL (rs++[.list te])):=
 match P.funcs[F]? with
 |some fn=>
  match fn.body with
  |some c=>
   match Nat.ble (zJ te ds post l x).length fn.ntmps&&post.all fnC with
   |true=>tF P cs (rk P cs hs n) fn.ntmps F (hs F) c (eJ 0 (zJ te ds post l x)) [.buf X te l (W l) 0] (AKD P fn te rs)
   |false=>D
  |none=>D
 |none=>D
theorem AI9(h:fnC l=E):∃F,l=.fn (.func F) [] []:=by unfold fnC at h;grind
def AEy(h:fnC l=E):Pure l:=by obtain⟨F,rfl⟩:=AI9 h;rfl
variable {P:Program}{cs:S Qd}{hs:FuncId->S Hint}{n:Nat}{F:FuncId}{ds rs:S Ty}{te:Ty}{post:S Ad}
def AC7(l:S te.D)(x:DL ds):(zJ te ds post l x).map TV.enc=.sl 0 (W l) te.sz 0 (W l)::(nr ds x++post):=by
 have e:(post.map λv=>TV.c (.raw v)).map TV.enc=post:=by
  rw[PJ];conv=>rhs;rw[<-fj post]
  exact NS λv _=>rfl
 simp only[zJ,B4,LR,aj,e];rfl
theorem Rq{g:Ψ te.D->DL ds->Ω (DL (rs++[.list te]))}(t:∀c∈cs,c.Ok P)(hg:∀l x,g l x=AEZ P cs hs n F te ds rs post l x):(Qd.c2 F te ds rs post g).Ok P:=by
 intro l x y k d H id C;rw[hg]at k;have key:∃r m,y=uw (.list te) rs r m/\(∀v∈post,Pure v)/\Ej P F (.sl 0 (θ l) te.sz 0 (θ l)::(nr ds x++post)) [.live (θ l) (te.E.cl l)] (DW (rL (nr rs r)) [.live (θ m) (te.E.cl m)]):=by
  unfold AEZ at k;split at k;rename_i fn hf;split at k;rename_i c hb;split at k;rename_i hn;simp only[BZ]at hn;have b:∀v∈post,Pure v:=λv a=>AEy (GK.1 hn.2 v a);have w:([Dx.buf X te l (θ l) 0]:As)[0]?=Y (.buf X te l (θ l) 0):=rfl;have K:OL (eJ 0 (zJ te ds post l x)) [.buf X te l (θ l) 0]:=by refine⟨kz λv a=>?_,λe B=>?_⟩;rcases Av.1 a with rfl|a;exact KB (Ww w);rcases Ak.1 a with a|a;grind[oU];obtain⟨u,_,rfl⟩:=Bp.1 a;exact KB trivial;rw[A9.1 B];exact rfl
  obtain⟨e,s,W,a1,k1,L,U⟩:=rU (N:=fn.ntmps) t (kh t n) F (hs F) c _ _ _ y K k;unfold AKD at k1;split at k1;rename_i B;split at k1;rename_i O ad;generalize T:((rQ O).filter _)=ids at k1;obtain⟨o,M,Q⟩:=Rt ids L;generalize Ir ids s W=fz at k1 o M Q;obtain⟨ef,hh⟩:=fz;simp only at k1 o M Q;split at k1;rename_i vs X_ q l1 J V a R;split at k1;rename_i z;split at k1;rename_i r hr;injection k1 with k1;have i:=Ty.beq_eq _ _ z;injection i with i;subst i;have p:(Ty.cast z l1:Ψ q.D)=l1:=rfl;rw[p]at k1;have I:J=θ l1:=o.heap _ (BP R);refine⟨r,l1,k1.symm,b,?_⟩;have Y_:BL [.buf X q l (θ l) 0]=[.live (θ l) (q.E.cl l)]:=rfl;have Z:BL [.buf X q l1 J V]=[.live (θ l1) (q.E.cl l1)]:=by rw[<-I];rfl
  rw[<-Y_,<-Z,<-AC7];apply Km hf hb (by rw[Ba];exact PL hn.1);rw[<-eK];refine J9.after (a1.awp.mono ?_);rintro _ _ _ ⟨rfl,rfl,rfl⟩;have G:1<=θ hh:=Cq U.step.len M.step.len;refine⟨_,_,(Q _).of_le (by rw[Cd,Cd];exact U.step.len),AI7 B o a ?_⟩;rw[Cd];refine vT (H2:=[.buf X q l1 J V]) G (λj e' _ h=>?_) rfl (Xi (Zb hr)) (Yi (P0 rs r));match j,h with
  |0,h=>simp only[dA,Ar]at h;subst h;exact⟨_,R,.inr (.inr (.inl ⟨_,_,_,_,_,_,_,rfl,rfl⟩))⟩
  |j+1,h=>simp at h
  cases k1;cases k1;cases k1;cases k1;cases k1;cases k;cases k;cases k
 obtain⟨r,m,rfl,b,key⟩:=key;rw[jK]at d⊢;simp only at d⊢;rw[<-d];rw[<-d]at C key;have f:∀v∈nr ds x++post,Pure v:=λv a=>(Ak.1 a).elim (P0 ds x v) (b v);have ha:Ad.renL ([id].getD · 0) (.sl 0 (θ m) te.sz 0 (θ m)::(nr ds x++post))=.sl id (θ m) te.sz 0 (θ m)::(nr ds x++post):=by simp only[Ad.renL,rN f];rfl
 exact Ej.frame (H:=H) [id] key (G1.2 ⟨q!,Q7⟩) rfl rfl (λj X_ e A S=>by
   match j,A,S with
   |0,A,S=>grind[List.getElem?_cons_zero,Option.some.injEq]
   |j+1,A,_=>simp at A) (λe h=>by
   rw[A9.1 h];exact(Dv _ _).2 (xr te l)) (λe h=>by
   rw[A9.1 h];exact(Dv _ _).2 (xr te m)) (Yi (P0 rs r)) ha ((Dv _ _).2 λv a=>by
   rcases Av.1 a with rfl|a;rfl;exact(f v a).all _)
def uQ{f:(S te.D×DL ds→Z (DL (rs++[.list te])))→S te.D×DL ds→Z (DL (rs++[.list te]))}(a:∀c∈cs,c.Ok P)
  (d:∀g l x,f g (l,x)=AEZ P (.c2 F te ds rs post (λl x=>g (l,x))::cs) hs n F te ds rs post l x):(Qd.c2 F te ds rs post λl x=>sy f (l,x)).Ok P:=by
 have key:∀m,(Qd.c2 F te ds rs post λl x=>pI f m (l,x)).Ok P:=by
  intro m;induction m with
  |zero=>intro l x y b;cases b
  |succ m h=>exact Rq (cs:=.c2 F te ds rs post (λl x=>pI f m (l,x))::cs) (A8 h a) λl x=>d (pI f m) l x
 intro l x y b;obtain⟨m,e⟩:=eL b;exact key m l x y e
end Go.Ab
namespace Go.Ab
def clW(fn:Func):V->String:=λi=>
 match fn.body with
 |some (.seq (.region _ a _) (.seq (.seq (.region _ b _) (.cond _ (.seq (.region _ c _) _) _)) (.seq (.region _ d _) _)))=>(((a++b++c++d)[i]?).map (·.pos)).getD default
 |_=>default
def ADD(t b:TypeId)(w:V->String):Code:=
 .seq (.region 0 #[⟨Y 2,.assign (.const (.slice D 0 0)),t,w 0, #[],D⟩] X)
  (.seq (.seq (.region 1 #[⟨Y 3,.move (.tmp 0),t,w 1, #[],D⟩,⟨Y 4,.binOp .eql t (.tmp 3) (.const (.slice D 0 0)) t,b,w 2, #[⟨0,.data⟩],D⟩] X)
    (.cond (.tmp 4) (.seq (.region 2 #[⟨Y 2,.assign (.const (.slice D 0 0)),t,w 3, #[],D⟩] X) .ret) .skip))
   (.seq (.region 3 #[⟨Y 5,.buildSlice t 0 #[],t,w 4, #[],D⟩,⟨Y 6,.move (.tmp 0),t,w 5, #[],D⟩,
     ⟨Y 7,.call {callee:=.builtin .append,args:= #[.tmp 5,.tmp 6],argTypes:= #[t,t]},t,w 6, #[⟨0,.data⟩,⟨1,.data⟩],D⟩,
     ⟨Y 2,.assign (.tmp 7),t,w 7, #[⟨2,.data⟩,⟨2,.chain⟩,⟨0,.phase⟩,⟨1,.phase⟩,⟨2,.phase⟩],D⟩] X) .ret))
def PC.none{n0:V}{H:Aw}{id g sz off:V}(hn:n0<=W H)(b:id<W H)(k:0<sz):PC n0 (.sl id g sz off 0) H (.vs sz []) (H.set id .dead):=by
 refine⟨by simpa using hn,λX_ h w c s r=>?_⟩;obtain⟨p,t⟩:=s.kill b;refine⟨h,p,?_,λ_ _=>⟨rfl,rfl,rfl⟩,λB o=>?_⟩;cases r with
 |sl l m n q=>obtain⟨a,cap,rfl⟩:=n;exact Bz.vs (rows:=[]) (λ_ _=>undef) (BU _) k (λj e h=>by simp at h) (λh=>(h rfl).elim) (λj e i v h=>by simp at h)
 obtain⟨i,e,l,d,m⟩:=o;rcases Jv b l with⟨_,f⟩|⟨rfl,rfl⟩;exact⟨i,e,f,d,m⟩;exact(d rfl).elim
variable {a m:Type}{N:Nat}{F:FuncId}{P:Program}{b:S Qd}{c:S Ad}{e:Bool}{g:Int}{i:World}{j:Ty}{p:IntKind}{q:Value}
theorem AEd{P:Program}{F:FuncId}{t b:TypeId}{a:Ty}(o:(P.funcs[F]?).map (λx=>(x.body,x.ntmps,x.results))=some (some (ADD t b (((P.funcs[F]?).map clW).getD (λ_=>default))),8, #[.tmp 2]))(I:elT P t=some a)(j:jF 0 a #[] []=true):(Qd.cl F a).Ok P:=by
 generalize ((P.funcs[F]?).map clW).getD (λ_=>default)=w at o;obtain⟨x,T,B⟩:=Tr.1 o;injection B with O B;injection B with hn hr;intro l H U;obtain⟨e,A,u⟩:=kq I;have J:=(RI A).1;have z: ∀env,Ta P env t 0 #[]=some (a.sz,[]):=by intro env;unfold Ta;simp only[A];refine if_pos ⟨a.sz_pos,u,rfl,rfl,BU _,?_⟩;unfold jF at j;simp only[BZ]at j;exact PL j.2
 have main: ∀Q:Ad→Aw→Prop,(l=[]→Q (.vs a.sz []) (BL (H++[.dead])))→(∀r,l≠ []→app [] l=some r→Q (.sl H.length r.length a.sz 0 r.length) (BL (H++[.buf false a r r.length 0])))→
   (l=[]\/ ∃r,app [] l=some r)->Ej P F [.vs a.sz (l.map a.enc)] (BL H) Q:=by
  intro Q L M f;refine Km T O (by rw[hn];simp) ?_;rw[hn];refine J9.seq (Fx rfl (Xd.cons rfl (Du (v:=.nils) rfl (Xd.nil (J9.seq (J9.seq (Fx rfl (Xd.cons rfl (Du (v:=.vs a.sz (l.map a.enc)) rfl (Xd.cons rfl (ud (sz:=a.sz) (rows:=l.map a.enc) rfl J rfl λK S=>Xd.nil ?_)))))))))));have k:K=true->l=[]:=λh=>by by_cases i:l=[]<;>simp_all
  have d:(BL H++[Ft.live 0 []]).set (BL H).length Ft.dead=BL (H++[.dead]):=by simp_all[To,Al,G2,BL,Dx.enc]
  refine J9.cond (b:=K) rfl (λy=>?_) (λR=>?_)
  ·refine J9.seq (Fx rfl (Xd.cons rfl (Du (v:=.nils) rfl (Xd.nil (J9.weak (FX.virt (t:=2) (sz:=a.sz) rfl) (J9.ret (⟨.sl (BL H).length 0 a.sz 0 0,.vs a.sz [],(BL H++[Ft.live 0 []]).set (BL H).length Ft.dead,by simp[jV,hr,Ti,oR,Env.putO,Env.put,Env.get],PC.none (by simp) (by simp) a.sz_pos,?_⟩)))))));rw[d];exact L (k y)
  ·refine J9.skip (J9.seq (Fx rfl (Xd.cons rfl (UT (sz:=a.sz) (vs:=[]) rfl (z _) (Xd.cons rfl (Du (v:=.vs a.sz (l.map a.enc)) rfl (Xd.cons rfl ?_)))))));have G:Kg (BL H++[Ft.live 0 []]) a.sz (.vs a.sz (l.map a.enc))=some (l.length,a.E.cl l):=by simp only[Kg,if_true,Ba];rfl
   have p:0+l.length<=16777216:=by
    rcases f with rfl|⟨r,hr⟩
    ·simp
    ·obtain⟨M,_⟩:=oh hr;simpa using M
   refine Sk (sx:=.tmp 5) (xx:=.tmp 6) (H:=BL H++[Ft.live 0 []]) (id:=(BL H).length) (g:=0) (g':=l.length) (n:=0) (cs:=[]) (m:=l.length) (news:=a.E.cl l) rfl A a.sz_pos u rfl (by simp) (by simp) G p (by
    rcases WY l.length with q|q
    ·exact .inr ⟨q,q⟩
    ·exact .inl q) ?_
   refine Xd.cons rfl (Du (v:=.sl (BL H).length l.length a.sz 0 (0+l.length)) rfl (Xd.nil (J9.ret ?_)));have N:(BL H++[Ft.live 0 []]).set (BL H).length (.live l.length ([]++a.E.cl l))=BL (H++[.buf false a l l.length 0]):=by simp_all[To,Al,G2,BL,Dx.enc]
   by_cases i:l=[]
   ·subst i;refine⟨.sl (BL H).length 0 a.sz 0 0,.vs a.sz [],(BL H++[Ft.live 0 []]).set (BL H).length Ft.dead,by simp[jV,hr,Ti,oR,Env.putO,Env.put,Env.get],?_,?_⟩
    ·have:=PC.none (n0:=(BL H).length) (H:=BL H++[Ft.live 0 []]) (id:=(BL H).length) (g:=0) (off:=0) (by simp) (by simp) a.sz_pos;have e:(BL H++[Ft.live 0 []]).set (BL H).length (.live ([]:List a.D).length ([]++a.E.cl []))=BL H++[Ft.live 0 []]:=by rw[To _ _ (Al _),G2];rfl
     rw[e];exact this
    ·rw[d];exact L rfl
   ·rcases f with h|⟨r,c⟩
    ·exact(i h).elim
    ·obtain⟨_,C⟩:=oh c;have s:l=r:=by simpa using C.symm
     subst s;refine⟨.sl (BL H).length l.length a.sz 0 l.length,_,_,by simp[jV,hr,Ti,oR,Env.putO,Env.put,Env.get],PC.refl _ _ (by simp),?_⟩;grind[Cd]
 refine⟨λi=>?_,λr i hr=>?_⟩
 ·subst i;exact main _ (λ_=>⟨rfl,rfl⟩) (λr h=>(h rfl).elim) (.inl rfl)
 ·exact main _ (λh=>(i h).elim) (λV _ c=>by rw[hr]at c;injection c with c;subst c;exact⟨rfl,rfl⟩) (.inr ⟨r,hr⟩)
abbrev i64:Ty:=.int .i64
abbrev hn(k i:V)(s:S PD)(e:S (Exit×S PD)):Hint:=⟨k,i,[],[],[],[],s,e⟩
def k0{P:z}{e:S Qd}{a d:S Ty}{g:DL a→Z (DL d)}(l:S (V×S Hint))(b:∀c∈e,c.Ok P)
  (f:g=λx=>ACD P e (iy l) 13 F a d x:=by kernel_rfl):(Qd.c0 F a d g).Ok P:=ACO b λx=>congrFun f x
def k1{P:z}{a:Ty}{d f:S Ty}{g:a.D→DL d→Z (DL (f++[a]))}(l:S (V×S Hint))(e:∀c∈b,c.Ok P)
  (i:g=λh x=>AEY P b (iy l) 13 F N a d f h x:=by kernel_rfl):(Qd.c1 F N a d f g).Ok P:=AGy e λh x=>congrFun (congrFun i h) x
noncomputable def ACq{α:Type}(key:α->U)(l:S α):Z (S α):=if(l.map key).Nodup/\W l<=16777216 then Y (l.mergeSort λa b=>decide (key a<=key b))else D
def ABw{key:a->U}{l m:S a}(hn:(l.map key).Nodup)(p:m.Perm l)(t:m.Pairwise λq b=>key q<=key b):m=l.mergeSort λq b=>decide (key q<=key b):=by
 have d:(l.mergeSort λq b=>decide (key q<=key b)).Perm l:=List.mergeSort_perm _ _;have o:(l.mergeSort λq b=>decide (key q<=key b)).Pairwise λq b=>key q<=key b:=by refine(List.pairwise_mergeSort (le:=λq b=>decide (key q<=key b)) ?_ ?_ l).imp λh=>N! h;intro q b c d o;simp only[K!]at*;omega;intro q b;simp only[QI,K!];omega
 refine qI (le:=λq b=>key q<=key b) ?_ t o (p.trans d.symm);intro q b r s q1 q2;have e:key q=key b:=o!
 have f:=p.subset r;have g:=d.subset s;obtain⟨i,k⟩:=Db f;obtain⟨j,n⟩:=Db g;have:=(qP (l:=l.map key) (i:=i) (j:=j) (by rw[Ba];exact(Ei.1 k).1) hn).1 (by simp[k,n,e]);subst this;rw[k]at n;exact BW n
noncomputable def AAd{α:Type}(key:α->U)(l:S α):Z (S α):=open Classical in if(∀a∈l,∀b∈l,key a=key b->a=b)/\W l<=16777216 then Y (l.mergeSort λa b=>decide (key a<=key b))else D
def AFy{key:a->U}{l:S a}(hn:(l.map key).Nodup):∀f∈l,∀b∈l,key f=key b->f=b:=by intro f g b h e;obtain⟨i,c⟩:=Db g;obtain⟨j,d⟩:=Db h;have:=(qP (l:=l.map key) (i:=i) (j:=j) (by rw[Ba];exact(Ei.1 c).1) hn).1 (by simp[c,d,e]);subst this;rw[c]at d;exact BW d
def ABx{key:a->U}{l m:S a}(hn:∀g∈l,∀b∈l,key g=key b->g=b)(f:m.Perm l)(k:m.Pairwise λg b=>key g<=key b):m=l.mergeSort λg b=>decide (key g<=key b):=by
 have d:(l.mergeSort λg b=>decide (key g<=key b)).Perm l:=List.mergeSort_perm _ _;have e:(l.mergeSort λg b=>decide (key g<=key b)).Pairwise λg b=>key g<=key b:=by refine(List.pairwise_mergeSort (le:=λg b=>decide (key g<=key b)) ?_ ?_ l).imp λh=>N! h;intro g b c d e;simp only[K!]at*;omega;intro g b;simp only[QI,K!];omega
 refine qI (le:=λg b=>key g<=key b) ?_ k e (f.trans d.symm);intro g b i j q1 q2;exact hn g (f.subset i) b (d.subset j) o!
theorem w64(h: -9223372036854775808<=g/\g<=9223372036854775807):ι .i64 g=g:=by grind[IntKind.wrap_i64]
def ADY{body:a->Z (Step a m)}(I:a->Prop)(Q:m->Prop)(b:a->V)(i:∀s,I s->(∃r,body s=Y (.done r)/\Q r)\/∃S,body s=Y (.next S)/\I S/\b S<b s){s:a}(h:I s):∃r,Ag body s=Y r/\Q r:=by
 have key:∀(n:V)(s:a),b s<n->I s->∃r,Ag body s=Y r/\Q r:=by
  intro n;induction n with
  |zero=>intro s j;omega
  |succ n k=>intro s j g;rcases i s g with⟨r,c,d⟩|⟨S,c,d,l⟩;exact⟨r,by rw[HV,c],d⟩;obtain⟨r,e,f⟩:=k S o! d;exact⟨r,by rw[HV,c];exact e,f⟩
 exact key (b s+1) s o! h
theorem AHI{l:S a}{x:a}(h:l[N]?=Y x):ix l (N:U)=Y x:=by unfold ix;grind[s?]
def AKK{l:S a}(b:0<=g)(c:g<W l):∃x,ix l g=Y x/\l[g.toNat]?=Y x:=by
 obtain⟨n,rfl⟩:=Ef b;have hn:n<W l:=o!
 exact⟨l[n],AHI (Au hn),by simp[hn]⟩
def AIs{l b:S a}(h:W l+W b<=16777216):app l b=Y (l++b):=C! h
theorem AGf(b:GG N a){i:V}(h:i<N):Gy b (i:U)=Y (b ⟨i,h⟩):=by grind[Gy]
def Ao(o:Z a)(Q:a->Prop):Prop:=∃r,o=Y r/\Q r
section
variable {α β γ:Type}
theorem AB{r:α}{Q:α->Prop}(h:Q r):Ao (.some r) Q:=⟨r,rfl,h⟩
def Ao.mono{o}{P Q:α->Prop}(h:Ao o P)(c:∀r,P r->Q r):Ao o Q:=by obtain⟨r,a,b⟩:=h;exact⟨r,a,c r b⟩
theorem AA{o}{k:α->Z β}{P:α->Prop}{Q:β->Prop}(h:Ao o P)(b:∀r,P r->Ao (k r) Q):Ao (σ o k) Q:=by obtain⟨r,rfl,a⟩:=h;exact b r a
theorem D6{o}{k:α->Z β}{P:α->Prop}{Q:β->Prop}(h:Ao o P)(b:∀r,o=.some r->P r->Ao (k r) Q):Ao (σ o k) Q:=by obtain⟨r,rfl,a⟩:=h;exact b r rfl a
def AM{o}{k:α->Z β}{P:α->Prop}{Q:β->Prop}(a:∀r,P r->Ao (k r) Q)(h:Ao o P):Ao (σ o k) Q:=AA h a
def AK{a b}{Q:α->Prop}(d:e=E->Ao a Q)(c:e=X->Ao b Q):Ao (bif e then a else b) Q:=by
 cases e with
 |true=>exact d rfl
 |false=>exact c rfl
def AC{p:Prop}{_:Decidable p}{a b}{Q:α->Prop}(c:p->Ao a Q)(d:¬p->Ao b Q):Ao (bif decide p then a else b) Q:=AK (λh=>c (N! h)) (λh=>d (of_decide_eq_false h))
theorem AO{a b}{Q:α->Prop}(d:e=X->Ao a Q)(c:e=E->Ao b Q):Ao (bif !e then a else b) Q:=by
 cases e with
 |true=>exact c rfl
 |false=>exact d rfl
theorem AP{_:BEq m} [LawfulBEq m] {x y:m}{a b}{Q:α->Prop}(c:x=y->Ao a Q)(d:x≠y->Ao b Q):Ao (bif x==y then a else b) Q:=AK (λh=>c (eq_of_beq h)) (λh=>d (ne_of_beq_false h))
theorem AL{_:BEq m} [LawfulBEq m] {x y:m}{a b}{Q:α->Prop}(c:x≠y->Ao a Q)(d:x=y->Ao b Q):Ao (bif x !=y then a else b) Q:=by refine AK (λh=>c λe=>?_) (λh=>d ?_);subst e;simp at h;simpa using h
def Bn{a b:Z α}{k:α->Z β}{Q:β->Prop}(h:Ao (bif e then σ a k else σ b k) Q):Ao (σ (bif e then a else b) k) Q:=by cases e<;>exact h
theorem BJ{a:α}{k:α->Z β}{Q:β->Prop}(h:Ao (k a) Q):Ao (σ (.some a) k) Q:=h
def B5{o:Z α}{f:α->Z β}{k:β->Z γ}{Q:γ->Prop}(h:Ao (σ o λv=>σ (f v) k) Q):Ao (σ (σ o f) k) Q:=by cases o<;>exact h
def Na{f:α->Z γ}{g:β->Z γ}{o:α⊕β}{k:γ->Z a}{Q:a->Prop}(h:Ao (ν (λu=>σ (f u) k) (λu=>σ (g u) k) o) Q):Ao (σ (ν f g o) k) Q:=by cases o<;>exact h
theorem BF{u:α}{f:α->Z γ}{g:β->Z γ}{Q:γ->Prop}(h:Ao (f u) Q):Ao (ν f g (.inl u)) Q:=h
theorem A0{u:β}{f:α->Z γ}{g:β->Z γ}{Q:γ->Prop}(h:Ao (g u) Q):Ao (ν f g (.inr u)) Q:=h
theorem BG{f:α->Z γ}{g:β->Z γ}{o:α⊕β}{Q:γ->Prop}(a:∀u,o=.inl u->Ao (f u) Q)(b:∀u,o=.inr u->Ao (g u) Q):Ao (ν f g o) Q:=by
 cases o with
 |inl u=>exact a u rfl
 |inr u=>exact b u rfl
def Ao.get{o}{Q:α->Prop}{r:α}(h:Ao o Q)(e:o=.some r):Q r:=by obtain⟨s,a,b⟩:=h;rw[e]at a;injection a with a;rw[a];exact b
def Ao.and{o}{P Q:α->Prop}(h:Ao o P)(g:Ao o Q):Ao o λr=>P r/\Q r:=by obtain⟨r,a,b⟩:=h;exact⟨r,a,b,g.get a⟩
theorem AI{l:List α}{i:U}(b:0<=i:=by omega)(c:i<l.length:=by omega):Ao (ix l i) λx=>l[i.toNat]? = .some x/\x∈l:=by obtain⟨x,d,a⟩:=AKK b c;exact⟨x,d,a,BP a⟩
theorem Ac{l a:S α}(h:W l+W a<=16777216):Ao (app l a) λr=>r=l++a/\W r=W l+W a/\W r<=16777216:=⟨_,AIs h,rfl,q!,w!⟩
theorem CM{a b:Bd}(h:W a+W b<=9223372036854775807):Ao (sapp a b) λr=>r=a++b/\W r=W a+W b:=by refine⟨a++b,?_,rfl,q!⟩;unfold Go.Ab.sapp;rw[C! h]
theorem CW{s:Bd}{lo hi:U}(a:0<=lo:=by omega)(b:lo<=hi:=by omega)(c:hi<=s.length:=by omega):Ao (R3 s lo hi) λr=>r=(s.drop lo.toNat).take (hi.toNat-lo.toNat)/\(r.length:U)=hi-lo:=by refine⟨_,if_pos ⟨a,b,c⟩,rfl,?_⟩;rw[BQ,C2];omega
theorem BX{s:List α}{lo hi:U}(a:0<=lo:=by omega)(b:lo<=hi:=by omega)(c:hi<=s.length:=by omega):Ao (T6 s lo hi) λr=>r=(s.drop lo.toNat).take (hi.toNat-lo.toNat)/\(r.length:U)=hi-lo:=by refine⟨_,if_pos ⟨a,b,c⟩,rfl,?_⟩;rw[BQ,C2];omega
def Rs{s:Bd}{i:U}(a:0<=i)(c:i<W s):Ao (six s i) λb=>0<=b/\b<256:=by
 obtain⟨n,rfl⟩:=Ef a;have hn:n<W s:=o!
 refine⟨(s[n].toNat:U),?_,o!,?_⟩;unfold Go.Ab.six;simp[hn];have:=s[n].toNat_lt;omega
def Dd{a:GG N α}(b:0<=g)(c:g<N):Ao (Gy a g) λx=>x=a ⟨g.toNat,o!⟩:=by obtain⟨k,rfl⟩:=Ef b;exact⟨_,AGf a o!,rfl⟩
theorem zh{z:α}(a:0<=g)(b:g<=16777216):Ao (mk z g g) λr=>r=List.replicate g.toNat z/\(r.length:U)=g:=by refine⟨List.replicate g.toNat z,?_,rfl,w!⟩;unfold Go.Ab.mk;rw[if_pos ⟨a,Ae _,b⟩]
def AW{body:a→Z (Step a m)}(I:a→Prop)(b:a→V){Q:m→Prop}{s:a}(c:I s)
  (f:∀s,I s->Ao (body s) λst=>match st with|.next S=>I S/\b S<b s|.done r=>Q r):Ao (Ag body s) Q:=by
 obtain⟨r,d,e⟩:=ADY (body:=body) I Q b (λs g=>by
  obtain⟨st,q1,q2⟩:=f s g;cases st with
  |next S=>exact .inr ⟨S,q1,q2.1,q2.2⟩
  |done r=>exact .inl ⟨r,q1,q2⟩) c
 exact⟨r,d,e⟩
theorem Xa(n:U):ι .u64 n=n%18446744073709551616:=by simp[ι,IntKind.bits,IntKind.signed]
theorem xX(n:U):ι .u32 n=n%4294967296:=by simp[ι,IntKind.bits,IntKind.signed]
def AH4(n:U):ι .u8 n=n%256:=by simp[ι,IntKind.bits,IntKind.signed]
def bh{Q:α->Prop}(h:False):Ao .none Q:=h.elim
theorem AY{x:U}(h: -9223372036854775808<=x/\x<=9223372036854775807:=by omega):wi x=x:=w64 h
theorem l!{P:Prop}(h:P:=by (try dsimp[len]at*);(try first|omega|assumption|grind[AY])):P:=h
theorem i!{P:Prop}(h:P:=by simp only[len];omega):P:=h
theorem x!{P:Prop}(h:P:=by (repeat' with_reducible first|intro a|apply AC|apply AO|(apply BF;try dsimp only)|apply AL|apply AP|(apply BJ;try dsimp only)|apply AK|(apply A0;try dsimp only)|(apply BG<;>(intro u a;try subst a))|(refine AM ?_ (Ol ?_);intro r hr)|apply Bn|(apply AA (Bb);intro r hr)|(apply AA (Mg);intro r hr)|(refine AM ?_ (bk ?_);intro r hr)|(refine AM ?_ (Xt ?_);intro r hr)|(apply AA (TL);intro r hr)|(refine AM ?_ (Z5 ?_);intro r hr)|(refine AM ?_ (Z2 ?_);intro r hr)|(refine AM ?_ (Xp ?_);intro r hr)|(apply AA (iX);intro r hr)|apply Na|(apply AA (EW);intro r hr)|apply AB|apply B5|(refine AM ?_ (Nk ?_);intro r hr)|apply bh|(refine AM ?_ (GO ?_ ?_);intro r hr)|(refine AM ?_ (fK ?_);intro r hr)|(refine AM ?_ (ZG ?_);intro r hr)|(refine AM ?_ (IV ?_);intro r hr)|(refine AM ?_ (RP ?_);intro r hr)|(rw[w _ _ rfl rfl];apply BJ;dsimp only)|(refine AM ?_ (IZ ?_);intro r hr)|(apply AA (D0);intro r hr)|(apply AA (Oe);intro r hr)|(apply AA (pS);intro r hr)|(refine AM ?_ (Dj ?_);intro r hr)|(refine AM ?_ (N7 ?_ ?_);intro r hr)|(refine AM ?_ (FQ ?_);intro r hr)|(apply AA (GV);intro r hr)|(refine AM ?_ (KV ?_);intro r hr)|(refine AM ?_ (ZP ?_);intro r hr)|(apply AA (Fk);intro r hr)|(refine AM ?_ (bn ?_);intro r hr)|(refine AM ?_ (Cp ?_);intro r hr)|(refine AM ?_ (XM ?_);intro r hr)|(refine AM ?_ (Va ?_);intro r hr)|(refine AM ?_ (TT ?_);intro r hr)|(refine AM ?_ (SG ?_);intro r hr)|(apply AA (Mq);intro r hr)|(apply AA (VY);intro r hr)|(refine AM ?_ (Pe ?_);intro r hr)|(refine AM ?_ (YR ?_);intro r hr)|(refine AM ?_ (ZC ?_);intro r hr)|(apply AA (fF);intro r hr)|(refine AM ?_ (Z4 ?_);intro r hr)|(apply AA (eZ);intro r hr)|(refine AM ?_ (ju ?_);intro r hr)|(apply AA (HG);intro r hr)|(apply AA (pT);intro r hr)|(refine AM ?_ (ZM ?_);intro r hr)|(apply AA (GN);intro r hr)|(apply AA (OY);intro r hr)|(refine AM ?_ (RQ ?_);intro r hr)|(refine AM ?_ (ZN ?_);intro r hr)|(refine AM ?_ (ZL ?_);intro r hr)|(refine AM ?_ (ZQ ?_);intro r hr)|(refine AM ?_ (XN ?_ ?_);intro r hr)|(refine AM ?_ (YN ?_);intro r hr)|(refine AM ?_ (Z3 ?_);intro r hr)|(apply AA (qp);intro r hr)|(apply AA (Cc);intro r hr)|(refine AM ?_ (QD ?_);intro r hr)|(apply AA (jy);intro r hr)|(refine AM ?_ (YL ?_);intro r hr)|(refine AM ?_ (Z8 ?_);intro r hr)|(apply AA (pU);intro r hr)|(refine AM ?_ (ZB ?_);intro r hr)|(refine AM ?_ (Z6 ?_);intro r hr)|(refine AM ?_ (ZH ?_);intro r hr)|(refine AM ?_ (Vt ?_);intro r hr)|(refine AM ?_ (aA ?_);intro r hr)|(refine AM ?_ (bj ?_);intro r hr)|(apply AA (TJ);intro r hr)|(refine AM ?_ (ZJ ?_);intro r hr)|(refine AM ?_ (ZD ?_);intro r hr)|(refine AM ?_ (bp ?_);intro r hr)|(apply AA (En);intro r hr)|(refine AM ?_ (RO ?_);intro r hr)|(apply AA (CR);intro r hr)|(refine AM ?_ (AI ?_ ?_);rintro r ⟨hr,b⟩)|(refine AM ?_ (Oa ?_ ?_);intro r hr)|(apply AA (Kz);intro r hr)|(refine AM ?_ (ZI ?_);intro r hr)|(refine AM ?_ (ZS ?_);intro r hr)|(refine AM ?_ (Gl ?_);intro r hr)|(refine AM ?_ (Rs ?_ ?_);rintro r ⟨hr,b⟩)|(refine AM ?_ (YP ?_);intro r hr)|(refine AM ?_ (eX ?_);intro r hr)|(refine AM ?_ (Ac ?_);rintro r ⟨hr,b,c⟩)|(refine AM ?_ (CW ?_ ?_ ?_);rintro r ⟨hr,b⟩)|(refine AM ?_ (YO ?_);intro r hr)|(refine AM ?_ (YM ?_);intro r hr)|(refine AM ?_ (Xr ?_);intro r hr)|(apply AA (ul);intro r hr)|(refine AM ?_ (CM ?_);rintro r ⟨hr,b⟩)|(apply AA (UY);intro r hr)|(apply AA (bu);intro r hr)|(refine AM ?_ (Dd ?_ ?_);intro r hr)|(refine AM ?_ (ZF ?_);intro r hr)|(refine AM ?_ (RS ?_);intro r hr)|(refine AM ?_ (Xq ?_);intro r hr)|(refine AM ?_ (ZE ?_);intro r hr)|(refine AM ?_ (BX ?_ ?_ ?_);rintro r ⟨hr,b⟩)|(refine AM ?_ (ZT ?_);intro r hr)|(apply AA (eS);intro r hr));all_goals(first|((try dsimp[len]at*);first|omega|assumption|grind[AY])|grind|((try dsimp[len]at*);first|grind[CI,DI,Dg,Dg.last,GS,Kv,Pz,SB,VK,Zn,an,len,nX,oV,pz,AY]|grind[AY,Dg]|grind[SB,VK,GS,Pz]|grind[Pz,Kv,pz,oV]|grind[Dg.last]|grind[AY,Dg.append]|grind[AY,My]|grind[CI]|grind[nX]|grind[AY,an]|grind[AY,Zn]|grind[AY,SB]|grind[DI]|((try simp (disch:=omega) only[AY,len]at*)<;>(try intros)<;>(try and_intros)<;>(try intros)<;>(first|omega|assumption|grind))))):P:=h
def AGD(x:U):wi x=(x+9223372036854775808)%18446744073709551616-9223372036854775808:=by unfold wi;rw[IntKind.wrap_i64]
end
def MX(I:a->Prop)(μ:a->V)(S:V)(Q:m->Prop):Step a m->Prop
 |.next s'=>I s'/\μ s'<S
 |.done r=>Q r
def CQ{R:Type}{body:m->Z (Step m R)}(I:m->Prop)(a:m->V){Q:R->Prop}{s:m}(b:I s)(c:∀s,I s->Ao (body s) (MX I a (a s) Q)):Ao (Ag body s) Q:=AW I a b λs d=>(c s d).mono λst h=>by cases st<;>exact h
theorem Ao.next{S R:Type}{I:S->Prop}{a:S->V}{m:V}{Q:R->Prop}{s:S}(h:I s)(b:a s<m):Ao (Option.some (Step.next s)) (MX I a m Q):=⟨_,rfl,h,b⟩
theorem Ao.done{R:Type}{I:m->Prop}{a:m->V}{Q:R->Prop}{r:R}(h:Q r):Ao (Option.some (Step.done r)) (MX I a N Q):=⟨_,rfl,h⟩
theorem k?{S R:Type}{I:S->Prop}{a:S->V}{m:V}{Q:R->Prop}{r:R}(h:Q r):Ao (some (Step.done r)) (MX I a m Q):=⟨_,rfl,h⟩
theorem y!{S R:Type}{I:S->Prop}{a:S->V}{m:V}{Q:R->Prop}{s:S}(h:I s)(b:a s<m):Ao (some (Step.next s)) (MX I a m Q):=⟨_,rfl,h,b⟩
theorem y?{α:Type}{p:Prop}{r:α}{Q:α->Prop}(h:Q r):p->Ao (some r) Q:=fun _=>⟨r,rfl,h⟩
theorem h!{P:Prop}(h:P:=by kernel_rfl):P:=h
theorem b!{P:Prop}(h:P:=by simp[len];omega):P:=h
open Go.ChangeShapes Go.WideShapes Go.ChangeAt Go.RowKit
def gh0:Gh:=⟨λ_=>D,λ_=>0,λ_=>0⟩
def cx0(w:World):Cx:=cx (λ_=>False) gh0 [] w
def ALL(w:World):JT (λ_=>False) gh0 [] w where
 out B h:=h.elim
 live id g cs h:=by simp at h
 lp id L h:=by simp at h
 inj id id' e e' B h:=by simp at h
 bld id e h:=by simp at h
theorem ABY:¬(cx0 i).O N:=by rintro(h|⟨id,e,h,_⟩);exact h;grind
def aW{Q:Ad→Aw→Prop}(h:Ej P F c [] Q){w:World}{cargs:Array Value}(hn:cargs.size=W c)
  (d:∀(j:V)(v:Ad)(l:Value),c[j]?=Y v->cargs[j]?=Y l->Bz (cx0 w) v l):
  Calls P F cargs w λe b=>∃l v x a,e=.returned l/\Q v a/\Bz x v l/\Below w.heap.size w b:=by
 refine(h (λ_=>False) gh0 w cargs (ALL w) hn d).mono ?_;rintro e b ⟨l,v,i,a,rfl,q,_,r,x⟩;refine⟨l,v,_,a,rfl,q,r,x.os,x.tape,x.output,x.size,λk g=>x.keep k g ?_⟩;rintro⟨id,e,f,_⟩;simp at f
def ADx{a:Addr}{cap:V}{b:S U}(A:N≤cap)(D_:W b=cap)(t:∀w,w<W b→i.cell? (a.add w)=Y (.int p (b.getD w 0)))(q:a.block<i.heap.size∨N=0):
  Bz (cx0 i) (.vs 1 ((b.take N).map λn=>.int p n)) (.slice (Y a) N cap):=by
 have d:((b.take N).map λn=>Ad.int p n).length=N:=w!
 have g:∀(j:V)(e:Ad),((b.take N).map λn=>Ad.int p n)[j]?=Y e->j<N/\e=.int p (b.getD j 0):=by
  intro j e h;rw[CT]at h;cases c:(b.take N)[j]? with
  |none=>rw[c]at h;cases h
  |some n=>
   rw[c]at h;simp only[Bu,Ar]at h;subst h;have k:j<(b.take N).length:=by rcases Az j (b.take N).length with h|h;exact h;rw[Ct h]at c;cases c
   simp only[BQ]at k;rw[II o!]at c;exact⟨o!,by rw[Rm,c];rfl⟩
 have key:=Bz.vs (x:=cx0 i) (sz:=1) (rows:=(b.take N).map λn=>.int p n) (a:=Y a) (cap:=cap) (λj _=>.int p (b.getD j 0)) (by rw[d];exact A) o!
  (λj e h=>by rw[(g j e h).2];rfl)
  (λr=>by
   have C:0<N:=by rcases WY N with h|h;subst h;simp at r;exact h
   have m:a.spot=D:=by have:=t 0 o!;unfold World.cell? at this;split at this;split at this;cases this;rename_i u;simp only[Addr.add,if_true]at u;simpa using u;cases this
   obtain⟨B,s,E_⟩:=a;simp only at m;subst m;refine⟨B,s,rfl,ABY,?_,λj e w v c l=>?_⟩;rcases q with h|h;exact h;omega;obtain⟨y,o⟩:=g j e c;subst o;have f:w=0:=by
    simp only[Ad.cells]at l;cases w with
    |zero=>rfl
    |succ w=>simp at l
   subst f;refine⟨?_,rfl⟩;have:=t j o!;simp only[Nat.mul_one,NT];show i.cell? _=_;rw[<-this];unfold Addr.add;split;rename_i z;subst z;rfl;rfl)
  (λj e w v c l=>by
   obtain⟨y,o⟩:=g j e c;subst o;have f:v=.int p (b.getD j 0):=by
    simp only[Ad.cells]at l;cases w with
    |zero=>simpa using l.symm
    |succ w=>simp at l
   subst f;exact .int _ _)
 rw[d]at key;exact key
def AGA:Bz (cx0 i) (.vs 1 []) (.slice D 0 0):=Bz.vs (x:=cx0 i) (sz:=1) (rows:=[]) (a:=D) (cap:=0) (λ_ _=>.nilFunc) q! o! (λj e h=>by simp at h) (O! rfl ·) (λj e w v h=>by simp at h)
open Go.RowKit
def rY{args:S Ad}{v}(h:∀w(a:Array Value),a.size=W args→(∀(j:V)(u:Ad)(c:Value),args[j]?=Y u→a[j]?=Y c→ ∃x,Bz x u c)→
  Calls P F a w λe i=>∃c,e=.returned c/\(∀x,Bz x v c)/\Below w.heap.size w i) (H:Aw):Ej P F args H (DW v H):=by
 intro X_ g w a s p hr;refine(h w a p λj u c m n=>⟨_,hr j u c m n⟩).mono ?_;rintro e i ⟨c,rfl,q,b⟩;have l:HM g H w g H i:=⟨b.os,b.tape,b.output,b.size,λB d _=>b.block B d,Al _,λ_ _=>Al _,λ_ _ _=>⟨rfl,rfl⟩,λB o=>.inl o,λB r hr=>⟨r,(b.block B (by rcases Az B w.heap.size with h|h;exact h;simp[uD h]at hr)).trans hr⟩⟩
 exact⟨c,v,g,H,rfl,⟨rfl,rfl⟩,s.of_ext l (λid e k f=>.inl ⟨k,rfl,rfl,rfl,λB d=>b.block B (s.io_at k f d)⟩) s.inj,q _,l⟩
def AAj{x}{s:S UInt8}(h:Bz x (.str s) q):q=.string ⟨s.toArray⟩:=by cases h;rename_i t h;subst h;rfl
def lw{x}(h:Bz x (.int p g) q):q=.int p g:=by cases h;rfl
open Go.Proofs Go.Sort
def nL{a:Ty}{l:S a.D}(h:N<W l*a.sz):∃e,l[N/a.sz]?=Y e/\(a.E.cl l)[N]?=(a.enc e).cells[N%a.sz]? :=by
 have g:=a.sz_pos;induction l generalizing N with
 |nil=>simp at h
 |cons x r j=>
  have i:(a.enc x).cells.length=a.sz:=a.enc_len x;have e:a.E.cl (x::r)=(a.enc x).cells++a.E.cl r:=rfl;rw[e];by_cases b:N<a.sz;exact⟨x,by rw[Nat.div_eq_of_lt b];rfl,by rw[Tq b,CZ o!]⟩;have c:N-a.sz<W r*a.sz:=by rw[Bh,EJ,Nat.one_mul]at h;omega
  obtain⟨y,d,f⟩:=j c;refine⟨y,?_,?_⟩;rw[Nat.div_eq_sub_div g o!,mJ];exact d;rw[Cn o!,i,f,Nat.mod_eq_sub_mod (show N>=a.sz by omega)]
def mN{te:Ty}(l:S te.D):(te.E.cl l).length=W l*te.sz:=by
 induction l with
 |nil=>simp[Su.cl]
 |cons x r a=>have e:te.E.cl (x::r)=(te.enc x).cells++te.E.cl r:=rfl;rw[e,AZ,a,te.enc_len,Bh,EJ,Nat.one_mul,Yt]
def xZ(x0:Cx)(te:Ty):Type:={p:te.D×S Value//W p.2=te.sz/\(∀v∈p.2,v.oneCell'=E)/\∀(j:V)(v:Ad)(c:Value),(te.enc p.1).cells[j]?=Y v->p.2[j]?=Y c->Bz x0 v c}
def ALO(key:a->U):SWO (ltOf (λ(x y:a)=>Lib.compareInt (key x) (key y))):=by
 have e:∀x y,ltOf (λ(x y:a)=>Lib.compareInt (key x) (key y)) x y=τ (key x<key y):=λx y=>by unfold ltOf Lib.compareInt;by_cases c:key x<key y;simp[c];by_cases b:key y<key x<;>simp[c,b]
 exact⟨λx=>by rw[e];simp,λx y z c b=>by rw[e]at*;simp at*;omega,λx y z c b=>by rw[e]at*;simp at*;omega⟩
def _root_.List.set_getElem?_self'{l:S a}{x:a}(h:l[N]?=Y x):l.set N x=l:=by obtain⟨b,rfl⟩:=Ei.1 h;exact List.set_getElem_self b
def AAe{g:FuncId}(key:j.D→Int)(a9:∀e,(j.enc e).cells[0]?=Y (.int .i64 (key e))){sD:Ψ j.D→Ω (Ψ j.D)}
  (ca:∀{l y},sD l=Y y->(∀a∈l,∀b∈l,key a=key b->a=b)/\θ l<=16777216/\y=l.mergeSort λa b=>decide (key a<=key b))
  (R:∀a b(r s:Ψ Value)(W:World),θ r+1=j.sz->θ s+1=j.sz->Calls P g #[.agg (Value.int .i64 a::r).toArray,.agg (Value.int .i64 b::s).toArray] W λe w'=>e=.returned (.int .i64 (Lib.compareInt a b))/\∃q cc,w'=grow (W.drewN q) cc)
  (hS:∀{α:Type} [Inhabited α] (Q:α->Ψ Value) (_:∀x,(Q x).length=j.sz) (_:∀x,∀v∈Q x,v.oneCell'=E) (cf:α->α->Int) (_:SWO (ltOf cf)) (N cap:Nat) (d:Array α) (w:World),CmpLays P g #[] Q j.sz cf N 0 d.size w->HoldsK Q j.sz w N 0 d->N<w.heap.size->d.size<4611686018427387904->Calls P F #[.slice (Y ⟨N,0,D⟩) d.size cap,.func (.func g) #[] #[]] w λe w'=>e=.returned (.tuple #[])/\∃z n os,PermIn 0 d.size d z/\SortedIn (ltOf cf) 0 d.size z/\w'=sortWorldK Q j.sz w N 0 n z os)
  (hN:∀p cap(fv:Value)(w:World),Calls P F #[.slice p 0 cap,fv] w λe w'=>e=.returned (.tuple #[])/\w'=w):
  (Qd.c2 F j [] [] [.fn (.func g) [] []] λl _=>sD l).Ok P:=by
 intro l x y hy Y_ H id ap X_ h w O s hs hr;obtain⟨hn,ce,bt⟩:=ca hy;obtain⟨c0,c1,rfl⟩:∃c0 c1,O= #[c0,c1]:=by
  obtain⟨a⟩:=O;match a,hs with
  |[a,b],_=>exact⟨a,b,rfl⟩
 have r0:=hr 0 _ c0 rfl rfl;have r1:=hr 1 _ c1 rfl rfl;obtain⟨hg,a6⟩:=s.live id _ _ ap;have bN:c1=.func (.func g) #[] #[]:=by
  cases r1 with
  |fn A I _ _=>rw[tq A,tq I]
 subst bN;by_cases hl:l=[];subst hl;have cb:y=[]:=by rw[bt];simp
 obtain⟨a,cap,rfl⟩:∃a cap,c0=.slice a 0 cap:=by
  cases r0 with
  |sl _ _ A _=>exact A
 apply (hN a cap _ w).mono;rintro e w' ⟨rfl,rfl⟩;refine⟨_,.tup [],h,H,rfl,⟨rfl,?_⟩,s,.tup rfl (λo v c C=>by simp at C),HM.refl h H w'⟩;rw[show(Lu (.list j) [] y).2=[]from cb];exact(List.set_getElem?_self' ap).symm;have hk:=j.sz_pos;have bb:0<θ l:=List.length_pos_iff.2 hl;rcases a6 with⟨_,b1⟩|⟨B,G,T,fz,f,V,hb,a4,b4,a7,J⟩;have:=mN (te:=j) l;rw[b1,Bj]at this;exact O! this.symm (Nat.ne_of_gt (Nat.mul_pos bb hk));obtain⟨cap,rfl⟩:∃cap,c0=.slice (Y ⟨B,0,D⟩) (θ l) cap:=by
  cases r0 with
  |sl _ _ _ hc=>rcases hc hg with⟨A,_⟩|⟨B',cap,A,_,_,h4⟩;rw[V]at A;cases A;rw[V]at A;injection A with A;subst A;exact⟨cap,h4⟩
 have ad:∀i (t:i<θ l) c,c<j.sz->∃v,(j.enc l[i]).cells[c]?=Y v/\(j.E.cl l)[i*j.sz+c]?=Y v:=λi t c hc=>by
  have K:i*j.sz+c<θ l*j.sz:=by have:=NU j.sz (show i+1<=θ l from t);rw[EJ,Nat.one_mul]at this;omega
  obtain⟨e,A,I⟩:=nL K;have d1:(i*j.sz+c)/j.sz=i:=(blk_iff j.sz i _ hk).1 o!;have d2:(i*j.sz+c)%j.sz=c:=by rw[Nat.mod_eq_sub_div_mul,d1];omega
  rw[d1,Au t]at A;rw[d2]at I;have Y_:=j.enc_len e;rw[<-BW A]at I Y_;exact⟨_,Au o!,by rw[I];exact Au o!⟩
 let mk:∀i,i<θ l->xZ (cx X_ h H w) j:=λi t=>⟨(l[i],(List.range j.sz).map λc=>f (i*j.sz+c)),q!,λv hv=>by
  obtain⟨c,hc,rfl⟩:=Bp.1 hv;obtain⟨u,_,I⟩:=ad i t c (IJ.1 hc);exact(J _ _ I).2.1,λo v c C hc=>by
  rw[CT]at hc;obtain⟨j',S,rfl⟩:=Tr.1 hc;have ar:=(Ei.1 S).1;rw[List.length_range]at ar;rw[Rn ar]at S;injection S with S;subst S;obtain⟨u,A,I⟩:=ad i t o ar;dsimp only at C;rw[A]at C;injection C with C;subst C;exact(J _ _ I).2.2⟩
 let dl:Ψ (xZ (cx X_ h H w) j):=List.ofFn λi:Fin (θ l)=>mk i.val i.isLt;have bG:θ dl=θ l:=List.length_ofFn;have a2:∀i (t:i<θ l),dl[i]?=Y (mk i t):=λi t=>by rw[List.getElem?_ofFn,dif_pos t]
 have:Inhabited (xZ (cx X_ h H w) j):=⟨mk 0 bb⟩
 let d:=dl.toArray;have L:d.size=θ l:=bG;have dg:∀i (t:i<θ l),d[i]! =mk i t:=λi t=>by
  have A:=a2 i t;have I:d[i]?=Y (mk i t):=by rw[fh];exact A
  rw[getElem!_def,I]
 have hd:d.toList.map (·.1.1)=l:=by refine JW λi=>?_;rw[CT];show Option.map _ dl[i]?=_;by_cases t:i<θ l;rw[a2 i t,Bu,Au t];rw[Ct o!,Ct o!,nl]
 have ao:HoldsK (λp:xZ (cx X_ h H w) j=>p.1.2) j.sz w B 0 d:=by
  intro o C;rw[size_flatK,L]at C;rw[get_flatK _ _ _ _ (by rw[L];exact C)];have t:o/j.sz<θ l:=Nat.div_lt_of_lt_mul (by rw[Nat.mul_comm];exact C);have hm:=Yu o hk;have a8:o/j.sz*j.sz+o%j.sz=o:=Nat.div_add_mod' o j.sz;obtain⟨u,_,I⟩:=ad _ t _ hm;rw[a8]at I;have ha:=(J _ _ I).1;have K:o<G.size:=(dC.1 ha).1;rw[dg _ t];have hx:(((List.range j.sz).map λc=>f (o/j.sz*j.sz+c))[o%j.sz]!)=f o:=by rw[getElem!_def,CT,Rn hm,Bu,a8]
  refine⟨?_,?_⟩;show w.cell? ⟨B,0+o,D⟩=Y ((((List.range j.sz).map λc=>f (o/j.sz*j.sz+c))[o%j.sz]!));rw[hx];unfold World.cell?;rw[show w.heap[B]?=Y (.cells G T fz)from hb];simpa using ha;unfold World.frozen?;rw[show w.heap[B]?=Y (.cells G T fz)from hb];simpa using a7 o K
 have hB:B<w.heap.size:=(dC.1 hb).1;have a5:CmpLays P g #[] (λp:xZ (cx X_ h H w) j=>p.1.2) j.sz (λx y=>Lib.compareInt (key x.1.1) (key y.1.1)) B 0 d.size w:=by
  intro m os dk hs x y;have hx:∀p:xZ (cx X_ h H w) j,∃r:Ψ Value,p.1.2=Value.int .i64 (key p.1.1)::r/\θ r+1=j.sz:=λp=>by
   obtain⟨⟨e,vs⟩,A,I,h3⟩:=p;dsimp only at A I h3;cases vs with
   |nil=>rw[Bj]at A;omega
   |cons v r=>have:=h3 0 _ v (a9 e) rfl;cases this;exact⟨r,rfl,A⟩
  obtain⟨r,b7,b8⟩:=hx x;obtain⟨s',b9,b'⟩:=hx y;have:=R (key x.1.1) (key y.1.1) r s' (sortWorldK (λp:xZ (cx X_ h H w) j=>p.1.2) j.sz w B 0 m dk os) b8 b';rw[<-b7,<-b9]at this;exact this
 have Z:=hS (λp:xZ (cx X_ h H w) j=>p.1.2) (·.2.1) (·.2.2.1) (λx y=>Lib.compareInt (key x.1.1) (key y.1.1)) (ALO λp:xZ (cx X_ h H w) j=>key p.1.1) B cap d w a5 ao hB (by rw[L];omega);rw[L]at Z;apply Z.mono;rintro e w' ⟨rfl,z,n,os,U,a1,rfl⟩;have M:=U.1;rw[L]at M;have b6:z.toList.Perm d.toList:=by have:=U.2.2;rwa [<-L,<-(show z.size=d.size by omega),og,M,<-L,og]at this
 have bz:z.toList.map (·.1.1)=y:=by rw[bt];apply ABx hn (by rw[<-hd];exact b6.map _);rw[EI];intro i o t C b2;rw[Ba,Dy]at t C;have:=a1 i o (BU _) b2 o!;rw[getElem!_pos z o C,getElem!_pos z i t]at this;simp only[List.getElem_map,Array.getElem_toList];unfold ltOf Lib.compareInt at this;simp only[decide_eq_false_iff_not]at this;by_cases c1:key (z[o]).1.1<key (z[i]).1.1;simp[c1]at this;omega
 have R:(j.E.cl y).length=θ l*j.sz:=by rw[mN,<-bz,Ba,Dy,M]
 have b0:∀(o:Nat)(v:Ad),(j.E.cl y)[o]?=Y v->∃c:Value,(flatK (λp:xZ (cx X_ h H w) j=>p.1.2) j.sz z)[o]! =c/\c.oneCell'=E/\Bz (cx X_ h H w) v c:=by
  intro o v C;have K:=(Ei.1 C).1;rw[R]at K;have t:o/j.sz<z.size:=by rw[M];exact Nat.div_lt_of_lt_mul (by rw[Nat.mul_comm];exact K)
  have hm:=Yu o hk;rw[get_flatK _ _ _ _ (by rw[M];exact K),getElem!_pos z _ t];generalize hq:z[o/j.sz]=q;obtain⟨⟨e,vs⟩,A,I,h3⟩:=q;dsimp only at A I h3;have b3:o<θ y*j.sz:=by rw[<-mN];exact(Ei.1 C).1
  obtain⟨e',g1,g2⟩:=nL b3;rw[<-bz,CT,QG,ON t,hq]at g1;have g1:e=e':=BW g1;subst g1;rw[C]at g2;have ax:o%j.sz<θ vs:=o!
  refine⟨vs[o%j.sz],getElem!_pos vs _ ax,I _ (Gz ax),h3 _ v _ g2.symm (Au ax)⟩
 have a':θ l*j.sz<=G.size:=by rw[<-mN];exact b4
 have cd:(flatK (λp:xZ (cx X_ h H w) j=>p.1.2) j.sz z).size=θ l*j.sz:=by rw[size_flatK,M]
 have al:(sortWorldK (λp:xZ (cx X_ h H w) j=>p.1.2) j.sz w B 0 n z os).heap=w.heap.modify B (onCells (putCells (λv=>v) 0 (flatK (λp:xZ (cx X_ h H w) j=>p.1.2) j.sz z)))++os:=rfl;have a3:(sortWorldK (λp:xZ (cx X_ h H w) j=>p.1.2) j.sz w B 0 n z os).heap[B]?=Y (.cells (putCells (λv=>v) 0 (flatK (λp:xZ (cx X_ h H w) j=>p.1.2) j.sz z) G) T fz):=by rw[al,Yw (by rw[Array.size_modify];exact hB),cw,C! rfl,show w.heap[B]?=Y (.cells G T fz)from hb];rfl
 have bl:∀k,k<w.heap.size->k≠B->(sortWorldK (λp:xZ (cx X_ h H w) j=>p.1.2) j.sz w B 0 n z os).heap[k]?=w.heap[k]? :=λk hk b5=>by rw[al,Yw (by rw[Array.size_modify];exact hk),cw,D! (PM b5)]
 have a0:(putCells (λv=>v) 0 (flatK (λp:xZ (cx X_ h H w) j=>p.1.2) j.sz z) G).size=G.size:=by unfold putCells;rw[Array.size_mapIdx]
 have hh:Holds (cx X_ h H w) (j.E.cl y) (putCells (λv=>v) 0 (flatK (λp:xZ (cx X_ h H w) j=>p.1.2) j.sz z) G) fz:=by refine⟨λo=>(flatK (λp:xZ (cx X_ h H w) j=>p.1.2) j.sz z)[o]!,by rw[a0,R];exact a',λi t=>a7 i (by rw[a0]at t;exact t),λo v C=>?_⟩;obtain⟨c,e1,e2,e3⟩:=b0 o v C;have K:=(Ei.1 C).1;rw[R]at K;dsimp only;rw[e1];refine⟨?_,e2,e3⟩;unfold putCells;rw[Array.getElem?_mapIdx,ON (show o<G.size by omega),Bu,C! ⟨BU _,o!⟩,WZ,e1]
 have bm:=s.upd ap (g':=θ l) (B:=B) (cs':=j.E.cl y) (Al _) (λ_=>⟨V,a4.symm.trans a0.symm⟩) (.inl V) a3 bl rfl rfl rfl (by rw[al];simp) hh;refine⟨_,.tup [],_,_,rfl,⟨rfl,?_⟩,bm.1,.tup rfl (λo v c C=>by simp at C),bm.2⟩;rfl
def AF0{g:FuncId}{te:Ty}(key:te.D→U)(i:∀e,(te.enc e).cells[0]?=Y (.int .i64 (key e)))
  (t:∀a b(r s:S Value)(W:World),θ r+1=te.sz->θ s+1=te.sz->Calls P g #[.agg (Value.int .i64 a::r).toArray,.agg (Value.int .i64 b::s).toArray] W λe j=>e=.returned (.int .i64 (Lib.compareInt a b))/\∃q u,j=grow (W.drewN q) u)
  (C:∀{k:Type} [Inhabited k] (f:k->S Value) (_:∀x,(f x).length=te.sz) (_:∀x,∀v∈f x,v.oneCell'=E) (m:k->k->U) (_:SWO (ltOf m)) (c cap:V) (d:Array k) (w:World),CmpLays P g #[] f te.sz m c 0 d.size w->HoldsK f te.sz w c 0 d->c<w.heap.size->d.size<4611686018427387904->Calls P F #[.slice (Y ⟨c,0,D⟩) d.size cap,.func (.func g) #[] #[]] w λe j=>e=.returned (.tuple #[])/\∃o n os,PermIn 0 d.size d o/\SortedIn (ltOf m) 0 d.size o/\j=sortWorldK f te.sz w c 0 n o os)
  (B:∀p cap(A:Value)(w:World),Calls P F #[.slice p 0 cap,A] w λe j=>e=.returned (.tuple #[])/\j=w):
  (Qd.c2 F te [] [] [.fn (.func g) [] []] λl _=>ACq key l).Ok P:=
 AAe key i (λ{l y} h=>by unfold ACq at h;split at h;rename_i z;exact⟨AFy z.1,z.2,(BW h).symm⟩;cases h) t C B
def AFz{g:FuncId}{te:Ty}(key:te.D→U)(i:∀e,(te.enc e).cells[0]?=Y (.int .i64 (key e)))
  (t:∀a b(r s:S Value)(W:World),θ r+1=te.sz->θ s+1=te.sz->Calls P g #[.agg (Value.int .i64 a::r).toArray,.agg (Value.int .i64 b::s).toArray] W λe j=>e=.returned (.int .i64 (Lib.compareInt a b))/\∃q u,j=grow (W.drewN q) u)
  (C:∀{k:Type} [Inhabited k] (f:k->S Value) (_:∀x,(f x).length=te.sz) (_:∀x,∀v∈f x,v.oneCell'=E) (m:k->k->U) (_:SWO (ltOf m)) (c cap:V) (d:Array k) (w:World),CmpLays P g #[] f te.sz m c 0 d.size w->HoldsK f te.sz w c 0 d->c<w.heap.size->d.size<4611686018427387904->Calls P F #[.slice (Y ⟨c,0,D⟩) d.size cap,.func (.func g) #[] #[]] w λe j=>e=.returned (.tuple #[])/\∃o n os,PermIn 0 d.size d o/\SortedIn (ltOf m) 0 d.size o/\j=sortWorldK f te.sz w c 0 n o os)
  (B:∀p cap(A:Value)(w:World),Calls P F #[.slice p 0 cap,A] w λe j=>e=.returned (.tuple #[])/\j=w):
  (Qd.c2 F te [] [] [.fn (.func g) [] []] λl _=>AAd key l).Ok P:=
 AAe key i (λ{l y} h=>by unfold AAd at h;split at h;rename_i z;exact⟨z.1,z.2,(BW h).symm⟩;cases h) t C B
end Go.Ab
