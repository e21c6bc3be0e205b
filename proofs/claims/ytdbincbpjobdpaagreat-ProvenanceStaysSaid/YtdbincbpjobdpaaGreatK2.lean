/- Texts of wip, joined and shortened by wip/tools/pack.py; nothing is assumed. -/
import Derived.Test.YtdbincbpjobdpaaGreatK1
import Derived.Laws.MakeOwn
import Derived.RangeFuncNested
import Derived.Lib.ConvBytes
import Derived.Laws.AppendOwn
noncomputable section
set_option linter.all false
open List renaming length->U
open Option renaming some->δ,none->ε
open Bool renaming true->ζ,false->η
open List renaming length->θ,replicate->ς
open Nat renaming beq->ξ
open Decidable renaming decide->τ
namespace Go.Ab
variable {N n:Nat}{R J:Type}{o:Oper}{b V:TypeId}{d Z:Ψ Ad}{f W:Env}{c:Code}{g:Operand}{L:Array Bool}{H:Au}{j:World}{k:Ψ Nat}{m:Ω Nat}{p:FuncId}{i a:Int}{q:Array (Nat×Operand)}{r:Value}{s:Ad}{t:Act}{P:Program}{y:Array Oper}{z:Exit->Act->World->Prop}{h:Gh}{B:Exit->Env->Au->Prop}{C:IntKind}{I:Fx}{M:Nat→Prop}{O:Ψ UInt8}{S:TypeDesc}{T:Op}{Y:Call}
section
variable {X:Nat->Prop}{h:Gh}{H:Au}{w:World}{N:Nat}{env env2:Env}
def Fb.trans{g}{l m n}{i j k}(a:Fb N g l i m j)(b:Fb N g m j n k):Fb N g l i n k:=⟨b.1,λX h d w s=>by obtain⟨o,u,e,r⟩:=a.2 X h d w s;obtain⟨p,v,f,t⟩:=b.2 X o d w u;exact⟨p,v,λid c=>⟨(f id c).1.trans (e id c).1,(f id c).2.1.trans (e id c).2.1,(f id c).2.2.trans (e id c).2.2⟩,λB q=>r B (t B q)⟩⟩
def Fb.of_le{n0 j:Nat}{e}(a:Fb N j f H W e)(h:n0<=j):Fb N n0 f H W e:=⟨CK h a.1,λX g b w s=>by obtain⟨l,n,k,m⟩:=a.2 X g b w s;exact⟨l,n,λid c=>k id (DE c h),m⟩⟩
def Fb.virt{t sz:Nat}(n:env.get t=.nils):Fb N (U H) env H (env.put t (.sl (U H) 0 sz 0 0)) (H++[.live 0 []]):=by
 refine⟨q!,λX g d w s=>⟨g.at_ (U H) ε 0 0,⟨s.sim.virt,?_,s.size⟩,λid f=>by simp[Gh.at_,Bo f],λB l=>?_⟩⟩;have r:(t,Ad.nils)∈env:=by rcases N9 (env:=env) (t:=t)with e|m;rw[n]at e;cases e;rw[n]at m;exact m
 have x:=HN.virt (h:=g) (H:=H) (w:=w);have a:=s.env.later (x.later X);intro u v m;unfold Env.put at m;rcases Aw.1 m with e|m;injection e with o p;subst o p;obtain⟨q,k⟩:=s.env _ _ r;refine⟨q,?_⟩;generalize d.tmps.getD u undef=c at k;cases k;exact .sl (by simp[cx]) (by simp[cx,Gh.at_]) ⟨_,_,rfl⟩ λ_=>.inl ⟨by simp[cx,Gh.at_],rfl,rfl,rfl⟩;exact a u v (BS.1 m).1;rcases(HN.virt (h:=g) (H:=H) (w:=w)).fresh B l with h|h;exact h;obtain⟨id,e,a,j,b⟩:=l;rcases JN a with⟨i,a⟩|⟨rfl,rfl⟩;exact⟨id,e,a,j,by simpa[Gh.at_,Bo i]using b⟩;simp[Gh.at_]at b
end
def ABm(sz:Nat)(cs:Ψ Ad)(rows:Ψ Ad):Prop:=0<sz/\(∀e∈rows,U e.cells=sz)/\rows.flatMap Ad.cells=cs
theorem ot{sz:Nat}:∀{a:Ψ Ad},(∀e∈a,U e.cells=sz)->∀(j:Nat)(e:Ad)(i:Nat)(v:Ad),a[j]?=δ e->e.cells[i]?=δ v->(a.flatMap Ad.cells)[j*sz+i]?=δ v
 |e0::r,h,j,e,i,v,hj,hi=>by
  have b:=h e0 q!;simp;cases j with
  |zero=>grind
  |succ j=>rw[Cl k!,b,show(j+1)*sz+i-sz=j*sz+i from by grind];exact ot (λe c=>h e (Ch _ c)) j e i v k! hi
def Bw.froze{id g sz n:Nat}{y:Cx}(s:JP M h H j)(P:H[id]?=δ (Fx.live g d))(hr:ABm sz d Z)(hn:θ Z=n)
  (R:(cx M h H j).Later y) (I:y.w=j) (a:∀B,h.io id=δ B->¬y.O B) (F:Bw (cx M h H j) (.sl id g sz 0 n) r):Bw y (.vs sz Z) r:=by
 obtain⟨x,k,rfl⟩:=hr;obtain⟨t,o⟩:=s.live id g _ P;cases F with
 |sl p q Y N=>
  rcases N t with⟨X,U,_,rfl⟩|⟨B,cap,X,m,C,rfl⟩;have:Z=[]:=Eh o!;subst this;exact Bw.vs (rows:=[]) (cap:=0) (λ_ _=>undef) (Al _) x (λ_ _ h=>by simp at h) (λh=>(h rfl).elim) λ_ _ _ _ h=>by simp at h
  rcases o with⟨E,_⟩|⟨z,J,T,W,f,l,G,A,S,Q,b⟩;rw[E]at X;cases X;have:z=B:=by rw[X]at l;injection l with e;exact e.symm
  subst this;subst hn;refine .vs (λw i=>f (w*sz+i)) m x (λw e u=>k e (BN u)) (λV=>⟨z,0,rfl,a z X,?_,λw e i v u D=>?_⟩) λw e i v u D=>?_;rw[I];exact Pj G;obtain⟨K,L,_⟩:=b _ v (ot k w e i v u D);rw[DZ,I,P2 (w:=j) G];exact⟨K,L⟩;exact(b _ v (ot k w e i v u D)).2.2.later R
section
variable {X:Nat->Prop}{h:Gh}{H:Au}{w:World}
theorem fA(b:(H.take N)[n]?=δ I):n<N/\H[n]?=δ I:=k!
def iP{n0 B}(d:owned h (H.take n0) B):owned h H B:=by obtain⟨id,e,c,b,a⟩:=d;exact⟨id,e,(fA c).2,b,a⟩
def Bw.trunc(hn:N<=U H)(a:Bw (cx X h H w) s r)(d:(s.idsAll λid=>decide (id<N))=ζ):Bw (cx X h (H.take N) w) s r:=by have:=Bw.ren (x:=cx X h H w) (y:=cx X h (H.take N) w) (ρ:=λi=>i) (p:=λid=>decide (id<N)) (λi e _=>⟨by simp[cx]at*;omega,rfl,rfl,rfl⟩) rfl (λB b=>by rcases b with b|b;exact .inl b;exact .inr (iP b)) a d;rwa [ABR (p:=λid=>decide (id<N)) (λ_ _=>rfl) s d]at this
theorem JP.trunc(s:JP X h H w)(hn:N<=U H)(E:∀e∈H.take N,(e.idsAll λid=>decide (id<N))=ζ):JP X h (H.take N) w:=by refine⟨λB D=>⟨(s.out B D).1,λO=>(s.out B D).2 (iP O)⟩,λid g G c=>?_,λid L c=>?_,λid A e I B i k=>s.inj id A e I B (fA i).2 (fA k).2,s.bldKeep λid e c _=>⟨(fA c).2,rfl,rfl,rfl,λ_ _ _ _ _=>rfl⟩⟩;obtain⟨x,n⟩:=s.live id g G (fA c).2;refine⟨x,?_⟩;rcases n with⟨z,rfl⟩|⟨B,p,T,J,f,d,a,l,y,u,b⟩;exact .inl ⟨z,rfl⟩;refine .inr ⟨B,p,T,J,f,d,a,l,y,u,λj v F=>?_⟩;obtain⟨i,k,q⟩:=b j v F;exact⟨i,k,q.trunc hn (M7 (by simpa[Fx.idsAll]using E _ (BN c)) F)⟩;obtain⟨x,B,r,d,a,i,k,q,K,M,o,C⟩:=s.lp id L (fA c).2;refine⟨x,B,r,d,a,i,k,q,K,M,o,λt v m=>⟨(C t v m).1,(C t v m).2.trunc hn ?_⟩⟩;have P:=E _ (BN c);grind[Fx.idsAll]
end
def Ip:Ψ Oper->Ψ Nat->Ψ Nat
 |[],acc=>acc
 |o::r,acc=>Ip r (acc++[o.after.toList.foldl (λs e=>if Region.binds .any e=ζ then s|||2^e.on|||acc.getD e.on 0 else s) 0])
def Pf(m:Ψ Nat)(i j:Nat):Bool:=(m.getD j 0).testBit i
def wX{b:Ψ Nat}{i:Nat}:∀(l:Ψ Edge)(s:Nat),(l.foldl (λs e=>if Region.binds .any e=ζ then s|||2^e.on|||b.getD e.on 0 else s) s).testBit i=ζ→
  s.testBit i=ζ\/∃e∈l,Region.binds .any e=ζ/\(e.on=i\/(b.getD e.on 0).testBit i=ζ)
 |[],s,h=>.inl h
 |e::l,s,h=>by simp only[YO]at h;rcases wX l _ h with a|⟨f,d,c,g⟩;split at a;rename_i c;simp only[Nat.testBit_or,P0,Nat.testBit_two_pow]at a;rcases a with(a|a)|a;exact .inl a;exact .inr ⟨e,q!,c,.inl (by simpa using a)⟩;exact .inr ⟨e,q!,c,.inr a⟩;exact .inl a;exact .inr ⟨f,Ch _ d,c,g⟩
theorem YQ:∀(l:Ψ Oper)(a:Ψ Nat),(∀k,k<U a→(Ip l a)[k]?=a[k]?)∧
  ∀(p i:Nat)(o:Oper),l[p]?=δ o->Pf (Ip l a) i (U a+p)=ζ->∃e∈o.after.toList,Region.binds .any e=ζ/\(e.on=i\/(e.on<U a+p/\Pf (Ip l a) i e.on=ζ))
 |[],a=>⟨λ_ _=>rfl,λp i o h=>by simp at h⟩
 |o::l,a=>by
  simp only[Ip];generalize g:o.after.toList.foldl (λs e=>if Region.binds .any e=ζ then s|||2^e.on|||a.getD e.on 0 else s) 0=x;obtain⟨m,c⟩:=YQ l (a++[x]);refine⟨λk r=>?_,λp i j t b=>?_⟩;grind;cases p with
  |zero=>
   have f:(Ip l (a++[x])).getD (U a) 0=x:=k!
   simp only[Pf,O1]at b;rw[f,<-g]at b;rcases wX _ _ b with d|⟨e,q,n,d⟩;grind;grind[Pf]
  |succ p=>have:=c p i j k! k!;rw[show(a++[x]).length+p=U a+(p+1)from by simp;omega]at this;exact this
section
variable {ops:Array Oper}
def xO(ops:Array Oper)(L:Array Bool):Prop:=∀(j:Nat)(o:Oper),ops[j]?=δ o->L.getD j η=ζ->∀e∈o.after,Region.binds .any e=ζ->L.getD e.on η=ζ
def eX{L}(k:xO ops L){i}:∀(n j:Nat)(o:Oper),j<n->ops[j]?=δ o->(∀e∈o.after,Region.binds .any e=ζ->L.getD e.on η=ζ)->Pf (Ip ops.toList []) i j=ζ->L.getD i η=ζ
 |0,_,_,h,_,_,_=>o!
 |n+1,j,o,hj,ho,hp,hm=>by
  obtain⟨e,r,q,h⟩:=(YQ ops.toList []).2 j i o (by simpa using ho) (by simpa using hm);have a:=hp e (by simpa using r) q;rcases h with rfl|⟨g,c⟩;exact a;have l:e.on<j:=by simpa using g
  cases b:ops[e.on]? with
  |none=>have:Pf (Ip ops.toList []) i e.on=ζ:=c;obtain⟨s,_⟩:=cO.1 ho;rw[yv]at b;omega
  |some m=>exact eX k n e.on m o! b (λp f d=>k e.on m b a p f d) c
def tmpsOf(o:Oper):Ψ Nat:=o.op.operands.toList.filterMap λ|.tmp t=>δ t|_=>ε
def Z3(P:Program)(N:Nat)(o:Oper)(env:Env)(H:Au)(rd:Ψ Nat)(v:Ad):Prop:=
 ∀(env':Env)(H':Au),(∀t∈tmpsOf o,env'.get t=env.get t)->(∀id∈rd,H'[id]?=H[id]?)->Jq P N o env' H' λu H''=>u=v/\H''=H'
def Eff(P:Program)(N:Nat)(o:Oper)(env:Env)(H:Au)(F:Ψ Nat)(K:Ad->Au->Prop):Prop:=
 (∀env':Env,(∀t∈tmpsOf o,env'.get t=env.get t)->Jq P N o env' H K)/\∀v H',K v H'->∀id,id<U H->id∉F->H'[id]?=H[id]?
def Ig(ops:Array Oper)(j:Nat):Bool:=
 match ops[j]? with
 |some o=>match o.op with|.alloc _=>ζ|_=>η
 |none=>η
def RA(P:Program)(N:Nat)(ops:Array Oper):Ψ Nat->Ψ (Nat×Ψ Nat)->Env->Au->(Env->Au->Prop)->Prop
 |[],_,env,H,Q=>Q env H
 |i::r,pend,env,H,Q=>
  match ops[i]? with
  |none=>False
  |some o=>
   YV ops o.guard env
    ((Ig ops i=η/\∃v rd,Z3 P N o env H rd v/\(∀id∈rd,id<U H)/\RA P N ops r ((i,rd)::pend) (env.putO o.dst v) H Q)\/
     (Ig ops i=η/\∃F,(∀j∈r,Pf (Ip ops.toList []) i j=ζ\/Ig ops j=ζ)/\(∀p∈pend,Pf (Ip ops.toList []) p.1 i=ζ\/∀id∈p.2,id∉F)/\
      ∃K,Eff P N o env H F K/\(∀v H',K v H'->U H<=U H')/\∀v H',K v H'->RA P N ops r pend (env.putO o.dst v) H' Q)\/
     ∃t z,o.op=.alloc t/\ZU P t=δ z/\(∀j∈r,Pf (Ip ops.toList []) i j=ζ\/Ig ops j=ζ)/\RA P N ops r pend (env.putO o.dst (.ptr (U H) 0 0)) (H++[.live 0 z]) Q)
    (Ig ops i=η/\RA P N ops r ((i,[])::pend) (env.putO o.dst (.tup [])) H Q)
def Wf(P:Program)(ops:Array Oper):Bool:=ops.toList.all λo=>match o.op with|.alloc t=>(ZU P t).isSome&&o.guard.isNone|_=>ζ
def Vl(ops:Array Oper)(i:Nat):Ω Nat:=(ops[i]?).bind (·.dst)
def ACQ(ops:Array Oper)(N:Nat)(l:Ψ Nat):Bool:=
 let m:=Ip ops.toList []
 let n:=ops.size
 PC N ops.toList&&
 (decide l.Nodup&&((List.range n).all λi=>l.contains i)&&l.all (λi=>decide (i<n)))&&
 ((List.range n).all λi=>match ops[i]? with
  |some o=>(o.after.toList.all λe=>!Region.binds .any e||decide (e.on<i))&&
    (match o.guard with|some (j,_)=>Pf m j i&&τ (j<n)&&(Vl ops j).isSome|none=>ζ)&&
    (match o.dst with
     |some d=>(List.range n).all λj=>decide (j=i)||(match ops[j]? with
       |some o'=>! τ (o'.dst=δ d)&&(!(tmpsOf o').contains d||Pf m i j||Pf m j i)
       |none=>ζ)
     |none=>ζ)
  |none=>ζ)&&
 (l.zipIdx.all λ(i,p)=>l.zipIdx.all λ(j,q)=>! τ (p<q)|| !Pf m j i)
theorem GU(env:Env)(t u:Nat)(v:Ad):(env.put t v).get u=if u=t then v else env.get u:=by unfold Env.put;simp only[Env.get];by_cases h:t=u;grind;rw[D! h,D! (h ·.symm)];induction env<;>grind[Env.get]
def KN(env:Env):Prop:=∀t v,(t,v)∈env->env.get t=v
theorem KN.put(h:KN f)(t:Nat)(v:Ad):KN (f.put t v):=by
 intro u x m;rw[GU];rcases Aw.1 m with e|m;grind;obtain⟨a,b⟩:=BS.1 m;have:u≠t:=k!
 rw[D! this];exact h u x a
def KN.putO(h:KN f)(t:Ω Nat)(v:Ad):KN (f.putO t v):=by
 cases t with
 |none=>exact h
 |some t=>exact h.put t v
theorem dh:∀{env:Env},(env.map (·.1)).Nodup->KN env
 |[],_=>λ_ _ h=>by cases h
 |(k,w)::r,h=>by
  simp at h;intro t v m;simp only[Env.get];rcases Aw.1 m with e|m;grind;have:k≠t:=k!
  rw[D! this];exact dh h.2 t v m
end
structure Xh(ops:Array Oper)(N:Nat)(l:List Nat):Prop where
 dsts:PC N ops.toList=ζ
 nodup:l.Nodup
 all:∀i,i<ops.size->i∈l
 lt:∀i∈l,i<ops.size
 back:∀(i:Nat)(o:Oper),ops[i]?=δ o->∀e∈o.after,Region.binds .any e=ζ->e.on<i
 guard:∀(i:Nat)(o:Oper)(j:Nat)(b:Bool),ops[i]?=δ o->o.guard=δ (j,b)->Pf (Ip ops.toList []) j i=ζ/\j<ops.size/\∃d,Vl ops j=δ d
 uniq:∀(i j d:Nat),Vl ops i=δ d->Vl ops j=δ d->i=j
 haz:∀(i j d:Nat)(o:Oper),Vl ops i=δ d->ops[j]?=δ o->d∈tmpsOf o->i≠j->Pf (Ip ops.toList []) i j=ζ\/Pf (Ip ops.toList []) j i=ζ
 ord:∀(l1 l2:List Nat),l=l1++l2->∀i∈l1,∀j∈l2,Pf (Ip ops.toList []) j i=η
theorem Yn(h:Vl y N=δ n):∃o,y[N]?=δ o/\o.dst=δ n:=by grind[Vl]
theorem WW{i:Nat}(h:y[i]?=δ o):i<y.size:=k!
theorem ABQ(h:ACQ y N k=ζ):Xh y N k:=by
 unfold ACQ at h;simp only[BV]at h;obtain⟨⟨⟨x,⟨l,M⟩,z⟩,A⟩,B⟩:=h;have a:∀(i:Nat)(o:Oper),y[i]?=δ o->_:=λi o f=>by have:=GN.1 A i (IK.2 (WW f));rw[f]at this;simp only[BV]at this;exact this
 refine⟨x,by simpa using l,λi c=>?_,λi c=>by simpa using List.all_eq_true.1 z i c,λi o f e E C=>?_,λi o j b f F=>?_,λi j d c g=>?_,λi j d o c g n G=>?_,λl1 l2 w i c j g=>?_⟩;simp_all;have:=GN.1 (a i o f).1.1 e (by simpa using E);simpa[C]using this;have:=(a i o f).1.2;rw[F]at this;simp only[BV,K!]at this;exact⟨this.1.1,this.1.2,fP.1 this.2⟩;obtain⟨o,f,n⟩:=Yn c;obtain⟨O,m,r⟩:=Yn g;have:=(a i o f).2;rw[n]at this;have:=GN.1 this j (IK.2 (WW m));rw[m]at this;simp only[r,decide_true,B9,pX,Bool.or_false,K!]at this;exact this.symm;obtain⟨L,u,s⟩:=Yn c;have:=(a i L u).2;rw[s]at this;have:=GN.1 this j (IK.2 (WW g));rw[g]at this;have D:(tmpsOf o).contains d=ζ:=by simpa using n
 simp only[D,B9,Bool.false_or,P0,K!,BV]at this;rcases this with h|⟨_,h⟩;omega;exact h;obtain⟨p,H⟩:=C2 c;obtain⟨q,I⟩:=C2 g;have v:p<U l1:=k!
 have J:(i,p)∈k.zipIdx:=by rw[tT];rw[w,CW v];exact H
 have K:(j,U l1+q)∈k.zipIdx:=by rw[tT];rw[w,Cl o!];simpa using I
 have:=GN.1 (GN.1 B _ J) _ K;have t:p<U l1+q:=o!
 simpa[t]using this
section
variable {P:Program}{N:Nat}{ops:Array Oper}{l:Ψ Nat}{Q:Env->Au->Prop}{env0:Env}{X:Nat->Prop}{h0:Gh}{H0:Au}{w0:World}{ds0:Ψ Deferred}
def Opd(ops:Array Oper)(env0:Env)(v:Nat->Ad)(i:Nat)(o:Oper)(ei:Env):Prop:=
 ∀t∈tmpsOf o,(∀k,k≠i->Vl ops k=δ t->Pf (Ip ops.toList []) k i=ζ->ei.get t=v k)/\
  ((∀k,k≠i->Vl ops k=δ t->Pf (Ip ops.toList []) k i=η)->ei.get t=env0.get t)
def Uf(v:Nat->Ad)(o:Oper)(r:Bool):Prop:=
 match o.guard with
 |none=>r=ζ
 |some (j,want)=>(∃b,v j=.bool b/\r=(b==want))\/(v j=.tup []/\r=η)
def XR(X:Nat->Prop)(early:Nat->Ω Nat)(B:Nat):Prop:=X B\/∃i,early i=δ B
structure Inv(P:Program)(N:Nat)(ops:Array Oper)(l:List Nat)(Q:Env→Au→Prop)(env0:Env)(X:Nat→Prop)(h0:Gh)(H0:Au)(w0:World)(ds0:List Deferred)
  (l1 l2:List Nat) (v:Nat->Ad) (pend:List (Nat×List Nat)) (env:Env) (H:Au) (h:Gh) (early:Nat->Option Nat) (L:Array Bool) (a:Act) (w:World):Prop where
 split:l=l1++l2
 ra:RA P N ops l2 pend env H Q
 kn:KN env
 keys:∀t u,(t,u)∈env->t<N
 env1:∀k∈l1,∀t,Vl ops k=δ t->env.get t=v k
 env2:∀t,(∀k∈l1,Vl ops k≠δ t)->env.get t=env0.get t
 sim:JP (XR X early) h H w
 nodefer:a.defers=ds0
 size:a.tmps.size=N
 slot1:∀k t,L.getD k η=ζ->early k=ε->Vl ops k=δ t->Bw (cx (XR X early) h H w) (v k) (a.tmps.getD t undef)
 slot2:∀t,(∀k,L.getD k η=ζ->Vl ops k≠δ t)->Bw (cx (XR X early) h H w) (env0.get t) (a.tmps.getD t undef)
 sub:∀i,L.getD i η=ζ->early i=ε->i∈l1
 lsz:L.size=ops.size
 closed:xO ops L
 pendq:∀i∈l1,L.getD i η=η->∃o,ops[i]?=δ o/\Ig ops i=η/\((Uf v o η/\v i=.tup [])\/
  (Uf v o ζ/\∃rd ei,(i,rd)∈pend/\(∀id∈rd,id<U H)/\KN ei/\(∀t u,(t,u)∈ei->t<N)/\Opd ops env0 v i o ei/\Z3 P N o ei H rd (v i)))
 ext:HN h0 H0 w0 h H w
 early1:∀i B,early i=δ B->i∈l2/\L.getD i η=ζ/\w0.heap.size<=B/\B<w.heap.size/\∃(o:Oper)(t:TypeId)(z:List Ad)(arr:Array Value),ops[i]?=δ o/\o.op=.alloc t/\ZU P t=δ z/\
  w.heap[B]?=δ (.cells arr t (0,0))/\Bw (cx (XR X early) h H w) (.agg z) (.agg arr)/\∀d,o.dst=δ d->a.tmps.getD d undef=.pointer (δ ⟨B,0,ε⟩)
 early2:∀i j B,early i=δ B->early j=δ B->i=j
def look(o:Oper)(ei:Env):Env:=ei.filter λp=>(tmpsOf o).contains p.1
theorem zg(o:Oper)(a:Env):∀t∈tmpsOf o,(look o a).get t=a.get t:=by unfold look;induction a<;>grind[Env.get]
variable {l1 l2:Ψ Nat}{v:Nat->Ad}{pend:Ψ (Nat×Ψ Nat)}{env:Env}{H:Au}{h:Gh}{early:Nat->Ω Nat}{L:Array Bool}{a:Act}{w:World}
def Inv.opd(ok:Xh ops N l)(I:Inv P N ops l Q env0 X h0 H0 w0 ds0 l1 l2 v pend env H h early L a w)(m:l2=n::k)(s:ops[n]?=δ o):Opd ops env0 v n o env:=by
 intro t u;have r:n∉l1:=by intro b;have:=ok.nodup;rw[I.split,m]at this;exact(Qp.1 this).2.2 n b n q! rfl
 refine⟨λi q c g=>?_,λp=>?_⟩;refine I.env1 i ?_ t c;obtain⟨x,f,_⟩:=Yn c;have b:=ok.all i (WW f);rw[I.split,Am]at b;rcases b with b|b;exact b;rw[m]at b;rcases Aw.1 b with e|b;exact(q e).elim;have:=ok.ord (l1++[n]) k (by rw[I.split,m];simp) n q! i b;rw[g]at this;cases this;refine I.env2 t λi b c=>?_;have d:i≠n:=λe=>r (e▸b);rcases ok.haz i n t o c s u d with j|j;rw[p i d c]at j;cases j;have:=ok.ord l1 l2 I.split i b n (by rw[m];simp);rw[j]at this;cases this
def Inv.look(ok:Xh ops N l)(I:Inv P N ops l Q env0 X h0 H0 w0 ds0 l1 l2 v pend env H h early L a w)(y:ops[n]?=δ o)(p:L.getD n η=η)
  (J:∀e∈o.after,Region.binds .any e=ζ->L.getD e.on η=ζ) (x:∀k,Pf (Ip ops.toList []) k n=ζ->early k=ε)  (kn:KN f) (G:∀t u,(t,u)∈f->t<N) (i:Opd ops env0 v n o f):Oo (cx (XR X early) h H w) (look o f) a:=by
 intro t u m;obtain⟨B,K⟩:=BS.1 m;have z:t∈tmpsOf o:=by simpa using K
 refine⟨by rw[I.size];exact G t u B,?_⟩;rw[<-kn t u B];obtain⟨D,E⟩:=i t z;by_cases A:∃k,k≠n/\Vl ops k=δ t/\Pf (Ip ops.toList []) k n=ζ;obtain⟨k,b,d,c⟩:=A;rw[D k b d c];exact I.slot1 k t (eX I.closed (n+1) n o o! y J c) (x k c) d;have g:∀k,k≠n->Vl ops k=δ t->Pf (Ip ops.toList []) k n=η:=by
  intro k b d;cases s:Pf (Ip ops.toList []) k n with
  |false=>rfl
  |true=>exact(A ⟨k,b,d,s⟩).elim
 rw[E g];refine I.slot2 t λk q d=>?_;by_cases b:k=n;subst b;rw[p]at q;cases q;rcases ok.haz k n t o d y z b with r|r;rw[g k b d]at r;cases r;obtain⟨C,j,_⟩:=Yn d;have:=eX I.closed (k+1) k C o! j (λe F s=>I.closed k C j q e F s) r;rw[p]at this;cases this
theorem Inv.wanted(ok:Xh ops N l)(I:Inv P N ops l Q env0 X h0 H0 w0 ds0 l1 l2 v pend env H h early L a w)(y:ops[n]?=δ o)(s:∀k,Pf (Ip ops.toList []) k n=ζ→early k=ε)
  (C:∀e∈o.after,Region.binds .any e=ζ->L.getD e.on η=ζ) {r:Bool} (u:Uf v o r):Region.wanted o (yielded ops a.tmps)=r:=by
 unfold Uf at u;unfold Region.wanted;cases x:o.guard with
 |none=>grind
 |some p=>
  obtain⟨j,want⟩:=p;rw[x]at u;obtain⟨f,F,d,i⟩:=ok.guard n o j want y x;have q:=eX I.closed (n+1) n o o! y C f;have hr:=I.slot1 j d q (s j f) i;have A:d<a.tmps.size:=by obtain⟨E,B,z⟩:=Yn i;have:=GN.1 ok.dsts E k!;grind[I.size]
  rcases u with⟨b,t,rfl⟩|⟨t,rfl⟩
  case inr=>
   rw[t]at hr;obtain⟨m,g⟩:∃m,a.tmps.getD d undef=.tuple m:=by generalize a.tmps.getD d undef=c at hr;cases hr;grind
   have D:yielded ops a.tmps j=ε:=by unfold yielded;rw[show(ops[j]?).bind (·.dst)=δ d from i];simp_all
   grind
  rw[t]at hr;have g:a.tmps.getD d undef=.bool b:=by generalize a.tmps.getD d undef=c at hr;cases hr;rfl
  have D:yielded ops a.tmps j=δ b:=by unfold yielded;rw[show(ops[j]?).bind (·.dst)=δ d from i];simp_all
  grind
def Inv.noEarly(ok:Xh ops N l)(I:Inv P N ops l Q env0 X h0 H0 w0 ds0 l1 l2 v pend env H h early L a w)(d:n∈l1\/∃r,l2=n::r):∀k,Pf (Ip ops.toList []) k n=ζ->k≠n->early k=ε:=by
 intro k c f;cases g:early k with
 |none=>rfl
 |some B=>have b:=(I.early1 k B g).1;rcases d with d|⟨r,rfl⟩;have:=ok.ord l1 l2 I.split n d k b;rw[c]at this;cases this;rcases Aw.1 b with e|b;exact(f e).elim;have:=ok.ord (l1++[n]) r (by rw[I.split];simp) n q! k b;rw[c]at this;cases this
theorem HW{i:Nat}(a:i<L.size)(j:Nat):(L.setIfInBounds i ζ).getD j η=if j=i then ζ else L.getD j η:=by rw[Qt,Qt];grind
theorem S8(b:∀a,m=δ a->a<t.tmps.size)(a:Nat):(t.put m r).tmps.getD a undef=if m=δ a then r else t.tmps.getD a undef:=by
 cases m with
 |none=>simp[Act.put]
 |some m=>simp only[Act.put];rw[Qt,Qt];grind
theorem nR(f:xO ops L)(h:N<L.size)(l:ops[N]?=δ o)(m:∀e∈o.after,Region.binds .any e=ζ->L.getD e.on η=ζ):xO ops (L.setIfInBounds N ζ):=by intro j k c a e g d;rw[HW h]at a⊢;by_cases b:j=N;grind;rw[D! b]at a;rw[f j k c a e g d];simp
end
section
variable {P:Program}{N:Nat}{ops:Array Oper}{l:Ψ Nat}{Q:Env->Au->Prop}{env0:Env}{X:Nat->Prop}{h0:Gh}{H0:Au}{w0:World}{ds0:Ψ Deferred}
variable {l1 l2:Ψ Nat}{v:Nat->Ad}{pend:Ψ (Nat×Ψ Nat)}{env:Env}{H:Au}{h:Gh}{early:Nat->Ω Nat}{L:Array Bool}{a:Act}{w:World}
theorem qM(ok:Xh ops N l)(a:ops[n]?=δ o):∀t,o.dst=δ t->t<N:=by have:=GN.1 ok.dsts o k!;grind
theorem GK(a:ops[N]?=δ o):Vl ops N=o.dst:=by grind[Vl]
def Inv.done(ok:Xh ops N l)(I:Inv P N ops l Q env0 X h0 H0 w0 ds0 l1 l2 v pend env H h early L a w){i:Nat}(p:ops[i]?=δ o)(r:i∈l1)(ad:L.getD i η=η)
  (hp:∀e∈o.after,Region.binds .any e=ζ->L.getD e.on η=ζ) {c:Value}{A:Gh}  (sim:JP (XR X early) A H j) (x:HN h H w A H j) (hv:Bw (cx (XR X early) A H j) (v i) c):
  Inv P N ops l Q env0 X h0 H0 w0 ds0 l1 l2 v pend env H A early (L.setIfInBounds i ζ) (a.put o.dst c) j:=by
 have n:i<L.size:=by rw[I.lsz];exact WW p
 have F:∀t,o.dst=δ t->t<a.tmps.size:=λt ht=>by rw[I.size];exact qM ok p t ht
 have O:=x.later (XR X early);have s:i∉l2:=by intro hm;have:=ok.nodup;rw[I.split]at this;exact(Qp.1 this).2.2 i r i hm rfl
 refine{split:=I.split,ra:=I.ra,kn:=I.kn,keys:=I.keys,env1:=I.env1,env2:=I.env2,sim:=sim,nodefer:=?_,size:=(eZ _ _ _).trans I.size,slot1:=λk t m M f=>?_,slot2:=λt y=>?_,sub:=λC G J=>?_,lsz:=by rw[pV];exact I.lsz,closed:=nR I.closed n p hp,pendq:=λk K g=>?_,ext:=I.ext.trans x,early1:=λk B m=>?_,early2:=I.early2};rw[show(a.put o.dst c).defers=a.defers by cases o.dst<;>rfl];exact I.nodefer;rw[S8 F];rw[HW n]at m;by_cases b:k=i;subst b;rw[GK p]at f;rw[C! f];exact hv;rw[D! b]at m;rw[D! (λe=>b (ok.uniq k i t f (by rw[GK p];exact e)))];exact(I.slot1 k t m M f).later O;rw[S8 F];have R:o.dst≠δ t:=by have:=y i (by rw[HW n,C! rfl]);rwa [GK p]at this
 rw[D! R];refine(I.slot2 t λk m=>y k ?_).later O;rw[HW n];split;rfl;exact m;rw[HW n]at G;by_cases u:C=i;subst u;exact r;rw[D! u]at G;exact I.sub C G J;rw[HW n]at g;by_cases b:k=i;subst b;simp at g;rw[D! b]at g;exact I.pendq k K g;obtain⟨S,V,W,T,o',t,z,D,U,Y,Z,e8,e9,E⟩:=I.early1 k B m;have b:k≠i:=λe=>s (e▸S);refine⟨S,by rw[HW n,D! b];exact V,W,DE T x.size,o',t,z,D,U,Y,Z,?_,e9.later O,λd q=>?_⟩;exact(x.keep B T (I.sim.out B (.inr ⟨k,m⟩)).2).trans e8;rw[S8 F,D! (λe=>b (ok.uniq k i d (by rw[GK U];exact q) (by rw[GK p];exact e)))];exact E d q
def Inv.next(ok:Xh ops N l)(I:Inv P N ops l Q env0 X h0 H0 w0 ds0 l1 l2 v pend env H h early L a w){i:Nat}(hl:l2=i::k)(U:ops[i]?=δ o){pend':Ψ (Nat×Ψ Nat)}
  (F:Ig ops i=η) (bd:RA P N ops k pend' (env.putO o.dst s) H Q) (bb:∀p∈pend,p∈pend')
  (hq:(Uf v o η/\s=.tup [])\/(Uf v o ζ/\∃rd,(i,rd)∈pend'/\(∀id∈rd,id<θ H)/\Z3 P N o env H rd s)):
  ∃S,Inv P N ops l Q env0 X h0 H0 w0 ds0 (l1++[i]) k S pend' (env.putO o.dst s) H h early L a w:=by
 have a0:=I.opd ok hl U;have ar:=ok.nodup;rw[I.split,hl]at ar;have Y:i∉l1:=λhm=>(Qp.1 ar).2.2 i hm i q! rfl;have ao:early i=ε:=by
  cases he:early i with
  |none=>rfl
  |some B=>obtain⟨_,_,_,_,o',t,z,bt,e5,e6,_⟩:=I.early1 i B he;unfold Ig at F;rw[e5]at F;simp only[e6]at F;cases F
 have bm:L.getD i η=η:=by
  cases O:L.getD i η with
  |false=>rfl
  |true=>exact(Y (I.sub i O ao)).elim
 let S:Nat->Ad:=λr=>if r=i then s else v r;have E:∀r,r≠i->S r=v r:=λr f=>by simp[S,f]
 have a1:S i=s:=by simp[S]
 have T:∀t,(env.putO o.dst s).get t=if o.dst=δ t then s else env.get t:=by
  intro t;cases o.dst with
  |none=>simp[Env.putO]
  |some d=>simp only[Env.putO,GU,Ao];by_cases h:d=t;subst h;simp;rw[D! h,D! (h ·.symm)]
 have ad:Pf (Ip ops.toList []) i i=ζ->False:=by
  intro O;obtain⟨e,he,bz,J⟩:=(YQ ops.toList []).2 i i o (by simpa using U) (by simpa using O);have al:∀(n j r:Nat),j<n->Pf (Ip ops.toList []) r j=ζ->r<j:=by
   intro n;induction n with
   |zero=>intro j r h;omega
   |succ n ih=>
    intro j r hj O;cases Z:ops[j]? with
    |none=>
     have bl:ops.size<=j:=yv.1 Z;have ap:∀(l:Ψ Oper)(M:Ψ Nat),(Ip l M).length=θ M+θ l:=by
      intro l;induction l with
      |nil=>intro M;rfl
      |cons o l ih=>intro M;simp only[Ip,ih];simp;omega
     have:(Ip ops.toList []).getD j 0=0:=by rw[N6,Cq (by rw[ap];simpa using bl)];rfl
     unfold Pf at O;rw[this]at O;simp at O
    |some oj=>obtain⟨e,he,a3,y⟩:=(YQ ops.toList []).2 j r oj (by simpa using Z) (by simpa using O);have bG:=ok.back j oj Z e (by simpa using he) a3;rcases y with y|⟨y,h3⟩;omega;have:=ih e.on r o! h3;omega
  have:=al (i+1) i i o! O;omega
 have a2:∀{r:Nat}{u:Oper}{ei:Env},r∈l1->ops[r]?=δ u->Opd ops env0 v r u ei->Opd ops env0 S r u ei:=by intro r u ei a5 R a' t ht;obtain⟨c1,c2⟩:=a' t ht;refine⟨λq hq K A=>?_,c2⟩;rw[c1 q hq K A,E];rintro rfl;have:=ok.ord l1 l2 I.split r a5 q (by rw[hl];simp);rw[A]at this;cases this
 have c:∀{o':Oper}{b:Bool},(∀j want,o'.guard=δ (j,want)->j≠i)->Uf v o' b->Uf S o' b:=by
  intro o' b a9 hw;unfold Uf at hw⊢;cases W:o'.guard with
  |none=>rw[W]at hw;exact hw
  |some p=>obtain⟨j,want⟩:=p;rw[W]at hw;simp only at hw⊢;rw[E j (a9 j want W)];exact hw
 refine⟨S,{split:=by rw[I.split,hl];simp,ra:=bd,kn:=I.kn.putO _ _,keys:=λt x m=>?_,env1:=λr f t K=>?_,env2:=λt ax=>?_,sim:=I.sim,nodefer:=I.nodefer,size:=I.size,slot1:=λr t f a7 K=>?_,slot2:=I.slot2,sub:=λj hj a4=>G2 _ (I.sub j hj a4),lsz:=I.lsz,closed:=I.closed,pendq:=λr f a8=>?_,ext:=I.ext,early1:=λr B f=>?_,early2:=I.early2}⟩;cases G:o.dst with
 |none=>rw[G]at m;exact I.keys t x m
 |some d=>rw[G]at m;simp only[Env.putO,Env.put]at m;rcases Aw.1 m with e|m;injection e with e1 _;subst e1;exact qM ok U t G;exact I.keys t x (BS.1 m).1
 rw[T];rcases Am.1 f with f|f;have C:r≠i:=λe=>Y (e▸f);rw[E r C,D! (λe=>C (ok.uniq r i t K (by rw[GK U];exact e)))];exact I.env1 r f t K;have:r=i:=by simpa using f
 subst this;rw[GK U]at K;rw[C! K,a1];rw[T];have J:o.dst≠δ t:=by have:=ax i q!;rwa [GK U]at this
 rw[D! J];exact I.env2 t λr f=>ax r (G2 _ f);have C:r≠i:=by rintro rfl;rw[bm]at f;cases f
 rw[E r C];exact I.slot1 r t f a7 K;rcases Am.1 f with D|D;have C:r≠i:=λe=>Y (e▸D);obtain⟨u,R,a6,V⟩:=I.pendq r D a8;have g:∀j want,u.guard=δ (j,want)->j≠i:=by rintro j want W rfl;have:=(ok.guard r u j want R W).1;have y:=ok.ord l1 l2 I.split r D j (by rw[hl];simp);rw[this]at y;cases y
 refine⟨u,R,a6,?_⟩;rw[E r C];rcases V with⟨J,y⟩|⟨J,rd,ei,y,h3,h4,h5,h6,h7⟩;exact .inl ⟨c g J,y⟩;exact .inr ⟨c g J,rd,ei,bb _ y,h3,h4,h5,a2 D R h6,h7⟩;have:r=i:=by simpa using D
 subst this;have g:∀j want,o.guard=δ (j,want)->j≠r:=by rintro j want W rfl;exact ad (ok.guard j o j want U W).1
 refine⟨o,U,F,?_⟩;rw[a1];rcases hq with⟨J,y⟩|⟨J,rd,y,h3,h4⟩;exact .inl ⟨c g J,y⟩;refine .inr ⟨c g J,rd,env,y,h3,I.kn,I.keys,λt ht=>?_,h4⟩;obtain⟨c1,c2⟩:=a0 t ht;exact⟨λq hq K A=>by rw[c1 q hq K A,E q hq],c2⟩;obtain⟨e1,e2⟩:=I.early1 r B f;rw[hl]at e1;rcases Aw.1 e1 with e|e1;rw[e,ao]at f;cases f;exact⟨e1,e2⟩
def Inv.guardW(ok:Xh ops N l)(I:Inv P N ops l Q env0 X h0 H0 w0 ds0 l1 l2 v pend env H h early L a w)(F:l2=n::k)(C:ops[n]?=δ o){A B:Prop}(c:YV ops o.guard env A B):
  (Uf v o ζ/\A)\/(Uf v o η/\B):=by
 unfold YV at c;unfold Uf;cases s:o.guard with
 |none=>rw[s]at c;exact .inl ⟨rfl,c⟩
 |some p=>
  obtain⟨j,want⟩:=p;rw[s]at c;simp only at c⊢;obtain⟨f,R,d,J⟩:=ok.guard n o j want C s;have E:j∈l1:=by
   have g:=ok.all j R;rw[I.split,Am]at g;rcases g with g|g;exact g;rw[F]at g;rcases Aw.1 g with e|g;subst e;have G:=ok.back;exfalso;have z:=I.opd ok F C;obtain⟨e,K,O,U⟩:=(YQ ops.toList []).2 j j o (by simpa using C) (by simpa using f);have u:∀(r q i:Nat),q<r->q<=j->Pf (Ip ops.toList []) i q=ζ->i<q:=by
    intro r;induction r with
    |zero=>intro q i h;omega
    |succ r T=>
     intro q i V S t;have x:q<ops.size:=by have:=WW C;omega
     obtain⟨e,K,D,z⟩:=(YQ ops.toList []).2 q i ops[q] (by simp[x]) (by simpa using t);have G:=ok.back q ops[q] (by simp[x]) e (by simpa using K) D;rcases z with z|⟨z,M⟩;omega;have:=T e.on i o! o! M;omega
   have:=u (j+1) j j o! (Al _) f;omega;have:=ok.ord (l1++[n]) k (by rw[I.split,F];simp) n q! j g;rw[f]at this;cases this
  have y:W6 ops env j=v j:=by unfold W6;rw[show(ops[j]?).bind (·.dst)=δ d from J];exact I.env1 j E d J
  rw[y]at c;split at c;rename_i b t;by_cases m:b=want;exact .inl ⟨.inl ⟨b,t,by simp[m]⟩,c.1 m⟩;exact .inr ⟨.inl ⟨b,t,by simp[m]⟩,c.2 (by cases b<;>cases want<;>simp_all)⟩;rename_i t;exact .inr ⟨.inr ⟨t,O!⟩,c⟩;exact c.elim
end
section
variable {P:Program}{N:Nat}{ops:Array Oper}{l:Ψ Nat}{Q:Env->Au->Prop}{env0:Env}{X:Nat->Prop}{h0:Gh}{H0:Au}{w0:World}{ds0:Ψ Deferred}
theorem W7(a:ops[N]?=δ o):Ig ops N=ζ↔∃t,o.op=.alloc t:=by grind[Ig]
theorem fR(h:Wf P ops=ζ)(i:ops[N]?=δ o)(a:o.op=.alloc b):(∃z,ZU P b=δ z)/\o.guard=ε:=by have:=GN.1 h o (by rw[Array.mem_toList_iff];exact wA i);rw[a]at this;simp at this;grind[Option.isSome_iff_exists]
def Inv.adopt(ok:Xh ops N l)(ha:Wf P ops=ζ)(hX:∀B,X B→B<w0.heap.size){l1:Ψ Nat}{v:Nat→Ad}{a6:Ψ (Nat×Ψ Nat)}{env:Env}{H:Au}{h:Gh}{early:Nat→Ω Nat}{L:Array Bool}{a:Act}{w:World}
  {i:Nat}{r:Ψ Nat} (I:Inv P N ops l Q env0 X h0 H0 w0 ds0 l1 (i::r) v a6 env H h early L a w) {B:Nat} (hB:early i=δ B):
  ∃v' Z H' h' c,Inv P N ops l Q env0 X h0 H0 w0 ds0 (l1++[i]) r v' a6 Z H' h' c L a w:=by
 obtain⟨e1,e2,e3,e4,o,t,z,T,O,ao,hz,bz,b7,bl⟩:=I.early1 i B hB;have ci:Ig ops i=ζ:=(W7 O).2 ⟨t,ao⟩;have hg:=(fR ha O ao).2;have a1:=I.ra;simp only[RA,O,hg,YV,ci,Bool.true_eq_false,false_and,false_or]at a1;obtain⟨K,z',a4,ca,_,a1⟩:=a1;rw[ao]at a4;injection a4 with et;subst et;rw[hz]at ca;injection ca with ez;subst ez;have b6:=ok.nodup;rw[I.split]at b6;have b1:i∉l1:=λhm=>(Qp.1 b6).2.2 i hm i q! rfl;let u:Ad:=.ptr (θ H) 0 0;let v':Nat->Ad:=λk=>if k=i then u else v k;have ar:∀k,k≠i->v' k=v k:=λk M=>by simp[v',M]
 have b9:v' i=u:=by simp[v']
 let c:Nat->Ω Nat:=λk=>if k=i then ε else early k;have V:∀k C,c k=δ C->k≠i/\early k=δ C:=by intro k C M;simp only[c]at M;split at M;cases M;exact⟨v!,M⟩
 have a2:∀t,(env.putO o.dst u).get t=if o.dst=δ t then u else env.get t:=by
  intro t;cases o.dst with
  |none=>simp[Env.putO]
  |some d=>simp only[Env.putO,GU,Ao];by_cases h:d=t;subst h;simp;rw[D! h,D! (h ·.symm)]
 have cd:∀{k:Nat}{J:Oper}{ei:Env},k∈l1->ops[k]?=δ J->Opd ops env0 v k J ei->Opd ops env0 v' k J ei:=by intro k J ei a9 a0 ao t ht;obtain⟨c1,c2⟩:=ao t ht;refine⟨λq hq hd a5=>?_,c2⟩;rw[c1 q hq hd a5,ar];rintro rfl;have:=ok.ord l1 (q::r) I.split k a9 q q!;rw[a5]at this;cases this
 have S:∀{o':Oper}{b:Bool},(∀j want,o'.guard=δ (j,want)->j≠i)->Uf v o' b->Uf v' o' b:=by
  intro o' b bd hw;unfold Uf at hw⊢;cases hg:o'.guard with
  |none=>rw[hg]at hw;exact hw
  |some p=>obtain⟨j,want⟩:=p;rw[hg]at hw;simp only at hw⊢;rw[ar j (bd j want hg)];exact hw
 have ap:∀C,owned (h.at_ (θ H) (δ B) 0 T.size) (H++[.live 0 z]) C->owned h H C\/C=B:=by rintro C ⟨id,e,he,bd,R⟩;rcases JN he with⟨s,he⟩|⟨rfl,rfl⟩;exact .inl ⟨id,e,he,bd,by simpa[Gh.at_,Bo s]using R⟩;simp[Gh.at_]at R;exact .inr R.symm
 have hl:(cx (XR X early) h H w).Later (cx (XR X c) (h.at_ (θ H) (δ B) 0 T.size) (H++[.live 0 z]) w):=by refine⟨Al _,λ_ _ _ _=>rfl,λC _ hO=>?_,by simp[cx],λid A=>by simp only[cx]at A;simp[cx,Gh.at_,Bo A],λid A _=>by simp only[cx]at A;simp[cx,Gh.at_,Bo A]⟩;rcases hO with(hO|⟨k,M⟩)|hO;exact .inl (.inl hO);exact .inl (.inr ⟨k,(V k C M).2⟩);rcases ap C hO with hO|rfl;exact .inr hO;exact .inl (.inr ⟨i,hB⟩)
 have b5:¬owned h H B:=(I.sim.out B (.inr ⟨i,hB⟩)).2;have b8:JP (XR X c) (h.at_ (θ H) (δ B) 0 T.size) (H++[.live 0 z]) w:=by
  refine⟨λC U=>?_,λid g cs he=>?_,λid L' he=>?_,λid ct e e' C h1 h2 b3 b4 h3 h4=>?_,I.sim.bldKeep λid e he hB=>?_⟩;have b':XR X early C:=by rcases U with U|⟨k,M⟩;exact .inl U;exact .inr ⟨k,(V k C M).2⟩
  refine⟨(I.sim.out C b').1,λO=>?_⟩;rcases ap C O with O|rfl;exact(I.sim.out C b').2 O;rcases U with U|⟨k,M⟩;have:=hX C U;omega;obtain⟨k1,k2⟩:=V k C M;exact k1 (I.early2 k i C k2 hB);rcases JN he with⟨s,al⟩|⟨rfl,e⟩;obtain⟨hg,bN⟩:=I.sim.live id g cs al;refine⟨by simpa[cx,Gh.at_,Bo s]using hg,?_⟩;rcases bN with⟨hn,rfl⟩|⟨B1,Y,T',ch,f,R,hb,bG,bb,a8,D⟩;exact .inl ⟨by simpa[cx,Gh.at_,Bo s]using hn,rfl⟩;refine .inr ⟨B1,Y,T',ch,f,by simpa[cx,Gh.at_,Bo s]using R,hb,by simpa[cx,Gh.at_,Bo s]using bG,bb,a8,λj v hj=>?_⟩;obtain⟨p1,p2,p3⟩:=D j v hj;exact⟨p1,p2,p3.later hl⟩;injection e with e1 e2;subst e1 e2;obtain⟨f,bb,a8,D⟩:=QP (b7.later hl);exact⟨by simp[cx,Gh.at_],.inr ⟨B,T,t,(0,0),f,by simp[cx,Gh.at_],bz,by simp[cx,Gh.at_],bb,a8,D⟩⟩;rcases JN he with⟨s,al⟩|⟨rfl,e⟩;obtain⟨hg,B1,r1,R,hb,p1,p2,p3,p4,p5,p6,p7⟩:=I.sim.lp id L' al;exact⟨by simpa[cx,Gh.at_,Bo s]using hg,B1,r1,by simpa[cx,Gh.at_,Bo s]using R,hb,p1,p2,p3,p4,p5,p6,λt v m=>⟨(p7 t v m).1,(p7 t v m).2.later hl⟩⟩;cases e;rcases JN h1 with⟨cb,bm⟩|⟨rfl,_⟩<;>rcases JN h2 with⟨cc,bt⟩|⟨rfl,_⟩;exact I.sim.inj _ _ _ _ C bm bt b3 b4 (by simpa[Gh.at_,Bo cb]using h3) (by simpa[Gh.at_,Bo cc]using h4);simp[Gh.at_]at h4;subst h4;exact(b5 ⟨id,e,bm,b3,by simpa[Gh.at_,Bo cb]using h3⟩).elim;simp[Gh.at_]at h3;subst h3;exact(b5 ⟨ct,e',bt,b4,by simpa[Gh.at_,Bo cc]using h4⟩).elim;rfl;rcases JN he with⟨s,al⟩|⟨rfl,e⟩;exact⟨al,by simp[Gh.at_,Bo s],by simp[Gh.at_,Bo s],by simp[Gh.at_,Bo s],λ_ _ _ _ _=>rfl⟩;subst e;cases hB
 have b0:HN h0 H0 w0 (h.at_ (θ H) (δ B) 0 T.size) (H++[.live 0 z]) w:=by have x:=I.ext;refine⟨x.os,x.tape,x.output,x.size,x.keep,by have:=x.n;simp;omega,λid A=>?_,λid A e=>?_,λC O=>?_,x.loops⟩;have s:id<θ H:=DE A x.n;simpa[Gh.at_,Bo s]using x.gen id A;have s:id<θ H:=DE A x.n;have:=x.same id A (by simpa[Gh.at_,Bo s]using e);simpa[Gh.at_,Bo s]using this;rcases ap C O with O|rfl;exact x.fresh C O;exact .inr e3
 refine⟨v',env.putO o.dst u,H++[.live 0 z],h.at_ (θ H) (δ B) 0 T.size,c,?_⟩;refine{split:=by rw[I.split];simp,ra:=a1,kn:=I.kn.putO _ _,keys:=λK y m=>?_,env1:=λk F K E=>?_,env2:=λK ax=>?_,sim:=b8,nodefer:=I.nodefer,size:=I.size,slot1:=λk K F co E=>?_,slot2:=λK ax=>(I.slot2 K ax).later hl,sub:=λj hj cm=>?_,lsz:=I.lsz,closed:=I.closed,pendq:=λk a9 a'=>?_,ext:=b0,early1:=λk C M=>?_,early2:=λk j C h1 h2=>I.early2 k j C (V k C h1).2 (V j C h2).2};cases ad:o.dst with
 |none=>rw[ad]at m;exact I.keys K y m
 |some d=>rw[ad]at m;simp only[Env.putO,Env.put]at m;rcases Aw.1 m with e|m;injection e with e1 _;subst e1;exact qM ok O K ad;exact I.keys K y (BS.1 m).1
 rw[a2];rcases Am.1 F with F|F;have G:k≠i:=λe=>b1 (e▸F);rw[ar k G,D! (λe=>G (ok.uniq k i K E (by rw[GK O];exact e)))];exact I.env1 k F K E;have:k=i:=by simpa using F
 subst this;rw[GK O]at E;rw[C! E,b9];rw[a2];have h1:o.dst≠δ K:=by have:=ax i q!;rwa [GK O]at this
 rw[D! h1];exact I.env2 K λk M=>ax k (G2 _ M);by_cases G:k=i;subst G;rw[GK O]at E;rw[b9,bl K E];exact .ptr (by simp[cx]) (by simp[cx,Gh.at_]) rfl λ_=>⟨B,by simp[cx,Gh.at_],rfl⟩
 rw[ar k G];exact(I.slot1 k K F (by simpa[c,G]using co) E).later hl;by_cases b2:j=i;subst b2;simp;exact G2 _ (I.sub j hj (by simpa[c,b2]using cm));rcases Am.1 a9 with W|W;have G:k≠i:=λe=>b1 (e▸W);obtain⟨J,a0,cn,a7⟩:=I.pendq k W a';have a3:∀j want,J.guard=δ (j,want)->j≠i:=by rintro j want hg rfl;have:=(ok.guard k J j want a0 hg).1;have h2:=ok.ord l1 (j::r) I.split k W j q!;rw[this]at h2;cases h2
 refine⟨J,a0,cn,?_⟩;rw[ar k G];rcases a7 with⟨h1,h2⟩|⟨h1,rd,ei,h2,h3,h4,h5,h6,h7⟩;exact .inl ⟨S a3 h1,h2⟩;refine .inr ⟨S a3 h1,rd,ei,h2,λid A=>by have:=h3 id A;simp;omega,h4,h5,cd W a0 h6,λZ ce he hh=>h7 Z ce he λid A=>?_⟩;rw[hh id A,CW (h3 id A)];have:k=i:=by simpa using W
 subst this;rw[e2]at a';cases a';obtain⟨k1,k2⟩:=V k C M;obtain⟨f1,f2,f3,f4,o',K,z',Y,f5,f6,f7,f8,f9,cf⟩:=I.early1 k C k2;rcases Aw.1 f1 with e|f1;exact(k1 e).elim;exact⟨f1,f2,f3,f4,o',K,z',Y,f5,f6,f7,f8,f9.later hl,cf⟩
def Mid(P:Program)(N:Nat)(ops:Array Oper)(l:Ψ Nat)(Q:Env->Au->Prop)(env0:Env)(X:Nat->Prop)(h0:Gh)(H0:Au)(w0:World)(ds0:Ψ Deferred)(L:Array Bool)(a:Act)(w:World):Prop:=
 ∃l1 l2 v pend env H h early,Inv P N ops l Q env0 X h0 H0 w0 ds0 l1 l2 v pend env H h early L a w
def Ux(ok:Xh ops N l)(T:Wf P ops=ζ)(S:∀B,X B→B<w0.heap.size){L:Array Bool}{a}{w}{i:Nat}{o:Oper}(C:ops[i]?=δ o)(g:Ig ops i=η)(s:∀e∈o.after,Region.binds .any e=ζ→L.getD e.on η=ζ):
  ∀(l2 l1:Ψ Nat)(v:Nat->Ad)(b:Ψ (Nat×Ψ Nat))(env:Env)(H:Au)(h:Gh)(early:Nat->Ω Nat),Inv P N ops l Q env0 X h0 H0 w0 ds0 l1 l2 v b env H h early L a w->∃l1 l2 v b env H h early,Inv P N ops l Q env0 X h0 H0 w0 ds0 l1 l2 v b env H h early L a w/\(i∈l1\/∃r,l2=i::r/\Uf v o ζ/\∃F,(∀j∈r,Pf (Ip ops.toList []) i j=ζ\/Ig ops j=ζ)/\(∀p∈b,Pf (Ip ops.toList []) p.1 i=ζ\/∀id∈p.2,id∉F)/\∃K,Eff P N o env H F K/\(∀v y,K v y->θ H<=θ y)/\∀v y,K v y->RA P N ops r b (env.putO o.dst v) y Q)
 |[],l1,v,b,env,H,h,early,I=>by have k:=ok.all i (WW C);rw[I.split,Do]at k;exact⟨l1,[],v,b,env,H,h,early,I,.inl k⟩
 |q::r,l1,v,b,env,H,h,early,I=>by
  by_cases G:i∈l1;exact⟨l1,q::r,v,b,env,H,h,early,I,.inl G⟩
  ·cases E:early q with
   |some B=>obtain⟨O,ar,y,h',m,D⟩:=I.adopt ok T S E;exact Ux ok T S C g s r _ O _ _ y h' m D
   |none=>
    have M:=I.ra;have ao:q<ops.size:=ok.lt q (by rw[I.split];simp);have c:ops[q]?=δ (ops[q]):=by simp[ao]
    generalize ax:ops[q]=oq at c;have x:(∀j∈r,Pf (Ip ops.toList []) q j=ζ\/Ig ops j=ζ)->i=q:=by intro f;have k:=ok.all i (WW C);rw[I.split,Am]at k;rcases k with k|k;exact(G k).elim;rcases Aw.1 k with e|k;exact e;rcases f i k with R|R;have hd:=eX I.closed (i+1) i o o! C s R;have al:=I.sub q hd E;have J:=ok.nodup;rw[I.split]at J;exact((Qp.1 J).2.2 q al q q! rfl).elim;rw[g]at R;cases R
    simp only[RA,c]at M;rcases I.guardW ok rfl c M with⟨U,(⟨n,u,rd,hQ,ap,d⟩|⟨n,F,f,V,K,W,Y,Z⟩|⟨t,z,ad,hz,f,d⟩)⟩|⟨U,n,d⟩
    ·obtain⟨O,D⟩:=I.next ok rfl c (pend':=(q,rd)::b) n d (λp s=>Ch _ s) (.inr ⟨U,rd,q!,ap,hQ⟩)
     exact Ux ok T S C g s r _ O _ _ H h early D
    have A:=x f;subst A;rw[C]at c;injection c with e;subst e;exact⟨l1,i::r,v,b,env,H,h,early,I,.inr ⟨r,rfl,U,F,f,V,K,W,Y,Z⟩⟩;have A:=x f;subst A;have:=(W7 c).2 ⟨t,ad⟩;rw[g]at this;cases this
    ·obtain⟨O,D⟩:=I.next ok rfl c (pend':=(q,[])::b) n d (λp s=>Ch _ s) (.inl ⟨U,rfl⟩)
     exact Ux ok T S C g s r _ O _ _ H h early D
def Wc{K b:Act->World->Prop}(h:Oper.wpIn (FR m) 0 P o t j K z)(d:∀t j,K t j->b t j):Oper.wpIn (FR m) 0 P o t j b z:=Oper.wpIn_mono d h
def Inv.make(ok:Xh ops N l)(ha:Wf P ops=ζ){l1 l2:Ψ Nat}{v:Nat→Ad}{K:Ψ (Nat×Ψ Nat)}{env:Env}{H:Au}{h:Gh}{early:Nat→Ω Nat}{L:Array Bool}{a:Act}{w:World}{Q0:Exit→Act→World→Prop}{ro:Ω Nat}
  (I:Inv P N ops l Q env0 X h0 H0 w0 ds0 l1 l2 v K env H h early L a w) {i:Nat}{o:Oper}{t:TypeId} (u:ops[i]?=δ o) (y:o.op=.alloc t) (a6:L.getD i η=η)
  (hp:∀e∈o.after,Region.binds .any e=ζ->L.getD e.on η=ζ):
  Oper.wpIn (FR ro) 0 P o a w (λa' C=>∃b,Inv P N ops l Q env0 X h0 H0 w0 ds0 l1 l2 v K env H h b (L.setIfInBounds i ζ) a' C) Q0:=by
 obtain⟨⟨z,hz⟩,hg⟩:=fR ha u y;have bb:Ig ops i=ζ:=(W7 u).2 ⟨t,y⟩;obtain⟨b2,zv,hi,bz,rz⟩:=fE (cx (XR X early) h H w) hz;have a4:(execOp a.eval o).run P w=.ok (.value (.pointer (δ ⟨w.heap.size,0,ε⟩))) {w with heap:=w.heap.push (.cells zv.cells t)}:=by unfold execOp;rw[y];simp[Instr.alloc,zeroValue,typeInfo,hi,bz,newVar,newRow]
 refine⟨λ_ _=>O!,?_⟩;rw[Oper.semAt_eq _ _ _ (λc hc=>by rw[y]at hc;cases hc),a4,Oper.uponIn_value];let b:Nat->Ω Nat:=λk=>if k=i then δ w.heap.size else early k;generalize s:({w with heap:=w.heap.push (.cells zv.cells t)}:World)=C;have b1:C.heap.size=w.heap.size+1:=by rw[<-s];simp
 have q:∀k,k<w.heap.size->C.heap[k]?=w.heap[k]? :=λk r=>by rw[<-s];simp[To,Bo r]
 have bt:C.heap[w.heap.size]?=δ (.cells zv.cells t):=by rw[<-s];simp
 have U:C.os=w.os:=by rw[<-s]
 have V:C.tape=w.tape:=by rw[<-s]
 have A:C.output=w.output:=by rw[<-s]
 have ap:i∉l1:=by intro hm;obtain⟨o',b0,ar,_⟩:=I.pendq i hm a6;rw[bb]at ar;cases ar
 have bl:i∈l2:=by have:=ok.all i (WW u);rw[I.split,Am]at this;exact this.resolve_left ap
 have bG:early i=ε:=by
  cases G:early i with
  |none=>rfl
  |some B=>have:=(I.early1 i B G).2.1;rw[a6]at this;cases this
 have a8:=I.sim.grow U V A o! q;have bN:=(HN.grow (h:=h) (H:=H) U V A o! q).later (XR X early);have J:∀B,owned h H B->B<w.heap.size:=by rintro B ⟨id,e,G,S,x⟩;exact I.sim.io_at G S x
 have a7:∀B,XR X b B->XR X early B\/B=w.heap.size:=by rintro B (O|⟨k,r⟩);exact .inl (.inl O);simp only[b]at r;split at r;injection r with e;exact .inr e.symm;exact .inl (.inr ⟨k,r⟩)
 have W:(cx (XR X early) h H w).Later (cx (XR X b) h H C):=by refine⟨by simp only[cx];omega,λB O _=>mY (q B O),λB O Z=>?_,Al _,λ_ _=>Al _,λ_ _ _=>⟨rfl,rfl⟩⟩;rcases Z with Z|Z;rcases a7 B Z with D|rfl;exact .inl D;simp only[cx]at O;omega;exact .inr Z
 have a5:JP (XR X b) h H C:=by refine⟨λB O=>?_,λid g cs G=>?_,λid L' G=>?_,I.sim.inj,I.sim.bldKeep λid e G _=>⟨G,rfl,rfl,rfl,λB o _ R _=>q B (Pj R)⟩⟩;rcases a7 B O with D|rfl;exact a8.out B D;exact⟨o!,λu=>by have:=J _ u;omega⟩;obtain⟨hg,ao⟩:=I.sim.live id g cs G;refine⟨hg,?_⟩;rcases ao with⟨hn,rfl⟩|⟨B,M,T,fz,f,x,R,ad,bm,bd,E⟩;exact .inl ⟨hn,rfl⟩;refine .inr ⟨B,M,T,fz,f,x,(q B (Pj R)).trans R,ad,bm,bd,λj v hj=>?_⟩;obtain⟨p1,p2,p3⟩:=E j v hj;exact⟨p1,p2,p3.later W⟩;obtain⟨hg,B1,r1,x,R,p1,p2,p3,p4,p5,p6,p7⟩:=I.sim.lp id L' G;exact⟨hg,B1,r1,x,(q B1 (Pj R)).trans R,p1,p2,p3,p4,p5,p6,λt v m=>⟨(p7 t v m).1,(p7 t v m).2.later W⟩⟩
 have p:i<L.size:=by rw[I.lsz];exact WW u
 have hd:∀t,o.dst=δ t->t<a.tmps.size:=λt ht=>by rw[I.size];exact qM ok u t ht
 refine⟨b,?_⟩;refine{split:=I.split,ra:=I.ra,kn:=I.kn,keys:=I.keys,env1:=I.env1,env2:=I.env2,sim:=a5,nodefer:=?_,size:=(eZ _ _ _).trans I.size,slot1:=λk t r a2 al=>?_,slot2:=λt J=>?_,sub:=λj hj ax=>?_,lsz:=by rw[pV];exact I.lsz,closed:=nR I.closed p u hp,pendq:=λk a1 a3=>?_,ext:=I.ext.trans (HN.grow U V A o! q),early1:=λk B r=>?_,early2:=λj k B D Y=>?_};rw[show(a.put o.dst _).defers=a.defers by cases o.dst<;>rfl];exact I.nodefer;have n:k≠i:=by rintro rfl;simp[b]at a2
 rw[HW p,D! n]at r;rw[S8 hd,D! (λe=>n (ok.uniq k i t al (by rw[GK u];exact e)))];exact(I.slot1 k t r (by simpa[b,n]using a2) al).later W;rw[S8 hd];have S:o.dst≠δ t:=by have:=J i (by rw[HW p,C! rfl]);rwa [GK u]at this
 rw[D! S];refine(I.slot2 t λk r=>J k ?_).later W;rw[HW p];split;rfl;exact r;have a0:j≠i:=by rintro rfl;simp[b]at ax
 rw[HW p,D! a0]at hj;exact I.sub j hj (by simpa[b,a0]using ax);have n:k≠i:=λe=>ap (e▸a1);rw[HW p,D! n]at a3;exact I.pendq k a1 a3;by_cases n:k=i;subst n;simp only[b,if_true]at r;injection r with e;subst e;refine⟨bl,by rw[HW p,C! rfl],I.ext.size,o!,o,t,z,zv.cells,u,y,hz,bt,rz.later W,λd F=>?_⟩;rw[S8 hd,C! F];simp only[b,D! n]at r;obtain⟨e1,e2,e3,e4,o',t',z',M,e5,e6,e7,e8,e9,a9⟩:=I.early1 k B r;refine⟨e1,by rw[HW p,D! n];exact e2,e3,o!,o',t',z',M,e5,e6,e7,(q B e4).trans e8,e9.later W,λd F=>?_⟩;rw[S8 hd,D! (λe=>n (ok.uniq k i d (by rw[GK e5];exact F) (by rw[GK u];exact e)))];exact a9 d F;simp only[b]at D Y;split at D<;>split at Y;simp_all;injection D with e;have:=(I.early1 k B Y).2.2.2.1;omega;injection Y with e;have:=(I.early1 j B D).2.2.2.1;omega;exact I.early2 j k B D Y
def Mid.step(ok:Xh ops N l)(ha:Wf P ops=ζ)(hX:∀B,X B→B<w0.heap.size){L:Array Bool}{a:Act}{w:World}{Q0:Exit→Act→World→Prop}{ro:Ω Nat}(M:Mid P N ops l Q env0 X h0 H0 w0 ds0 L a w){i:Nat}{o:Oper}(n:ops[i]?=δ o)(E:L.getD i η=η)
  (Y:∀e∈o.after,Region.binds .any e=ζ->L.getD e.on η=ζ):wpOpIn (FR ro) 0 P ops Q0 i (Mid P N ops l Q env0 X h0 H0 w0 ds0 (L.setIfInBounds i ζ)) a w:=by
 cases a3:Ig ops i with
 |true=>
  obtain⟨t,a9⟩:=(W7 n).1 a3;have hg:=(fR ha n a9).2;obtain⟨l1,l2,v,s,env,H,h,early,I⟩:=M;unfold wpOpIn;rw[n];simp only;have J:Region.wanted o (yielded ops a.tmps)=ζ:=by unfold Region.wanted;rw[hg]
  rw[J];simp only[if_true];refine(Wc (I.make ok ha n a9 E Y) ?_);rintro a' w' ⟨al,I'⟩;exact⟨l1,l2,v,s,env,H,h,al,I'⟩
 |false=>
 obtain⟨l1,l2,v,s,env,H,h,early,I⟩:=M;obtain⟨l1,l2,v,s,env,H,h,early,I,A⟩:=Ux ok ha hX n a3 Y l2 l1 v s env H h early I;have G:∀k,Pf (Ip ops.toList []) k i=ζ->early k=ε:=by
  intro k D;by_cases f:k=i;subst f;cases he:early k with
  |none=>rfl
  |some B=>have:=(I.early1 k B he).2.1;rw[E]at this;cases this
  refine I.noEarly ok ?_ k D f;rcases A with h1|⟨r,h1,_⟩;exact .inl h1;exact .inr ⟨r,h1⟩
 unfold wpOpIn;rw[n];simp only;rcases A with ax|⟨r,rfl,J,F,b5,bm,K,a1,bt,bz⟩
 ·obtain⟨o',a7,_,b4⟩:=I.pendq i ax E;rw[n]at a7;injection a7 with e;subst e;rcases b4 with⟨J,ao⟩|⟨J,rd,ei,_,_,kn,T,W,hQ⟩
  ·rw[I.wanted ok n G Y J];simp only[RR,if_false];exact⟨λ_ _=>O!,l1,l2,v,s,env,H,h,early,I.done ok n ax E Y I.sim (HN.refl _ _ _) (by rw[ao];exact .tup rfl λ_ _ _ h=>by cases h)⟩
  ·rw[I.wanted ok n G Y J];simp only[if_true];refine(Wc (hQ (look o ei) H (zg o ei) (λ_ _=>rfl) ro (XR X early) h a w ⟨I.sim,I.look ok n E Y G kn T W,I.size⟩ Q0) ?_);rintro a' w' ⟨c,u,h',H',rfl,⟨rfl,rfl⟩,hv,sim,x⟩;exact⟨l1,l2,v,s,env,_,h',early,I.done ok n ax E Y sim x hv⟩
 rw[I.wanted ok n G Y J];simp only[if_true];have W:=I.opd ok rfl n;refine(Wc (a1.1 (look o env) (zg o env) ro (XR X early) h a w ⟨I.sim,I.look ok n E Y G I.kn I.keys W,I.size⟩ Q0) ?_);rintro a' w' ⟨c,u,h',H',rfl,T,hv,sim,x⟩;have a6:=ok.nodup;rw[I.split]at a6;have bN:i∉l1:=λhm=>(Qp.1 a6).2.2 i hm i q! rfl;have hi:i<L.size:=by rw[I.lsz];exact WW n
 have hl:=x.later (XR X early);let v':Nat->Ad:=λk=>if k=i then u else v k;have Z:∀k,k≠i->v' k=v k:=λk T=>by simp[v',T]
 have ao:v' i=u:=by simp[v']
 have hd:∀t,o.dst=δ t->t<a.tmps.size:=λt ht=>by rw[I.size];exact qM ok n t ht
 have ap:∀t,(env.putO o.dst u).get t=if o.dst=δ t then u else env.get t:=by
  intro t;cases o.dst with
  |none=>simp[Env.putO]
  |some d=>simp only[Env.putO,GU,Ao];by_cases h:d=t;subst h;simp;rw[D! h,D! (h ·.symm)]
 refine⟨l1++[i],r,v',s,env.putO o.dst u,H',h',early,?_⟩;refine{split:=by rw[I.split];simp,ra:=bz u H' T,kn:=I.kn.putO _ _,keys:=λt y m=>?_,env1:=λk g t C=>?_,env2:=λt V=>?_,sim:=sim,nodefer:=?_,size:=(eZ _ _ _).trans I.size,slot1:=λk t g b3 C=>?_,slot2:=λt V=>?_,sub:=λj hj b0=>?_,lsz:=by rw[pV];exact I.lsz,closed:=nR I.closed hi n Y,pendq:=λk b1 U=>?_,ext:=I.ext.trans x,early1:=λk B g=>?_,early2:=I.early2};cases R:o.dst with
 |none=>rw[R]at m;exact I.keys t y m
 |some d=>rw[R]at m;simp only[Env.putO,Env.put]at m;rcases Aw.1 m with e|m;injection e with e1 _;subst e1;exact qM ok n t R;exact I.keys t y (BS.1 m).1
 rw[ap];rcases Am.1 g with g|g;have f:k≠i:=λe=>bN (e▸g);rw[Z k f,D! (λe=>f (ok.uniq k i t C (by rw[GK n];exact e)))];exact I.env1 k g t C;have:k=i:=by simpa using g
 subst this;rw[GK n]at C;rw[C! C,ao];rw[ap];have h1:o.dst≠δ t:=by have:=V i q!;rwa [GK n]at this
 rw[D! h1];exact I.env2 t λk T=>V k (G2 _ T);rw[show(a.put o.dst c).defers=a.defers by cases o.dst<;>rfl];exact I.nodefer;rw[S8 hd];rw[HW hi]at g;by_cases f:k=i;subst f;rw[GK n]at C;rw[C! C,ao];exact hv;rw[D! f]at g;rw[D! (λe=>f (ok.uniq k i t C (by rw[GK n];exact e))),Z k f];exact(I.slot1 k t g b3 C).later hl;rw[S8 hd];have G:o.dst≠δ t:=by have:=V i (by rw[HW hi,C! rfl]);rwa [GK n]at this
 rw[D! G];refine(I.slot2 t λk T=>V k ?_).later hl;rw[HW hi];split;rfl;exact T;rw[HW hi]at hj;by_cases a4:j=i;subst a4;simp;rw[D! a4]at hj;exact G2 _ (I.sub j hj b0);rw[HW hi]at U;by_cases f:k=i;subst f;simp at U;rw[D! f]at U;have a5:k∈l1:=by rcases Am.1 b1 with h|h;exact h;exact(f (by simpa using h)).elim
 obtain⟨ad,a8,b2,A⟩:=I.pendq k a5 U;have ar:Pf (Ip ops.toList []) i k=η:=ok.ord l1 (i::r) I.split k a5 i q!;have O:∀{b:Bool},Uf v ad b->Uf v' ad b:=by
  intro b J;unfold Uf at J⊢;cases hg:ad.guard with
  |none=>rw[hg]at J;exact J
  |some p=>
   obtain⟨j,want⟩:=p;rw[hg]at J;simp only at J⊢;have:j≠i:=by rintro rfl;have:=(ok.guard k ad j want a8 hg).1;rw[ar]at this;cases this
   rw[Z j this];exact J
 refine⟨ad,a8,b2,?_⟩;rw[Z k f];rcases A with⟨q1,q2⟩|⟨q1,rd,ei,q2,q3,q4,q5,q6,q7⟩;exact .inl ⟨O q1,q2⟩;refine .inr ⟨O q1,rd,ei,q2,λid S=>DE (q3 id S) (bt u H' T),q4,q5,λt ht=>?_,λa0 bb he hh=>q7 a0 bb he λid S=>?_⟩;obtain⟨c1,c2⟩:=q6 t ht;refine⟨λq hq bG D=>?_,c2⟩;rw[c1 q hq bG D,Z];rintro rfl;rw[ar]at D;cases D;rw[hh id S];apply a1.2 u H' T id (q3 id S);rcases bm (k,rd) q2 with h1|h1;have:=eX I.closed (i+1) i o o! n Y h1;simp only at this;rw[U]at this;cases this;exact h1 id S;obtain⟨e1,e2,e3,e4,o',t,z,bd,e5,e6,e7,e8,e9,bl⟩:=I.early1 k B g;have f:k≠i:=by rintro rfl;rw[E]at e2;cases e2
 refine⟨(Aw.1 e1).resolve_left f,by rw[HW hi,D! f];exact e2,e3,DE e4 x.size,o',t,z,bd,e5,e6,e7,?_,e9.later hl,λd a2=>?_⟩;exact(x.keep B e4 (I.sim.out B (.inr ⟨k,g⟩)).2).trans e8;rw[S8 hd,D! (λe=>f (ok.uniq k i d (by rw[GK e5];exact a2) (by rw[GK n];exact e)))];exact bl d a2
theorem Inv.end_(ok:Xh ops N l)(s:Wf P ops=ζ)(p:∀B,X B→B<w0.heap.size){L:Array Bool}{a}{w}(e:∀i,i<ops.size→L.getD i η=ζ):
  ∀(l2 l1:Ψ Nat)(v:Nat->Ad)(c:Ψ (Nat×Ψ Nat))(env:Env)(H:Au)(h:Gh)(early:Nat->Ω Nat),Inv P N ops l Q env0 X h0 H0 w0 ds0 l1 l2 v c env H h early L a w->
  ∃o b g,Q b g/\St X o N b g a w/\HN h0 H0 w0 o g w/\a.defers=ds0
 |q::r,l1,v,c,env,H,h,early,I=>by
  cases j:early q with
  |some B=>obtain⟨G,b,g,o,d,y⟩:=I.adopt ok s p j;exact Inv.end_ ok s p e r _ G _ _ g o d y
  |none=>have J:=I.sub q (e q (ok.lt q (by rw[I.split];simp))) j;have E:=ok.nodup;grind[I.split]
 |[],l1,v,c,env,H,h,early,I=>by
  have D:∀k,early k=ε:=by
   intro k;cases C:early k with
   |none=>rfl
   |some B=>have:=(I.early1 k B C).1;cases this
  have n:XR X early=X:=by funext B;apply propext;constructor;rintro(z|⟨k,x⟩);exact z;grind;exact .inl
  have f:=I.sim;rw[n]at f;refine⟨h,env,H,I.ra,⟨f,λt u m=>⟨by rw[I.size];exact I.keys t u m,?_⟩,I.size⟩,I.ext,I.nodefer⟩;rw[<-n,<-I.kn t u m];by_cases F:∃k∈l1,Vl ops k=δ t;have⟨k,x,A⟩:=F;rw[I.env1 k x t A];grind[Yn,I.slot1,WW];grind[I.env2,I.slot2,I.sub]
def Mid.end_(ok:Xh ops N l)(x:Wf P ops=ζ)(u:∀B,X B→B<w0.heap.size){w}(M:Mid P N ops l Q env0 X h0 H0 w0 ds0 L t w)(hr:Region.ready .any ops L=[]):
  ∃o b g,Q b g/\St X o N b g t w/\HN h0 H0 w0 o g w/\t.defers=ds0:=by
 obtain⟨l1,l2,v,f,env,H,h,early,I⟩:=M;have c:∀(n i:Nat),i<n->i<ops.size->L.getD i η=ζ:=by
  intro n;induction n with
  |zero=>intro i h;omega
  |succ n z=>
   intro i q d;cases p:L.getD i η with
   |true=>rfl
   |false=>
    have m:i<L.size:=by rw[I.lsz];exact d
    have j:L.getD i ζ=η:=by rw[Qt,N5 m]at p⊢;simpa using p
    have a:ops[i]?=δ (ops[i]):=by simp[d]
    have s:i∈Region.ready .any ops L:=by rw[mem_ready];refine⟨j,_,a,λe y k=>?_⟩;have r:=ok.back i _ a e y k;exact z e.on o! o!
    rw[hr]at s;cases s
 exact Inv.end_ ok x u (λi q=>c (i+1) i o! q) l2 l1 v f env H h early I
theorem wU{p q:Nat->Bool}(h:∀j,q j=ζ->p j=ζ):∀l:Ψ Nat,(l.filter q).length<=(l.filter p).length
 |[]=>q!
 |y::r=>by have a:=wU h r;grind
theorem filter_lt{p:Nat->Bool}{i:Nat}{q:Nat->Bool}(b:∀j,q j=(p j&& ! τ (j=i))):∀(l:Ψ Nat),i∈l->p i=ζ->(l.filter q).length<(l.filter p).length
 |x::r,h,hp=>by
  have d:=wU (p:=p) (q:=q) (λj a=>by rw[b]at a;simp at a;exact a.1) r;by_cases e:x=i;grind;have c:i∈r:=k!
  have f:=filter_lt b r c hp;grind
theorem Mid.any(ok:Xh ops N l)(k:Wf P ops=ζ)(g:∀B,X B→B<w0.heap.size){f:Exit→Act→World→Prop}{ro}(e:∀L a w,Mid P N ops l Q env0 X h0 H0 w0 ds0 L a w→Region.ready .any ops L=[]→f .normal a w):
  ∀(b:Nat)(L:Array Bool)(a:Act)(w:World),((List.range ops.size).filter λi=>!L.getD i η).length<=b->Mid P N ops l Q env0 X h0 H0 w0 ds0 L a w->wpAnyIn (FR ro) 0 P .any ops f b L a w
 |0,L,a,w,hf,M=>by
  have hr:Region.ready .any ops L=[]:=by
   cases u:Region.ready .any ops L with
   |nil=>rfl
   |cons i r=>
    have d:i∈Region.ready .any ops L:=k!
    rw[mem_ready]at d;have:i∈(List.range ops.size).filter λi=>!L.getD i η:=k!
    grind
  exact⟨hr,e L a w M hr⟩
 |b+1,L,a,w,hf,M=>by
  refine⟨λhr=>e L a w M hr,λi d=>?_⟩;rw[mem_ready]at d;have⟨x,o,m,t⟩:=d;have c:L.getD i η=η:=k!
  refine wpOpIn_mono (λs v n=>Mid.any ok k g e b _ s v ?_ n) (Mid.step ok k g M m c t);have:=filter_lt (p:=λi=>!L.getD i η) (i:=i) (q:=λj=>!(L.setIfInBounds i ζ).getD j η) (λj=>by rw[HW k!];by_cases h:j=i<;>simp[h]) (List.range ops.size) (IK.2 (WW m)) (by simp[c]);omega
def kM{K:Exit→Env→Au→Prop}(C:P.follows .mixedOrders=ζ)(l:Ψ Nat)(q:ACQ ops N l=ζ)(r:Wf P ops=ζ)(p:(f.map (·.1)).Nodup)
  (h:RA P N ops l [] f H (K .normal)):J1 P N (.region n ops ζ) f H K:=by
 intro ro X g a w s _;have ok:=ABQ q;have b:∀i,(Array.replicate ops.size η).getD i η=η:=by intro i;rw[Qt];by_cases d:i<ops.size;simp[d];simp[d]
 have E:({w with drawn:=w.drawn+1}:World)=w.drew:=rfl;apply wpIn_region_any C;rw[E];refine Mid.any (Q:=K .normal) (env0:=f) (X:=X) (h0:=g) (H0:=H) (w0:=w) (ds0:=a.defers) ok r (λB c=>(s.sim.out B c).1) (λL I O M hr=>?_) ops.size _ a w.drew ?_ ?_;obtain⟨A,S,y,D,F,G,z⟩:=M.end_ ok r (λB c=>(s.sim.out B c).1) hr;exact⟨A,S,y,D,F,G,.same z⟩;exact CK (EM _ _) q!;have x:=HN.drew (h:=g) (H:=H) (w:=w);have R:XR X (λ_=>ε)=X:=by funext B;apply propext;constructor;rintro(c|⟨k,e⟩);exact c;cases e;exact .inl
 refine⟨[],l,λ_=>.any,[],f,H,g,λ_=>ε,?_⟩;refine{split:=rfl,ra:=h,kn:=dh p,keys:=(λt u m=>by have:=(s.env t u m).1;rw[s.size]at this;exact this),env1:=(λk e=>by cases e),env2:=λt _=>rfl,sim:=(by rw[R];exact s.sim.drew),nodefer:=rfl,size:=s.size,slot1:=(λk t e _=>by rw[b]at e;cases e),slot2:=λt _=>(by rw[R];exact(kL s.env t).later (x.later X)),sub:=(λi d=>by rw[b]at d;cases d),lsz:=q!,closed:=(λj o J v=>by rw[b]at v;cases v),pendq:=(λi d=>by cases d),ext:=x,early1:=(λi B c=>by cases c),early2:=(λi j B c=>by cases c)}
end
def qY:Ad->Ψ Nat
 |.ptr id _ _=>[id]
 |.sl id _ _ _ _=>[id]
 |_=>[]
def ABN(env:Env)(op:Op):Ψ Nat:=op.operands.toList.flatMap λx=>qY (BP env x)
theorem gX(h:∀t∈tmpsOf o,W.get t=f.get t):∀x∈o.op.operands,BP W x=BP f x:=by
 intro x b;cases x with
 |tmp t=>apply h t;unfold tmpsOf;rw[O0];exact⟨.tmp t,k!,rfl⟩
 |_=>rfl
def uu{l:Ψ Operand}(h:∀x∈l,BP W x=BP f x):l.map (BP W)=l.map (BP f):=M9 h
theorem xB(h:∀x∈T.operands,BP W x=BP f x):Cg P W H T=Cg P f H T:=by
 cases T with
 |move x=>grind[Cg,Op.operands]
 |assign x=>grind[Cg,Op.operands]
 |pick c a b=>grind[Cg,Op.operands]
 |load t a=>grind[Cg,Op.operands]
 |nilCheck x=>grind[Cg,Op.operands]
 |binOp T t x y E=>grind[Cg,Op.operands]
 |unOp T t x=>grind[Cg,Op.operands]
 |convert s d x=>grind[Cg,Op.operands]
 |fieldAddr s x e=>grind[Cg,Op.operands]
 |field s x e=>grind[Cg,Op.operands]
 |indexAddr t x i=>grind[Cg,Op.operands]
 |index t x i=>grind[Cg,Op.operands]
 |extract x i=>grind[Cg,Op.operands]
 |slice t x u o v=>
  have C:u.map (BP W)=u.map (BP f):=by cases u with|none=>rfl|some y=>simp[h y (by simp[Op.operands])]
  have B:o.map (BP W)=o.map (BP f):=by cases o with|none=>rfl|some y=>simp[h y (by simp[Op.operands])]
  have D:v.map (BP W)=v.map (BP f):=by cases v with|none=>rfl|some y=>simp[h y (by simp[Op.operands])]
  grind[Cg,Op.operands]
 |makeFunc e a b=>simp only[Cg];rw[uu λx j=>h x (by simp only[Op.operands];exact Array.mem_append_left _ (by simpa using j)),uu λx j=>h x (by simp only[Op.operands];exact Array.mem_append_right _ (by simpa using j))]
 |build t g=>
  simp only[Cg];have:(g.toList.map λp=>(p.1,BP W p.2))=g.toList.map λp=>(p.1,BP f p.2):=M9 λp w=>by rw[h p.2 (by simp only[Op.operands,List.mem_toArray,Bn];exact⟨p,w,rfl⟩)]
  rw[this]
 |call c=>
  obtain⟨n,args,k⟩:=c;simp only[Op.operands,Call.operands]at h;cases n with
  |value e=>simp[Cg]
  |invoke r m=>simp[Cg]
  |builtin b=>
   obtain⟨args⟩:=args;obtain⟨k⟩:=k;match args with
   |[]=>simp[Cg]
   |[x]=>
    have j:=h x q!;cases b<;>simp[Cg];match k with
    |[]=>rfl
    |[t]=>simp[j]
    |_::_::_=>rfl
   |[x,y]=>have j:=h x q!;have q:=h y q!;cases b<;>simp[Cg,j,q]
   |[x,y,z]=>have j:=h x q!;have q:=h y q!;have A:=h z q!;cases b<;>simp[Cg,j,q,A]
   |_::_::_::_::_=>cases b<;>rfl
 |_=>rfl
section
variable {P:Program}{H H':Au}
theorem aM(h:H'[N]?=H[N]?):Tl H' N n=Tl H N n:=by grind[Tl]
theorem z7(h:∀id∈qY s,H'[id]?=H[id]?):QK H' s n=QK H s n:=by cases s<;>simp only[QK];rw[h _ (by simp[qY])]
theorem vK(h:∀id∈qY s,H'[id]?=H[id]?):shift H' n s=shift H n s:=by cases s<;>simp only[shift];grind[aM,qY]
def ADF(h:∀id∈qY s,H'[id]?=H[id]?):qb P H' b s=qb P H b s:=rfl
theorem ABL(h:∀id∈ABN f T,H'[id]?=H[id]?):Cg P f H' T=Cg P f H T:=by
 have j:∀x∈T.operands,∀id∈qY (BP f x),H'[id]?=H[id]? :=λx j id n=>h id (by unfold ABN;rw[GX];exact⟨x,by simpa using j,n⟩);cases T with
 |load t a=>grind[Op.operands,Cg,iu,z7]
 |nilCheck x=>grind[Op.operands,Cg,aM,qY]
 |convert s d x=>
  have g:=j x (by simp[Op.operands]);have hr:rowsOf H' (BP f x)=rowsOf H (BP f x):=by generalize BP f x=v at g;cases v<;>simp only[rowsOf];grind[qY]
  simp only[Cg,Xl];grind[BP]
 |fieldAddr s x k=>grind[Op.operands,Cg,WS,vK]
 |indexAddr t x i=>have g:=j x (by simp[Op.operands]);simp only[Cg,WX];split<;>grind[vK,aM,qY]
 |slice t x p o q=>have g:=j x (by simp[Op.operands]);simp only[Cg];generalize BP f x=v at g;cases v<;>simp only[iU];rw[aM (g _ (by simp[qY]))]
 |call c=>
  obtain⟨l,args,e⟩:=c;simp only[Op.operands,Call.operands]at j;cases l with
  |value k=>simp[Cg]
  |invoke r m=>simp[Cg]
  |builtin b=>
   obtain⟨args⟩:=args;obtain⟨e⟩:=e;match args with
   |[]=>simp[Cg]
   |[x]=>
    have g:=j x q!;cases b<;>simp only[Cg];match e with
    |[]=>rfl
    |[t]=>simp only;exact ADF g
    |_::_::_=>rfl
   |[x,y]=>cases b<;>simp[Cg]
   |[x,y,z]=>cases b<;>simp[Cg]
   |_::_::_::_::_=>cases b<;>rfl
 |_=>simp only[Cg]
def Xm{v:Ad}(e:Cg P f H o.op=δ v):Z3 P N o f H (ABN f o.op) v:=by intro a b c d;refine Dw (v:=v) ?_ ⟨rfl,rfl⟩;rw[xB (gX c),ABL d];exact e
end
section
variable {P:Program}{N:Nat}{o:Oper}{env:Env}{H:Au}{K:Ad->Au->Prop}
theorem qP
  (A:o.op=.call Y) (m:Y.callee=.value g) (G:BP env g=.fn (.func p) d Z) (D:Enters P p=ζ)
  (E:Ei P p (oV env Y d Z) H K):Jq P N o env H K:=by
 apply C3 (by rw[A];rfl);intro X h a w s Q;have k:=Dp s.env g;rw[G]at k
 obtain⟨b,e,r,t,C,I,J⟩:∃b e,a.eval g=.func (.func p) b e∧b.size=U d∧e.size=U Z∧
   (∀(j:Nat)(v:Ad)(Y:Value),d[j]?=δ v->b[j]?=δ Y->Bw (cx X h H w) v Y)/\(∀(j:Nat)(v:Ad)(Y:Value),Z[j]?=δ v->e[j]?=δ Y->Bw (cx X h H w) v Y):=by
  generalize a.eval g=cf at k;cases k<;>grind
 have q:(execOp a.eval o).run P w=.ok (.enter p (b++Y.args.map a.eval++e)) w:=by unfold execOp;rw[A];simp only[resolve,m,r,Deferred.ofValue,Sem.run_bind,Sem.run_pure,Result.andThen_ok,invoke,iS D]
 unfold Oper.wp;rw[q];simp only[Oper.upon_enter];have i:∀(j:Nat)(v:Ad)(c:Value),(oV env Y d Z)[j]?=δ v->(b++Y.args.map a.eval++e)[j]?=δ c->Bw (cx X h H w) v c:=by
  intro j v c l n;unfold oV at l;rcases Ay j (U d+Y.args.size)with y|u;rw[CW w!]at l;rw[Ye w!]at n;rcases Ay j (U d) with z|f
  grind;rw[Cl f,CR]at l;rw[tV o!,cP,t]at n;cases B:Y.args[j-U d]? with
  |none=>grind
  |some x=>rw[B]at n;rw[Pz,B]at l;simp only[Bs,Ao]at l n;subst l n;exact Dp s.env x
  grind
 refine(E X h w _ s.sim ?_ i).mono ?_;simp[oV,t,C];grind
def TB(P:Program)(env:Env)(t:TypeId)(len:Nat)(parts:Array (Nat×Operand)):Ω (Nat×Ψ Ad):=
 match eI P t with
 |some (ε,e,sz)=>
  let vs:=parts.toList.map λp=>BP env p.2
  if 0<sz/\SJ P e=ζ/\parts.toList.map (·.1)=List.range len/\(vs.all λv=>v.solid&&τ (U v.cells=sz))=ζ/\len<=4096/\sz<=4096 then δ (sz,vs)else ε
 |_=>ε
theorem Vm{len sz:Nat}{vs:Ψ Ad}(c:o.op=.buildSlice b len q)(d:TB P env b len q=δ (sz,vs))(t:K (.vs sz vs) H):Jq P N o env H K:=by grind[TB,Jq.buildSlice]
theorem dj{t:TypeId}{len sz:Nat}{f:Array (Nat×Operand)}{T:Ψ Ad}(ho:o.op=.buildSlice t len f)(r:TB P env t len f=δ (sz,T))
  (hk:K (.sl (θ H) 0 sz 0 (θ T)) (H++[.live 0 (T.flatMap Ad.cells)])):Jq P N o env H K:=by
 unfold TB at r;split at r
 case h_2=>cases r
 rename_i e y he;simp only at r;split at r
 case isFalse=>cases r
 rename_i L;obtain⟨a6,a4,F,a',O⟩:=L;simp only[Ao,Ee]at r;obtain⟨rfl,a9⟩:=r;have ap:∀v∈T,v.solid=ζ/\θ v.cells=y:=λv S=>by grind[List.all_eq_true]
 apply C3 (by rw[ho];rfl);intro X h a w s Q;obtain⟨ar,b,hi⟩:=Qw he;obtain⟨i,z,G,_,hz,bb⟩:=Ua a4;have B:=mD hi G;have hl:θ T=len:=by have k:=E! θ F;grind[θ]
 let A:Ψ Value:=f.toList.map λp=>a.eval p.2;have V:θ A=len:=by grind[θ]
 have R:∀(j:Nat)(v:Ad)(c:Value),T[j]?=δ v->A[j]?=δ c->Bw (cx X h H w) (.agg v.cells) (.agg c.cells)/\θ v.cells=y:=by
  intro j v c S L;have Z:=ap v (BN S);refine⟨?_,Z.2⟩;subst a9;simp only[A,CR]at S L;cases r:f.toList[j]? with
  |none=>rw[r]at S;cases S
  |some p=>rw[r]at S L;simp only[Bs,Ao]at S L;subst S L;exact XD (Dp s.env p.2) Z.1
 have J:∀c∈A,c.cells.size=y:=by
  intro c L;obtain⟨j,g⟩:=C2 L;have Y:j<θ T:=by grind[Nat.lt_or_ge,u?]
  obtain⟨k,n⟩:=R j _ c (As Y) g;cases k<;>grind
 have ax:(f.map λq=>(q.1,a.eval q.2)).toList=(A.zipIdx 0).map λx=>(x.2,x.1):=by
  apply JR;intro j;simp only[Array.toList_map,CR,List.getElem?_zipIdx,DZ,A];cases r:f.toList[j]? with
  |none=>rfl
  |some p=>
   have k:(f.toList.map (·.1))[j]?=δ p.1:=by rw[CR,r];rfl
   rw[F]at k;have Y:j<len:=by rcases Ay j len with n|n;exact n;rw[Cq (by simpa using n)]at k;cases k
   rw[RT Y]at k;simp only[Ao]at k;simp[k]
 have C:∀l:Ψ Value,(∀c∈l,c.cells.size=y)->(l.flatMap λc=>c.cells.toList).length=θ l*y:=by
  intro l;induction l with
  |nil=>simp
  |cons c l ih=>intro hl;simp only[JS,Ac,D2,hl c q!,ih (λd M=>hl d (Ch _ M)),BY,EB];omega
 have W:(A.flatMap λc=>c.cells.toList).length=len*y:=by rw[C A J,V]
 have I:∃D:Array Value,(execOp a.eval o).run P w=.ok (.value (.slice (δ ⟨w.heap.size,0,ε⟩) len len)) {w with heap:=w.heap.push (.cells D e)}/\D.toList=A.flatMap λc=>c.cells.toList:=by
  unfold execOp;rw[ho];by_cases h0:len=0;subst h0;have:A=[]:=Eh V;refine⟨#[],?_,by rw[this];rfl⟩;have r:f= #[]:=by have k:=E! θ F;simp at k;exact k
  simp[Instr.buildSlice,run_underlying ar,La hi,r,Instr.fill,newRow,show Array.range 0= #[]from rfl];refine⟨(A.flatMap λc=>c.cells.toList).toArray,?_,rfl⟩;have al:¬len*i.size=0:=by rw[B];exact Nat.mul_ne_zero h0 o!
  have a5:¬len*i.size>2^24:=by rw[B];have:=nE O.1 O.2;omega
  have hf:=Go.Great.fill_whole (s:=y) a6 A ((Array.range (len*i.size)).map (z.cells[· %z.cells.size]!)) J (by simp[V,B]);have:=run_buildSlice (P:=P) w t e len (f.map λq=>(q.1,a.eval q.2)) _ i z ar G hz a5 al (by rw[ax,B]at*;exact hf);simp only[Sem.run_bind];rw[show(f.map λx=>match x with|(i,x)=>(i,a.eval x))=(f.map λq=>(q.1,a.eval q.2))from rfl,this];rfl
 obtain⟨D,I,ad⟩:=I;unfold Oper.wp;rw[I,Oper.upon_value]
 have U:∀(l:Ψ Ad)(m:Ψ Value),θ m=θ l→(∀(j:Nat)(v:Ad)(c:Value),l[j]?=δ v→m[j]?=δ c→Bw (cx X h H w) (.agg v.cells) (.agg c.cells))→
   Bw (cx X h H w) (.agg (l.flatMap Ad.cells)) (.agg (m.flatMap λc=>c.cells.toList).toArray):=by
  intro l;induction l with
  |nil=>intro m Z _;have:m=[]:=Eh (by simpa using Z);subst this;exact .agg rfl (λj c g=>by simp at g) λj v c g=>by simp at g
  |cons v l ih=>
   intro m Z hr;cases m with
   |nil=>simp at Z
   |cons c m=>
    have r0:=hr 0 v c rfl rfl;have r1:=ih m (by simpa using Z) λj v' c' k n=>hr (j+1) v' c' (by simpa using k) (by simpa using n);cases r0 with
    |agg ao a1 a7=>
     cases r1 with
     |agg a3 a2 a8=>
      have e2:(m.flatMap λc=>c.cells.toList).length=(l.flatMap Ad.cells).length:=by simpa using a3
      refine .agg (by simp[e2,ao]) (λj d g=>?_) λj u d g M=>?_;simp only[JS,fG]at g;rcases Ay j c.cells.size with n|n;rw[CW (by simpa using n)]at g;exact a1 j d (by simpa using g);rw[Cl (by simpa using n)]at g;exact a2 _ d (by simpa using g);simp only[JS,fG]at g M;rcases Ay j c.cells.size with n|n;rw[CW (by simpa using n)]at M;rw[CW o!]at g;exact a7 j u d g (by simpa using M);rw[Cl (by simpa using n)]at M;rw[Cl o!]at g;rw[D2,ao]at M;exact a8 _ u d g (by simpa using M)
 have a0:=U T A o! λj v c k n=>(R j v c k n).1;have E:D=(A.flatMap λc=>c.cells.toList).toArray:=by rw[<-ad]
 have hh:=QP a0;rw[<-E]at hh;refine⟨_,_,_,_,rfl,hk,.sl (by simp[cx]) (by simp[cx,Gh.at_]) ⟨_,_,by rw[hl]⟩ λ_=>.inr ⟨w.heap.size,len,by simp[cx,Gh.at_],o!,?_,by rw[hl]⟩,s.sim.push D e (0,0) _ hh,HN.push _ _ _⟩;simp only[cx,Gh.at_,if_true,E,fK,W];omega
theorem mN{y:Operand}{U:IntKind}{sz:Nat}(ho:o.op=.makeSlice b g y)(he:eI P b=δ (ε,V,sz))(ar:0<sz)(M:SJ P V=ζ)(hz:ZU P V=δ d)(R:θ d=sz)
  (hx:BP env g=.int C i) (hy:BP env y=.int U a) (h0:0<=i) (h1:i<=a) (h2:a<=16777216) (hk:K (.sl (θ H) 0 sz 0 i.toNat) (H++[.live 0 (ς i.toNat d).flatten])):Jq P N o env H K:=by
 apply C3 (by rw[ho];rfl);intro X h c w s Q;obtain⟨O,z,hi⟩:=Qw he;obtain⟨t,zv,e,ad,T,S⟩:=Ua M;have k:=mD hi e;obtain⟨n,l,ao,ax,D⟩:=fE (cx X h H w) hz;have:n=t:=by grind[Option.some.inj]
 subst this;have:l=zv:=by grind[Option.some.inj]
 subst this;have W:=Dp s.env g;have Y:=Dp s.env y;rw[hx]at W;rw[hy]at Y;have ex:c.eval g=.int C i:=by generalize c.eval g=q at W;cases W;rfl
 have ey:c.eval y=.int U a:=by generalize c.eval y=q at Y;cases Y;rfl
 have F:(n.bytes:Int)*a<=281474976710656:=by have:(n.bytes:Int)*a<=1048576*16777216:=Int.mul_le_mul o! h2 o! o!;omega
 have Z:=run_make (P:=P) w b V n l O e T C U i a h0 h1 F o!;have G:(execOp c.eval o).run P w=.ok (.value (.slice (δ ⟨w.heap.size,0,ε⟩) i.toNat a.toNat)) (w.alloc (.cells (madeCells l.cells (a.toNat*n.size)) V)):=by unfold execOp;grind[Sem.run_bind,Result.andThen_ok,Sem.run_pure]
 unfold Oper.wp;rw[G,Oper.upon_value];have p:l.cells.size=sz:=by rw[S,k]
 have hh:Holds (cx X h H w) (ς i.toNat d).flatten (madeCells l.cells (a.toNat*n.size)) (0,0):=by
  have I:(ς i.toNat d).flatten.length=i.toNat*sz:=by simp[R]
  have A:i.toNat*sz<=a.toNat*n.size:=by rw[k];exact NB _ o!
  have B:∀(m j:Nat),j<m*sz->(ς m d).flatten[j]?=d[j%sz]? :=by
   intro m;induction m with
   |zero=>intro j E;omega
   |succ m ih=>intro j E;rw[nA,pw];rcases Ay j sz with ap|al;grind[List.getElem?_append_left,Nat.mod_eq_of_lt];grind[List.getElem?_append_right,Nat.add_mul,Nat.mod_eq_sub_mod]
  refine⟨λj=>l.cells.getD (j%sz) undef,by rw[I,size_madeCells];exact A,λ_ _=>q!,λj v E=>?_⟩;have x:j<i.toNat*sz:=by grind[Nat.lt_or_ge,u?]
  rw[B _ _ x]at E;have u:j%sz<l.cells.size:=by grind[Nat.mod_lt]
  have f:l.cells[j%sz]?=δ (l.cells[j%sz]'u):=N5 u;have J:l.cells.getD (j%sz) undef=l.cells[j%sz]'u:=by rw[Qt,f];rfl
  have r:(madeCells l.cells (a.toNat*n.size))[j]?=δ (l.cells[j%sz]'u):=by
   unfold madeCells;rw[cP,Array.getElem?_range,C! (DE x A)];have L:j%l.cells.size<l.cells.size:=by rw[p];rw[p]at u;exact u
   rw[Bs,getElem!_pos l.cells _ L];simp only[p]
  simp only[J];cases D with
  |agg q1 q2 q3=>exact⟨r,q2 _ _ f,q3 _ _ _ E f⟩
 refine⟨_,_,_,_,rfl,hk,.sl (by simp[cx]) (by simp[cx,Gh.at_]) ⟨_,_,rfl⟩ λ_=>.inr ⟨w.heap.size,a.toNat,by simp[cx,Gh.at_],o!,?_,rfl⟩,s.sim.push _ V (0,0) _ hh,HN.push _ _ _⟩;simp[cx,Gh.at_,size_madeCells,k]
end
section
variable {X:Nat->Prop}{h:Gh}{H:Au}{w:World}
def JP.loopSet(s:JP X h H w){L:mU}{r:Loop}(g:H[N]?=δ (.lp L))(f:h.io N=δ n)(C:w.heap[n]?=δ (.loop r))(st:LoopState)(p:Ω Code):
  JP X h (H.set N (.lp {L with state:=st,pending:=p})) (w.putObj n (.loop {r with state:=st,pending:=p}))/\HN h H w h (H.set N (.lp {L with state:=st,pending:=p})) (w.putObj n (.loop {r with state:=st,pending:=p})):=by
 have d:N<U H:=by rcases Ay N (U H) with c|c;exact c;rw[Cq c]at g;cases g
 have D:HN h H w h (H.set N (.lp {L with state:=st,pending:=p})) (w.putObj n (.loop {r with state:=st,pending:=p})):=by refine⟨rfl,rfl,rfl,q!,λk M hn=>?_,q!,λ_ _=>Al _,λ_ _ _=>⟨rfl,rfl⟩,λk B=>?_,λk y O=>?_⟩;refine World.putObj_heap_other λe=>?_;subst e;exact hn ⟨N,_,g,q!,f⟩;obtain⟨i,e,l,j,c⟩:=B;rcases Jp d l with⟨G,b⟩|⟨rfl,_⟩;exact .inl ⟨i,e,b,j,c⟩;exact .inl ⟨i,_,g,q!,c⟩;by_cases e:k=n;subst e;exact⟨_,World.putObj_heap_same (sh C)⟩;exact⟨y,by rw[World.putObj_heap_other e,O]⟩
 refine⟨s.of_ext D (λi e l j=>?_) (λi P z A k l c u x T o=>?_),D⟩;rcases Jp d l with⟨G,b⟩|⟨rfl,rfl⟩;refine .inl ⟨b,rfl,rfl,rfl,λE a=>World.putObj_heap_other λe=>?_⟩;subst e;exact G (s.inj i N _ _ E b g j q! a f);obtain⟨K,E,S,a,q,l,c,T,o,I,J,F⟩:=s.lp i L g;rw[show(cx X h H w).io i=h.io i from rfl,f]at a;injection a with e;subst e;rw[show(cx X h H w).w.heap=w.heap from rfl,C]at q;injection q with e;injection e with e;subst e;refine .inr (.inr ⟨_,rfl,K,n,_,f,World.putObj_heap_same (sh C),rfl,rfl,T,o,I,J,λt v m=>⟨(F t v m).1,(F t v m).2.later (D.later X)⟩⟩);rcases Jp d l with⟨Q,z⟩|⟨rfl,_⟩<;>rcases Jp d c with⟨R,A⟩|⟨rfl,_⟩;exact s.inj _ _ _ _ k z A u x T o;exact s.inj _ _ _ _ k z g u q! T o;exact s.inj _ _ _ _ k g A q! x T o;rfl
def JP.kill(s:JP X h H w)(a:N<U H):JP X h (H.set N .dead) w/\HN h H w h (H.set N .dead) w:=by
 have n:HN h H w h (H.set N .dead) w:=by refine⟨rfl,rfl,rfl,Al _,λk r hn=>rfl,q!,λ_ _=>Al _,λ_ _ _=>⟨rfl,rfl⟩,λk t=>?_,λk y u=>⟨y,u⟩⟩;obtain⟨i,e,d,b,j⟩:=t;rcases Jp a d with⟨q,c⟩|⟨rfl,rfl⟩;exact .inl ⟨i,e,c,b,j⟩;exact(b rfl).elim
 refine⟨s.of_ext n (λi e d b=>?_) (λi x l m k d j f g o p=>?_),n⟩;rcases Jp a d with⟨q,c⟩|⟨rfl,rfl⟩;exact .inl ⟨c,rfl,rfl,rfl,λv _=>rfl⟩;exact(b rfl).elim;rcases Jp a d with⟨z,l⟩|⟨rfl,rfl⟩;rcases Jp a j with⟨A,m⟩|⟨rfl,rfl⟩;exact s.inj _ _ _ _ k l m f g o p;exact(g rfl).elim;exact(f rfl).elim
end
def Ri:Env->Ψ Tmp->Ψ Ad->Env
 |env,t::ts,v::vs=>Ri (env.put t v) ts vs
 |env,_,_=>env
theorem mi{x}:∀(d:Ψ Tmp)(e:Ψ Ad)(b:Ψ Value)(env:Env)(a:Act),(∀t∈d,t<a.tmps.size)→U b=U e→
  (∀(j:Nat)(v:Ad)(c:Value),e[j]?=δ v->b[j]?=δ c->Bw x v c)->Oo x env a->
  Oo x (Ri env d e) {a with tmps:=(d.zip b).foldl (λ(tmps:Array Value)(q:Tmp×Value)=>tmps.setIfInBounds q.1 q.2) a.tmps}
 |[],e,b,env,a,_,_,_,h=>by simpa[Ri]using h
 |t::d,[],b,env,a,_,hl,_,h=>by have:b=[]:=Eh k!;subst this;simpa[Ri]using h
 |t::d,v::e,c::b,env,a,ht,hl,hr,h=>by
  have f:=h.put (ht t q!) (hr 0 v c rfl rfl);exact mi d e b (env.put t v) (a.put (δ t) c) (λu i=>by rw[eZ];exact ht u (Ch _ i)) k!
   (λj k g f l=>hr (j+1) k g k! k!) f
def kQ:∀(l:Ψ (Tmp×Value))(a:Array Value),(l.foldl (λ(tmps:Array Value)(q:Tmp×Value)=>tmps.setIfInBounds q.1 q.2) a).size=a.size
 |[],a=>rfl
 |q::l,a=>by rw[YO,kQ l];simp
def AFa(id:Nat)(K:Ad->Au->Prop):Exit->Env->Au->Prop
 |.normal,_,H=>∃L,H[id]?=δ (.lp L)/\K (.bool ζ) (H.set id (.lp {L with state:=.ready,pending:=ε}))
 |.ret,_,H=>∃L,H[id]?=δ (.lp L)/\K (.bool η) (H.set id (.lp {L with state:=.done,pending:=δ .ret}))
 |.exit k,_,H=>∃L,H[id]?=δ (.lp L)/\K (.bool η) (H.set id (.lp {L with state:=.done,pending:=δ (.exit k)}))
 |_,_,_=>False
section
variable {P:Program}{N:Nat}{o:Oper}{env:Env}{H:Au}{K:Ad->Au->Prop}
theorem Jq.yield{L:mU}(ho:o.op=.call Y)(O:Y.callee=.value g)(hf:BP env g=.yf n)(he:H[n]?=δ (.lp L))
  (hn:Y.args.size=L.params.size) (a5:(L.params.toList.all λt=>decide (t<L.n))=ζ)
  (hw:J1 P L.n L.assign (Ri L.env L.params.toList (Y.args.toList.map (BP env))) H λe env1 H1=>e=.normal/\∃A,H1[n]?=δ (.lp A)/\A.state=.ready/\J1 P L.n L.body env1 (H1.set n (.lp {A with state:=.busy})) (AFa n K)):Jq P N o env H K:=by
 intro ro X h a w s Q;obtain⟨hg,B,r,F,hb,h1,h2,h3,h4,h5,h6,h7⟩:=s.sim.lp n L he;have F:h.io n=δ B:=F;have hb:w.heap[B]?=δ (.loop r):=hb;have G:=Dp s.env g;rw[hf]at G;have al:a.eval g=.func (.yield B) #[] #[]:=by generalize a.eval g=cf at G;cases G<;>grind
 have c:(execOp a.eval o).run P w=.ok (.round B r.fn ((r.params.zip (Y.args.map a.eval)).foldl (λtmps (t,a)=>tmps.setIfInBounds t a) r.tmps) r.assign r.body) w:=by unfold execOp;rw[ho];simp only[resolve,O,al,Deferred.ofValue,Sem.run_bind,Sem.run_pure,Result.andThen_ok,invoke];rw[show(#[]++Y.args.map a.eval:Array Value)=Y.args.map a.eval by simp];exact run_yield hb (by rw[Array.size_map,hn,h3])
 refine⟨λ_ _=>O!,?_⟩;rw[Oper.semAt_eq _ _ _ (λY hc=>by rw[ho]at hc;cases hc),c,Oper.uponIn_round];refine⟨(λh=>by cases h),?_⟩;let R:Ending->World->Prop:=λe I=>∃Y v y M,e=.returned Y/\K v M/\Bw (cx X y M I) v Y/\JP X y M I/\HN h H w y M I;refine RoundIn.mono (R:=R) ?_ (by rintro e I ⟨c',v,y,M,rfl,k,hv,hs,hx⟩;exact⟨c',v,y,M,rfl,k,hv,hs,hx⟩);apply roundIn_of_wpIn trivial;have a3:((r.params.zip (Y.args.map a.eval)).foldl (λtmps (t,a)=>tmps.setIfInBounds t a) r.tmps)=((L.params.toList.zip (Y.args.toList.map a.eval)).foldl (λ(tmps:Array Value)(q:Tmp×Value)=>tmps.setIfInBounds q.1 q.2) r.tmps):=by grind[Array.toList_zip,Array.toList_map]
 rw[a3,h4,h5];have Z:St X h L.n (Ri L.env L.params.toList (Y.args.toList.map (BP env))) H {tmps:=(L.params.toList.zip (Y.args.toList.map a.eval)).foldl (λ(tmps:Array Value)(q:Tmp×Value)=>tmps.setIfInBounds q.1 q.2) r.tmps,defers:=[]} w:=by
  refine⟨s.sim,?_,by rw[kQ,h6]⟩;refine mi (x:=cx X h H w) L.params.toList (Y.args.toList.map (BP env)) (Y.args.toList.map a.eval) L.env {tmps:=r.tmps,defers:=[]} (λt ht=>?_) q! (λj v d hj hd=>?_) (λt v m=>⟨by rw[h6];exact(h7 t v m).1,(h7 t v m).2⟩);grind;rw[CR]at hj hd;cases hx:Y.args.toList[j]? with
  |none=>grind
  |some x=>rw[hx]at hj hd;simp only[Bs,Ao]at hj hd;subst hj hd;exact Dp s.env x
 refine wpIn_mono (hw (δ B) X h _ w Z λl e=>by injection e with e;subst e;exact⟨r,hb⟩) ?_;rintro e a1 w1 ⟨y,env1,H1,⟨rfl,A,S,a0,E⟩,s1,x1,_⟩;obtain⟨U,J,r1,f,p,q1,q2,q3,q4,q5,q6,q7⟩:=s1.sim.lp n A S;have f:y.io n=δ J:=f;have p:w1.heap[J]?=δ (.loop r1):=p;have V:n<θ H:=by rcases Ay n (θ H) with h2|h2;exact h2;grind[u?]
 have eB:J=B:=by have:=(x1.same n V (by rw[show y.gen n=0 from U,show h.gen n=0 from hg])).1;rw[f,F]at this;injection this
 subst eB;obtain⟨ar,ad⟩:=s1.sim.loopSet S f p .busy A.pending;have ap:({r1 with state:=.busy}:Loop)={r1 with state:=.busy,pending:=A.pending}:=by rw[<-q2]
 refine⟨_,run_beginRound p (by rw[q1,a0]),?_⟩;rw[ap];refine wpIn_mono (E (δ J) X y a1 _ ⟨ar,s1.env.later (ad.later X),s1.size⟩ λl e=>by injection e with e;subst e;exact⟨_,World.putObj_heap_same (sh p)⟩) ?_;rintro e a2 w2 ⟨D,env2,H2,q,s2,x2,_⟩
 have C:∀(b:Ω Code)(u:mU),H2[n]?=δ (.lp u)→K (.bool b.isNone) (H2.set n (.lp {u with state:=if b.isNone then .ready else .done,pending:=b}))→
   ∃v I,(Instr.endRound J b).run P w2=.ok v I/\R (.returned v) I:=by
  intro b u T hk;obtain⟨ao,B2,r2,i,z,p1,p2,p3,p4,p5,p6,p7⟩:=s2.sim.lp n u T;have i:D.io n=δ B2:=i;have z:w2.heap[B2]?=δ (.loop r2):=z;have W:n<θ H1:=DE V x1.n;have eB:B2=J:=by have:=(x2.same n (by simpa using W) (by rw[show D.gen n=0 from ao,show y.gen n=0 from U])).1;rw[i,f]at this;injection this
  subst eB;obtain⟨ax,a4⟩:=s2.sim.loopSet T i z (if b.isNone then .ready else .done) b;exact⟨_,_,run_endRound b z,_,_,D,_,rfl,hk,.bool _,ax,((x1.trans ad).trans x2).trans a4⟩
 cases e with
 |normal=>obtain⟨u,q1,q2⟩:=q;exact C ε u q1 q2
 |ret=>obtain⟨u,q1,q2⟩:=q;exact C (δ .ret) u q1 q2
 |exit k=>obtain⟨u,q1,q2⟩:=q;exact C (δ (.exit k)) u q1 q2
 |_=>exact q.elim
end
section
variable {P:Program}{N:Nat}{env:Env}{H:Au}{Q:Exit->Env->Au->Prop}
def AFU(P:Program)(N:Nat)(env:Env)(id:Nat)(Q:Exit->Env->Au->Prop)(H:Au):Prop:=
 ∃L,H[id]?=δ (.lp L)/\L.state≠.busy/\(match L.pending with
  |none=>Q .normal env (H.set id .dead)
  |some c=>J1 P N c env (H.set id .dead) Q)
def AAn{args}{R:Ending->World->Prop}(h:Calls P p args j R):CallsIn (FR m) n P p args j R:=by
 have a:CallsIn Fence.wide n P p args j R:=callsIn_wide.2 h;cases m with
 |none=>exact a
 |some l=>exact a
theorem mM{f:Operand}{z:Array Tmp}{assign body:Code}{first o:Ψ Ad}{G:FuncId}(env0:Env)(ao:∀p∈env0,p∈env)(hf:BP env f=.fn (.func G) first o)(hE:Enters P G=ζ)
  (U:Ei P G (first++[.yf (θ H)]++o) (H++[.lp ⟨N,env0,z,assign,body,.ready,ε⟩]) λ_ E=>AFU P N env (θ H) Q E):J1 P N (.rangeFunc f z assign body) env H Q:=by
 intro r X h a w s k;have Y:=Dp s.env f;rw[hf]at Y
 obtain⟨b,g,ap,n1,n2,a0,a1⟩:∃b g,a.eval f=.func (.func G) b g∧b.size=θ first∧g.size=θ o∧
   (∀(j:Nat)(v:Ad)(c:Value),first[j]?=δ v->b[j]?=δ c->Bw (cx X h H w) v c)/\(∀(j:Nat)(v:Ad)(c:Value),o[j]?=δ v->g[j]?=δ c->Bw (cx X h H w) v c):=by
  generalize a.eval f=cf at Y;cases Y<;>grind
 have main:∀(i:World)(u:Loop)(mark:Ψ Deferred),JP X h H i→HN h H w h H i→u.state=.ready→u.pending=ε→u.tmps=a.tmps→u.params=z→u.assign=assign→u.body=body→mark.Nodup→
   (∀d∈mark,∃D,d={target:=.collected D,args:= #[]}/\w.heap.size<=D/\i.heap[D]?=δ (.deferred (δ [])))->
   CallsIn (FR r) (0-1) P G (b++ #[.func (.yield i.heap.size) #[] #[]]++g) (i.alloc (.loop u))
    (rangePost (FR r) 0 P i.heap.size (λe a' Z=>∃I F E,Q e F E/\St X I N F E a' Z/\HN h H w I E Z/\V8 a w a' Z) {a with defers:=mark++a.defers}):=by
  intro i u mark s0 C e1 e2 e3 e4 e5 e6 ar V;have xp:=HN.push (h:=h) (H:=H) (w:=i) (.loop u) 0 (.lp ⟨N,env0,z,assign,body,.ready,ε⟩);have sp:=s0.push_any (.loop u) 0 (.lp ⟨N,env0,z,assign,body,.ready,ε⟩) λ_=>.inr ⟨_,rfl,by simp[cx,Gh.at_],i.heap.size,u,by simp[cx,Gh.at_],by show(i.heap.push (.loop u))[i.heap.size]?=_;simp,e1,e2,e4,e5,e6,by rw[e3];exact s.size,λt v m=>by obtain⟨m1,m2⟩:=s.env t v (ao _ m);refine⟨by rw[<-s.size];exact m1,?_⟩;rw[e3];exact m2.later ((C.trans xp).later X)⟩;have ea:i.alloc (.loop u)={i with heap:=i.heap.push (.loop u)}:=rfl;rw[ea];generalize a5:({i with heap:=i.heap.push (.loop u)}:World)=W1 at xp sp;generalize a6:h.at_ (θ H) (δ i.heap.size) 0 0=g1 at xp sp;have R:g1.gen (θ H)=0/\g1.io (θ H)=δ i.heap.size:=by grind[Gh.at_]
  have hl:=(C.trans xp).later X;have ax:(b++ #[Value.func (.yield i.heap.size) #[] #[]]++g).size=(first++[Ad.yf (θ H)]++o).length:=by simp[n1,n2];omega
  have S:∀(j:Nat)(v:Ad)(c:Value),(first++[Ad.yf (θ H)]++o)[j]?=δ v->(b++ #[Value.func (.yield i.heap.size) #[] #[]]++g)[j]?=δ c->Bw (cx X g1 (H++[.lp ⟨N,env0,z,assign,body,.ready,ε⟩]) W1) v c:=by
   intro j v c J y;rcases Ay j (θ first+1)with a4|a2;rw[CW w!]at J;rw[Ye w!]at y;rcases Ay j (θ first) with al|a3
   rw[CW al]at J;rw[Ye o!]at y;exact(a0 j v c J y).later hl;have:j=θ first:=o!
   subst this;rw[Cl (Al _),G5]at J;rw[tV o!,n1,G5]at y;simp at J y;subst J y;exact .yf (by simp[cx]) rfl λ_=>⟨i.heap.size,R.2,rfl⟩
   rw[Cl w!]at J;rw[tV w!]at y;refine(a1 _ v c ?_ y).later hl;simpa[n1]using J
  have hC:=U X g1 W1 _ sp ax S;apply (AAn hC).mono;rintro e Z ⟨c,v,I,E,rfl,⟨L,hL,T,hQ⟩,sc,rv,x⟩;obtain⟨hg,B,M,A,hb,q1,q2,q3,q4,q5,q6,q7⟩:=sc.lp (θ H) L hL;have A:I.io (θ H)=δ B:=A;have hb:Z.heap[B]?=δ (.loop M):=hb;have eB:B=i.heap.size:=by have:=(x.same (θ H) q! (by rw[show I.gen (θ H)=0 from hg,R.1])).1;rw[A,R.2]at this;injection this
  subst eB;obtain⟨s2,x2⟩:=sc.loopSet hL A hb .exhausted M.pending;have ad:θ H<(E.set (θ H) (.lp {L with state:=.exhausted,pending:=M.pending})).length:=by have:=x.n;simp at this⊢;omega
  obtain⟨s3,x3⟩:=s2.kill ad;rw[YZ]at s3 x3;have O:=((xp.trans x).trans x2).trans x3;have st:St X I N env (E.set (θ H) .dead) {a with defers:=mark++a.defers} (Z.putObj i.heap.size (.loop {M with state:=.exhausted,pending:=M.pending})):=⟨s3,λt v m=>⟨(s.env t v m).1,(s.env t v m).2.later ((C.trans O).later X)⟩,s.size⟩
  have df:V8 a w {a with defers:=mark++a.defers} (Z.putObj i.heap.size (.loop {M with state:=.exhausted,pending:=M.pending})):=by refine⟨mark,rfl,ar,λd hd=>?_⟩;obtain⟨D,h1,h2,h3⟩:=V d hd;exact⟨D,h1,h2,O.defs s0 h3⟩
  refine⟨M.pending,_,run_endLoop hb (by rw[q1];exact T),?_⟩;rw[q2]at*;cases hp:L.pending with
  |none=>rw[hp]at hQ st df O;exact⟨I,env,_,hQ,st,C.trans O,df⟩
  |some cd=>rw[hp]at hQ st df O s3;apply wpIn_mono (hQ r X I _ _ st (k.later (C.trans O)));rintro e' a' a7 ⟨h2,env2,H2,q,s',x',d'⟩;exact⟨h2,env2,H2,q,s',(C.trans O).trans x',df.trans s3 (C.trans O) x' d'⟩
 have K:∀(l:Nat)(W:World),(resolve a.eval (rangeCall f l) 0).run P W=.ok {target:=.fn (.func G) g,args:=b++ #[.func (.yield l) #[] #[]]} W:=by intro l W;have y:a.eval (.const (.func (.yield l) #[] #[]))=.func (.yield l) #[] #[]:=rfl;simp[resolve,ap,y,Deferred.ofValue]
 refine wpIn_rangeFunc λfn _=>?_;cases r with
 |none=>
  have C:HN h H w h H (w.alloc (.deferred (δ []))):=HN.grow rfl rfl rfl (by show _<=(w.heap.push _).size;simp) λk hk=>by show(w.heap.push _)[k]?=_;grind
  have s0:JP X h H (w.alloc (.deferred (δ []))):=s.sim.grow rfl rfl rfl (by show _<=(w.heap.push _).size;simp) λk hk=>by show(w.heap.push _)[k]?=_;rw[To,D! o!]
  have hm:=main (w.alloc (.deferred (δ []))) {state:=.ready,pending:=ε,fn,tmps:=a.tmps,params:=z,assign,body,defers:=w.heap.size} [{target:=.collected w.heap.size,args:= #[]}] s0 C rfl rfl rfl rfl rfl rfl q! λd hd=>by simp only[A9]at hd;exact⟨w.heap.size,hd,Al _,World.alloc_heap_new w _⟩
  rw[World.size_alloc]at hm;exact⟨_,_,_,_,_,_,_,_,run_enterLoop_outer fn a.tmps z assign body,K _ _,λ_ _=>O!,by simp only[invoke];exact iS hE _ _,(λh=>by cases h),hm⟩
 |some l=>
  obtain⟨x,hx⟩:=k l rfl;have hm:=main w {state:=.ready,pending:=ε,fn,tmps:=a.tmps,params:=z,assign,body,defers:=x.defers} [] s.sim (HN.refl _ _ _) rfl rfl rfl rfl rfl rfl q! λd hd=>by cases hd
  exact⟨_,_,_,_,_,_,_,_,run_enterLoop_inner hx fn a.tmps z assign body,K _ _,λ_ _=>O!,by simp only[invoke];exact iS hE _ _,(λh=>by cases h),hm⟩
end
def isQ:Op->Bool
 |.move _|.assign _|.pick .. |.load .. |.nilCheck _|.binOp .. |.unOp .. |.convert .. |.fieldAddr .. |.field .. |.indexAddr .. |.index .. |.slice .. |.extract .. |.makeFunc .. |.build .. =>ζ
 |.call c=>match c.callee with|.builtin .len=>ζ|.builtin .max=>ζ|.builtin .min=>ζ|_=>η
 |_=>η
abbrev AJr:=FuncId->Ψ Ad->Au->Ω (Ad×Au)
abbrev AJs:=Nat->Code->Env->Au->Ω (Exit×Env×Au)
def xl(P:Program)(env:Env)(H:Au)(op:Op):Ω Ad:=
 match op with
 |.buildSlice t len parts=>match TB P env t len parts with|some (sz,vs)=>δ (.vs sz vs)|none=>ε
 |op=>Cg P env H op
def dq(op:Op):Bool:=match op with|.buildSlice .. =>ζ|op=>isQ op
def yQ(ops:Array Oper)(m:Ψ Nat):Nat->Ψ Nat->Ψ Nat
 |0,_=>[]
 |n+1,left=>
  let rdy:=left.filter λi=>left.all λp=>p==i|| !Pf m p i
  let qs:=rdy.filter λi=>match ops[i]? with|some o=>dq o.op|none=>η
  let last:=λi=>left.all λj=>j==i||Pf m i j||Ig ops j
  let es:=rdy.filter λi=>!Ig ops i&&last i
  let as:=rdy.filter λi=>Ig ops i&&last i
  match qs,es,as with
  |i::_,_,_=>i::yQ ops m n (left.erase i)
  |[],i::_,_=>i::yQ ops m n (left.erase i)
  |[],[],i::_=>i::yQ ops m n (left.erase i)
  |[],[],[]=>[]
def ABJ(ops:Array Oper):Ψ Nat:=yQ ops (Ip ops.toList []) ops.size (List.range ops.size)
section
variable {P:Program}{call:AJr}{code:AJs}{H H':Au}{v:Ad}{F:Ψ Nat}
theorem kO{N}(b:xl P f H o.op=δ v):Z3 P N o f H (ABN f o.op) v:=by
 unfold xl at b;split at b;rename_i t len a i;split at b;rename_i sz l d;injection b with e;subst e;intro c g h k;refine Vm i (sz:=sz) (vs:=l) ?_ ⟨rfl,rfl⟩;rw[<-d];have j:=gX h;unfold TB;have:(a.toList.map λp=>BP c p.2)=a.toList.map λp=>BP f p.2:=M9 λp d=>by grind[Op.operands]
 rw[this];cases b;exact Xm b
end
def km(F:Fence)(n0:Nat)(P:Program)(c:Code)(K:Exit->Act->World->Prop)(a:Act)(w:World):Prop:=
 ∀(b:Frame)(k:Ψ Item)(cs:Ψ Frame),b.roundOf=F.round->F.fn b.fn->F.room (U cs+1+n0)->
  ∃e a' w',K e a' w'/\ArrivesIn (Machine.fenced P F) P (lone (b.atR a (.code c:: .inLoop c::k)) cs w) b k cs e a' w'
section
variable {P:Program}{F:Fence}{n0:Nat}{c:Code}{K:Exit->Act->World->Prop}{a:Act}{w:World}
def zi(h:km F n0 P c K a w):(Code.loop c).wpIn F n0 P K a w:=by intro b k j f g hr;obtain⟨e,i,m,l,d⟩:=h b k j f g hr;exact⟨e,i,m,l,.of_steps (.one (fenced_calm g hr rfl) stepR_loop) d⟩
def br(h:c.wpIn F n0 P (Exit.then (λt u=>km F n0 P c K t u) K) a w):km F n0 P c K a w:=by
 intro b k s p r hr;obtain⟨e,f,g,m,d⟩:=h b (.inLoop c::k) s p r hr;cases e with
 |normal=>obtain⟨o,n,q,j,i⟩:=m b k s p r hr;exact⟨o,n,q,j,.of_steps (StepsIn.trans d (.one (fenced_calm r hr rfl) stepR_inLoop)) i⟩
 |exit id=>exact⟨_,f,g,m,.pass (x:=.inLoop c) rfl (λ_ _=>.inl q!) d⟩
 |goto l=>exact⟨_,f,g,m,.pass (x:=.inLoop c) rfl (λ_ _=>.inl q!) d⟩
 |ret=>exact⟨_,f,g,m,.pass (x:=.inLoop c) rfl (λ_ _=>.inl q!) d⟩
 |panic v=>exact⟨_,f,g,m,.pass (x:=.inLoop c) rfl (λ_ _=>.inl q!) d⟩
 |outgrown=>exact⟨_,f,g,m,.pass (x:=.inLoop c) rfl (λ_ _=>.inl q!) d⟩
theorem W8(h:km F n0 P c K a w)(m:∀e a w,K e a w->z e a w):km F n0 P c z a w:=by intro b k i d j hr;obtain⟨e,l,o,n,g⟩:=h b k i d j hr;grind
end
def IH(P:Program)(N:Nat)(c:Code)(env:Env)(H:Au)(Q:Exit->Env->Au->Prop):Prop:=
 ∀(r:Ω Nat)(X:Nat->Prop)(h:Gh)(a:Act)(w:World),St X h N env H a w->Z4 r w->
  km (FR r) 0 P c (λe a' w'=>∃h' env' H',Q e env' H'/\St X h' N env' H' a' w'/\HN h H w h' H' w'/\V8 a w a' w') a w
section
variable {P:Program}{N:Nat}{env:Env}{H:Au}{Q:Exit->Env->Au->Prop}
theorem IH.mono(h:IH P N c env H Q)(i:∀e b d,Q e b d->B e b d):IH P N c env H B:=by intro r X g a w s k;apply W8 (h r X g a w s k);grind
def J1.of_loopW(h:IH P N c env H Q):J1 P N (.loop c) env H Q:=λr X g a w s k=>zi (h r X g a w s k)
def IH.unroll(h:J1 P N c env H (fC (λb f=>∃env2 d,Fb N (U H) b f env2 d/\IH P N c env2 d Q) Q)):IH P N c env H Q:=by
 intro r X g a w s k;refine br (wpIn_mono (h r X g a w s k) ?_);rintro e a2 t ⟨m,env2,d,q,o,v,j⟩;cases e with
 |normal=>obtain⟨l,F,n,B⟩:=q;obtain⟨z,p,A,C⟩:=n.2 X m a2 t o;have i:=Fb.ext rfl n.1 A C v;apply W8 (B r X z a2 t p (k.later i));rintro e G I ⟨y,b,f,D,E,u,x⟩;exact⟨y,b,f,D,E,i.trans u,j.trans p.sim i u x⟩
 |_=>exact⟨m,env2,d,q,o,v,j⟩
def tC(P:Program)(N:Nat)(c:Code)(env:Env)(H:Au)(Q:Exit->Env->Au->Prop):Prop:=
 match c with
 |.loop x=>IH P N x env H Q
 |c=>J1 P N c env H Q
def tC.awp(h:tC P N c env H Q):J1 P N c env H Q:=by unfold tC at h;split at h;exact .of_loopW h;exact h
def EJ(hn:∀x,c≠.loop x)(h:J1 P N c env H Q):tC P N c env H Q:=by simp_all[tC]
def tC.mono(h:tC P N c env H Q)(f:∀e a b,Q e a b->B e a b):tC P N c env H B:=by
 cases c with
 |loop x=>exact IH.mono h f
 |_=>exact J1.mono h f
def IH.weak{d}(y:Fb N (U H) env H f d)(h:IH P N c f d Q):IH P N c env H Q:=by intro r X g a w s k;obtain⟨m,t,n,o⟩:=y.2 X g a w s;apply W8 (h r X m a w t k);rintro e v x ⟨l,b,i,q,p,u,j⟩;exact⟨l,b,i,q,p,(Fb.ext rfl y.1 n o (HN.refl g H w)).trans u,j⟩
def tC.weak{a}(b:Fb N (U H) env H f a)(h:tC P N c f a Q):tC P N c env H Q:=by
 cases c with
 |loop x=>exact IH.weak b h
 |_=>exact J1.weak b h
def J1.after(h:J1 P N c env H (λe b f=>∃env2 d,Fb N (U H) b f env2 d/\Q e env2 d)):J1 P N c env H Q:=by intro r X g a w s k;apply wpIn_mono (h r X g a w s k);rintro e j v ⟨m,b,f,⟨env2,d,i,q⟩,t,x,l⟩;obtain⟨n,u,o,p⟩:=i.2 X m j v t;exact⟨n,env2,d,q,u,Fb.ext rfl i.1 o p x,l⟩
def IH.after(h:IH P N c env H (λe b f=>∃env2 d,Fb N (U H) b f env2 d/\Q e env2 d)):IH P N c env H Q:=by intro r X g a w s k;apply W8 (h r X g a w s k);rintro e j v ⟨m,b,f,⟨env2,d,i,q⟩,t,x,l⟩;obtain⟨n,u,o,p⟩:=i.2 X m j v t;exact⟨n,env2,d,q,u,Fb.ext rfl i.1 o p x,l⟩
def tC.after(h:tC P N c env H (λe a d=>∃env2 b,Fb N (U H) a d env2 b/\Q e env2 b)):tC P N c env H Q:=by
 cases c with
 |loop x=>exact IH.after h
 |_=>exact J1.after h
end
def DT(v:Ad)(H:Au):Ad->Au->Prop:=λu H'=>u=v/\H'=H
def Uw(e:Exit)(env:Env)(H:Au):Exit->Env->Au->Prop:=λe1 env1 H1=>e1=e/\env1=env/\H1=H
def callT(ρ:Operand->Ad):Op->Ω (Sum (FuncId×Ψ Ad) (Nat×Ψ Ad))
 |.call c=>
  match c.callee with
  |.value f=>
   match ρ f with
   |.fn (.func F) first caps=>δ (.inl (F,first++c.args.toList.map ρ++caps))
   |.yf id=>δ (.inr (id,c.args.toList.map ρ))
   |_=>ε
  |_=>ε
 |_=>ε
def AHn(H:Au):Ψ (Nat×Fx)->Au
 |[]=>H
 |(i,e)::r=>AHn (H.set i e) r
section
variable {X:Nat->Prop}{h:Gh}{H:Au}{w:World}
def JP.regen(s:JP X h H w){id g g':Nat}{cs}(n:H[id]?=δ (Fx.live g cs))(I:g≤g'):
  JP X (h.at_ id (h.io id) g' (h.cap id)) (H.set id (.live g' cs)) w/\HN h H w (h.at_ id (h.io id) g' (h.cap id)) (H.set id (.live g' cs)) w:=by
 obtain⟨q,p⟩:=s.live id g cs n;have l:h.gen id=g:=q;have t:id<U H:=by rcases Ay id (U H) with z|z;exact z;rw[Cq z]at n;cases n
 rcases p with⟨F,A⟩|⟨B,j,T,G,f,D,L,o,E,C,c⟩;have d:h.io id=ε:=F;rcases Nat.eq_or_lt_of_le I with e|M;subst e;have x:h.at_ id (h.io id) g (h.cap id)=h:=by unfold Gh.at_;cases h;simp only[Gh.mk.injEq];refine⟨funext λi=>?_,funext λi=>?_,funext λi=>?_⟩;split<;>simp_all;split;rename_i r;subst r;exact l.symm;rfl;split<;>simp_all
 have y:H.set id (.live g cs)=H:=by apply JR;intro i;rw[Tr];split;rename_i r;subst r;exact n.symm;rfl
 rw[x,y];exact⟨s,HN.refl _ _ _⟩;subst A;obtain⟨m,rfl⟩:∃m,g'=m+1:=⟨g'-1,o!⟩
 have key:∀(v:Gh)(u:Au)(k:Nat),v=h.at_ id ε (g+k) (h.cap id)->u=H.set id (.live (g+k) [])->(JP X v u w/\HN h H w v u w)->(JP X (h.at_ id ε (g+(k+1)) (h.cap id)) (H.set id (.live (g+(k+1)) [])) w/\HN h H w (h.at_ id ε (g+(k+1)) (h.cap id)) (H.set id (.live (g+(k+1)) [])) w):=by
  intro v u k x y J;subst x y;obtain⟨q1,q2⟩:=J.1.bump (id:=id) (g:=g+k) (cs:=[]) (by simp[t]) (by simp[Gh.at_]);have K:(h.at_ id ε (g+k) (h.cap id)).at_ id ε (g+k+1) ((h.at_ id ε (g+k) (h.cap id)).cap id)=h.at_ id ε (g+(k+1)) (h.cap id):=by unfold Gh.at_;simp only[Gh.mk.injEq];refine⟨funext λi=>?_,funext λi=>?_,funext λi=>?_⟩<;>by_cases r:i=id<;>simp[r,WE]
  rw[K,YZ]at q1 q2;exact⟨q1,J.2.trans q2⟩
 have all:∀k,JP X (h.at_ id ε (g+(k+1)) (h.cap id)) (H.set id (.live (g+(k+1)) [])) w/\HN h H w (h.at_ id ε (g+(k+1)) (h.cap id)) (H.set id (.live (g+(k+1)) [])) w:=by
  intro k;induction k with
  |zero=>exact s.bump n d
  |succ k N=>exact key _ _ (k+1) rfl rfl N
 have:=all (m-g);rw[show g+(m-g+1)=m+1 by omega]at this;rw[d];exact this;have b:h.io id=δ B:=D;have a:j.size=h.cap id:=o;have:=s.upd (g':=g') (B:=B) (arr:=j) (T:=T) (fz:=G) (w':=w) n I (λ_=>⟨b,a.symm⟩) (.inl b) L (λ_ _ _=>rfl) rfl rfl rfl (Al _) ⟨f,E,C,c⟩;rw[a]at this;rw[b];exact this
end
section
variable {P:Program}{N:Nat}{o:Oper}{env:Env}{H:Au}{K:Ad->Au->Prop}
def Bw.regen{id g g' sz off n:Nat}(a:h.gen id=g)(X:Bw (cx M h H j) (.sl id g sz off n) r):
  Bw (cx M (h.at_ id (h.io id) g' (h.cap id)) (H.set id I) j) (.sl id g' sz off n) r:=by
 cases X with
 |sl b i d f=>refine .sl (by simpa[cx]using b) (by simp[cx,Gh.at_]) d λ_=>?_;have:=f a;simpa[cx,Gh.at_]using this
def Jq.regen{id g g' sz off n:Nat}{cs}{H1:Au}(j:g<=g')(d:H1[id]?=δ (Fx.live g cs))(h:Jq P N o env H λv b=>v=.sl id g sz off n/\b=H1)(k:K (.sl id g' sz off n) (H1.set id (.live g' cs))):Jq P N o env H K:=by intro r X f a w s Q;apply Wc (h r X f a w s Q);rintro p t ⟨c,v,q,b,i,⟨rfl,rfl⟩,l,e,m⟩;obtain⟨q1,q2⟩:=e.regen (g':=g') d j;exact⟨c,_,_,_,i,k,Bw.regen (e.live id g cs d).1 l,q1,m.trans q2⟩
theorem SE{sx xx:Operand}{t e:TypeId}{id g g' n sz m:Nat}{cs news:Ψ Ad}(ho:o.op=.call {callee:=.builtin .append,args:= #[sx,xx],argTypes:= #[t,t]})(he:eI P t=δ (ε,e,sz))(S:0<sz)(b4:SJ P e=ζ)
  (hs:BP env sx=.sl id g sz 0 n) (Z:H[id]?=δ (Fx.live g cs)) (hn:θ cs=n*sz) (hx:KV H sz (BP env xx)=δ (m,news)) (bd:n+m<=16777216)
  (b8:g<g'\/(g'=g/\m=0)) (hk:K (.sl id g' sz 0 (n+m)) (H.set id (.live g' (cs++news)))):Jq P N o env H K:=by
 apply C3 (by rw[ho];rfl);intro X h a w s Q;obtain⟨a7,b,hi⟩:=Qw he;obtain⟨i,z,y,bt,hz,b6⟩:=Ua b4;have u:=mD hi y;have rs:=Dp s.env sx;rw[hs]at rs;have rx:=Dp s.env xx;obtain⟨ap,a9⟩:=s.sim.live id g cs Z;have b0:h.gen id=g:=ap;have L:id<θ H:=by rcases Ay id (θ H) with U|U;exact U;grind[u?]
 have a6:KV H sz (.sl id g sz 0 n)=δ (n,cs):=by grind[KV]
 unfold Oper.wp;have bz:(h.io id=ε/\n=0/\a.eval sx=.slice ε 0 0)\/∃B cap,h.io id=δ B/\n<=cap/\cap*sz<=h.cap id/\a.eval sx=.slice (δ ⟨B,0,ε⟩) n cap:=by
  generalize a.eval sx=c at rs;cases rs with
  |sl p q r hc=>rcases hc ap with⟨h1,U,_,h3⟩|⟨B,cap,h1,U,h3,h4⟩;exact .inl ⟨h1,U,h3⟩;exact .inr ⟨B,cap,h1,U,by simpa[cx]using h3,h4⟩
 have ao:∀(l:Ω Addr)(cap:Nat),a.eval sx=.slice l n cap→cap<n+m→0<m→
   Oper.upon P o a (λa' V=>∃c v h' H',a'=a.put o.dst c/\K v H'/\Bw (cx X h' H' V) v c/\JP X h' H' V/\HN h H w h' H' V) Q ((execOp a.eval o).run P w):=by
  intro l cap A a2 b2;have sd:=s.sim.drew;obtain⟨ax,al,G,a8,O,d,D,_,J⟩:=Om (P:=P) sd (rx.later (HN.drew.later X)) S hx;obtain⟨_,_,_,_,_,_,_,a3,_⟩:=Om (P:=P) s.sim rx S hx;obtain⟨_,_,os,_,_,R,a5,_,bN⟩:=Om (P:=P) sd (rs.later (HN.drew.later X)) S a6;obtain⟨C,hC,E⟩:=rG (ty:=o.type) (base:=l) (n:=n) (cap:=cap) (os:=os) a7 y hz bt a3 (by rw[u,<-A];exact bN) (by rw[u];exact J) a2 bd;rw[RP ho (by rw[A];exact E),Oper.upon_value];have hh:Holds (cx X h H w.drew) (cs++news) (os.toArray++G.toArray++Builtin.zeroCells z.cells (C-(n+m))) (0,0):=wb R d a5 D;obtain⟨q1,q2⟩:=sd.upd (g':=g') (B:=w.heap.size) (T:=e) (fz:=(0,0)) (w':={w.drew with heap:=w.drew.heap.push (.cells (os.toArray++G.toArray++Builtin.zeroCells z.cells (C-(n+m))) e)}) Z o! (λbl=>o!)
   (.inr (Al _)) (by show(w.heap.push _)[w.heap.size]?=_;simp) (λk hk bl=>by show(w.heap.push _)[k]?=w.heap[k]?;rw[To,D! bl]) rfl rfl rfl (by show w.heap.size<=(w.heap.push _).size;simp) hh
  refine⟨_,_,_,_,rfl,hk,.sl (by simpa[cx]using L) (by simp[cx,Gh.at_]) ⟨_,_,rfl⟩ λ_=>.inr ⟨w.heap.size,C,by simp[cx,Gh.at_],hC,?_,rfl⟩,q1,HN.drew.trans q2⟩;have e1:θ G=m*sz:=by rw[d.1,O]
  have e2:θ os=n*sz:=by rw[R.1,hn]
  simp only[cx,Gh.at_,if_true,Array.size_append,fK,ZV,b6,u,e1,e2];have:(C-(n+m))*sz+(n*sz+m*sz)=C*sz:=by rw[<-EB,<-EB];congr 1;omega
  omega
 rcases bz with⟨F,rfl,A⟩|⟨B,cap,F,b7,I,A⟩;rcases WF m with hm|hm;subst hm;obtain⟨ax,al,G,a8,O,d,D,M,J⟩:=Om (P:=P) s.sim rx S hx;have a4:news=[]:=Eh o!;subst a4;have bG:cs=[]:=Eh o!;subst bG;have b5:G=[]:=Eh d.1;subst b5;have E:=nJ (ty:=o.type) (base:=ε) (n:=0) (cap:=0) (w':=w) a7 y M (by rw[u];exact J) o! rfl;rw[RP ho (by rw[A];exact E),Oper.upon_value];obtain⟨q1,q2⟩:=s.sim.regen (g':=g') Z o!;rw[F]at q1 q2;rw[Do]at hk;exact⟨_,_,_,_,rfl,hk,.sl (by simpa[cx]using L) (by simp[cx,Gh.at_]) ⟨_,_,rfl⟩ λ_=>.inl ⟨by simp[cx,Gh.at_],rfl,rfl,rfl⟩,q1,q2⟩;exact ao ε 0 A o! hm;rcases Ay cap (n+m)with b1|a1;exact ao _ cap A b1 o!;obtain⟨ax,al,G,a8,O,d,D,M,J⟩:=Om (P:=P) s.sim rx S hx;rcases a9 with⟨bm,_⟩|⟨B',W,T,fz,f,ar,hb,a0,b',bb,Y⟩;rw[show(cx X h H w).io id=h.io id from rfl,F]at bm;cases bm;rw[show(cx X h H w).io id=h.io id from rfl,F]at ar;injection ar with e0;subst e0;have x:W.size=h.cap id:=a0;have e1:θ G=m*sz:=by rw[d.1,O]
 have b3:n*sz+m*sz<=W.size:=by rw[<-EB,x];exact CK (NB _ a1) I
 obtain⟨V,ad,p1,p2,p3,p4,p5,p6,p7,p8,p9⟩:=VS (P:=P) (off:=n*sz) G 0 W w hb o! bb D;have E:=nJ (ty:=o.type) (base:=δ ⟨B,0,ε⟩) (n:=n) (cap:=cap) (w':=V) a7 y M (by rw[u];exact J) a1 (by rw[u];simp only[Ox,DZ];exact p1);rw[RP ho (by rw[A];exact E),Oper.upon_value];have hh:Holds (cx X h H w) (cs++news) ad fz:=by
  refine⟨λj=>if n*sz<=j/\j<n*sz+m*sz then G.getD (j-n*sz) undef else f j,by simp[hn,O];omega,by rw[p3];exact bb,λj v hj=>?_⟩;rw[p4];simp only[O1,e1];rcases Ay j (θ cs) with U|U;rw[CW U]at hj;rw[D! o!,D! o!];exact Y j v hj;rw[Cl U]at hj;have b9:j-θ cs<θ news:=by rcases Ay (j-θ cs) (θ news) with h3|h3;exact h3;rw[Cq h3]at hj;cases hj
  rw[C! o!,C! o!];have hg:G[j-n*sz]?=δ (G[j-n*sz]' o!):=As o!;have eg:G.getD (j-n*sz) undef=G[j-n*sz]' o!:=by rw[N6,hg];rfl
  rw[eg];refine⟨hg,D _ (GW _),d.2 _ v _ hj ?_⟩;rw[hn];exact hg
 obtain⟨q1,q2⟩:=s.sim.upd (g':=g') (B:=B) (arr:=ad) (T:=T) (fz:=fz) (w':=V) Z o! (λ_=>⟨F,by rw[p3,x]⟩) (.inl F) p2 (λk _ hk=>p5 k hk) p6 p7 p8 (by rw[p9];exact Al _) hh;refine⟨_,_,_,_,rfl,hk,.sl (by simpa[cx]using L) (by simp[cx,Gh.at_]) ⟨_,_,rfl⟩ λ_=>.inr ⟨B,cap,by simp[cx,Gh.at_],a1,?_,rfl⟩,q1,q2⟩;simp only[cx,Gh.at_,if_true,p3,DZ,x];exact I
theorem di{h:Operand}{m:Nat}(j:o.op=.call {callee:=.builtin .append,args:= #[g,h],argTypes:= #[b,b]})(i:eI P b=δ (ε,V,n))(t:0<n)(c:SJ P V=ζ)
  (k:BP env g=.nils) (l:KV H n (BP env h)=δ (m,d)) (e:m<=16777216) (a:K (.sl (U H) m n 0 m) (H++[.live m d])):Jq P N o env H K:=by
 apply Jq.regen (id:=U H) (g:=0) (g':=m) (cs:=d) (BR _) q! (Jq.append_nil j i t c k l e ⟨rfl,rfl⟩);grind
theorem T7{t:TypeId}{len sz:Nat}{vs:Ψ Ad}(b:o.op=.buildSlice t len q)(c:TB P env t len q=δ (sz,vs))
  (d:K (.sl (U H) (U vs) sz 0 (U vs)) (H++[.live (U vs) (vs.flatMap Ad.cells)])):Jq P N o env H K:=by
 apply Jq.regen (id:=U H) (g:=0) (g':=U vs) (cs:=vs.flatMap Ad.cells) (BR _) q! (dj b c ⟨rfl,rfl⟩);grind
theorem Jq.makeSlice{y:Operand}{r:IntKind}(k:o.op=.makeSlice b g y)(j:eI P b=δ (ε,V,n))(l:0<n)(s:SJ P V=ζ)(q:ZU P V=δ d)(x:U d=n)
  (m:BP env g=.int C i) (p:BP env y=.int r a) (f:0<=i) (h:i<=a) (t:a<=16777216) (u:K (.sl (U H) i.toNat n 0 i.toNat) (H++[.live i.toNat (ς i.toNat d).flatten])):Jq P N o env H K:=by
 refine Jq.regen (id:=U H) (g:=0) (g':=i.toNat) (cs:=(ς i.toNat d).flatten) (H1:=H++[.live 0 (ς i.toNat d).flatten]) (sz:=n) (off:=0) (n:=i.toNat) (BR _) q! (mN k j l s q x m p f h t ⟨rfl,rfl⟩) k!
end
section
variable {P:Program}{N:Nat}{o:Oper}{env:Env}{H:Au}{K:Ad->Au->Prop}
def mV(s:Ψ UInt8):Ψ Ad:=s.map λb=>.int .u8 (b.toNat:Int)
theorem oo{e:TypeId}(q:o.op=.convert b V g)(F:P.underlying b=δ S)(y:P.underlying V=δ (.slice e))(z:P.underlying e=δ (.int .u8))
  (J:BP env g=.str O) (E:K (.sl (U H) 0 1 0 (U O)) (H++[.live 0 (mV O)])):Jq P N o env H K:=by
 apply C3 (by rw[q];rfl);intro X h a w st Q;have n:=Dp st.env g;rw[J]at n;generalize r:a.eval g=c at n;cases n with
 |str t G=>
  have l:t.size=U O:=by rw[<-G];rfl
  have k:(execOp a.eval o).run P w=.ok (.value (.slice (δ ⟨w.heap.size,0,ε⟩) t.size (grownCap w t.size 0 e))) (Lib.bytesWorld w e t):=by have:=Lib.run_convert_string_bytes w b V e t F y z;unfold execOp;rw[q];simp[resolve,r,this]
  unfold Oper.wp;rw[k,Oper.upon_value];have B:=grownCap_ge w t.size 0 e;have m:(Lib.bytesCells w e t).size=grownCap w t.size 0 e:=by grind[Lib.bytesCells,Array.size_append,Array.size_map,Array.size_replicate]
  have L:=st.sim.drew;have I:Lib.bytesWorld w e t={w.drew with heap:=w.drew.heap.push (.cells (Lib.bytesCells w e t) e ((Lib.bytesCells w e t).size,(Lib.bytesCells w e t).size+1))}:=by unfold Lib.bytesWorld World.freeze World.alloc;rw[D! g!];show World.mk _ _ _ _ _=World.mk _ _ _ _ _;congr 1;apply Array.ext_getElem?;intro j;have m:w.drew.heap.size=w.heap.size:=rfl;grind
  rw[I];have C:Holds (cx X h H w.drew) (mV O) (Lib.bytesCells w e t) ((Lib.bytesCells w e t).size,(Lib.bytesCells w e t).size+1):=by
   refine⟨λj=>.int .u8 ((O.getD j 0).toNat:Int),by simp[mV];omega,λi M=>?_,λj v f=>?_⟩;grind;unfold mV at f;rw[CR]at f;cases p:O[j]? with
   |none=>grind
   |some d=>
    rw[p]at f;simp only[Bs,Ao]at f;subst f;have D:j<U O:=by grind[Nat.lt_or_ge,u?]
    have A:O.getD j 0=d:=by rw[N6,p];rfl
    refine⟨?_,rfl,?_⟩;grind[Lib.bytesCells,Array.getElem?_append_left];simp only[A];exact .int _ _
  refine⟨_,_,_,_,rfl,E,.sl (by simp[cx]) (by simp[cx,Gh.at_]) ⟨_,_,by rw[l]⟩ λ_=>.inr ⟨w.heap.size,grownCap w t.size 0 e,?_,o!,?_,by rw[l]⟩,L.push _ e _ (mV O) C,HN.drew.trans (HN.push _ _ _)⟩;have:w.drew.heap.size=w.heap.size:=rfl;simp[cx,Gh.at_,this];simp only[cx,Gh.at_,if_true];omega
theorem qQ{e:TypeId}(f:o.op=.convert b V g)(h:P.underlying b=δ S)(c:P.underlying V=δ (.slice e))(d:P.underlying e=δ (.int .u8))
  (i:BP env g=.str O) (j:K (.sl (U H) (U O) 1 0 (U O)) (H++[.live (U O) (mV O)])):Jq P N o env H K:=by
 refine Jq.regen (id:=U H) (g:=0) (g':=U O) (cs:=mV O) (H1:=H++[.live 0 (mV O)]) (sz:=1) (off:=0) (n:=U O) (BR _) q! (oo f h c d i ⟨rfl,rfl⟩) k!
end
def Fb.virtC{N}{env}{b g i sz:Nat}(Q:H[b]?=δ (Fx.live g d))(hi:d[i]?=δ .nils):
  Fb N (θ H) env H env (H.set b (.live g (d.set i (.sl (θ H) 0 sz 0 0)))++[.live 0 []]):=by
 have J:b<θ H:=by rcases Ay b (θ H) with P|P;exact P;rw[Cq P]at Q;cases Q
 refine⟨q!,λX h a w s=>⟨h.at_ (θ H) ε 0 0,?_,λid ap=>by simp[Gh.at_,Bo ap],?_⟩⟩;have O:=s.sim.virt;have hx:=HN.virt (h:=h) (H:=H) (w:=w);have W:=hx.later X
 have key:∀(j:Nat)(e:Fx),(H.set b (.live g (d.set i (.sl (θ H) 0 sz 0 0)))++[Fx.live 0 []])[j]?=δ e→
   (j≠b/\(H++[Fx.live 0 []])[j]?=δ e)\/(j=b/\e=.live g (d.set i (.sl (θ H) 0 sz 0 0))):=by
  intro j e p;rcases Ay j (θ H) with y|y;rw[CW (by simpa using y),Tr]at p;split at p;rename_i G;subst G;injection p with p;exact .inr ⟨rfl,p.symm⟩;rename_i G;exact .inl ⟨λe=>G e.symm,by rw[CW y];exact p⟩;refine .inl ⟨o!,?_⟩;rw[Cl (by simpa using y)]at p;rw[Cl y];simpa using p
 have E:∀B,owned (h.at_ (θ H) ε 0 0) (H.set b (.live g (d.set i (.sl (θ H) 0 sz 0 0)))++[.live 0 []]) B->owned (h.at_ (θ H) ε 0 0) (H++[.live 0 []]) B:=by rintro B ⟨j,e,p,z,o⟩;rcases key j e p with⟨_,q⟩|⟨rfl,rfl⟩;exact⟨j,e,q,z,o⟩;exact⟨j,_,by rw[CW J];exact Q,q!,o⟩
 have C:(cx X (h.at_ (θ H) ε 0 0) (H++[.live 0 []]) w).Later (cx X (h.at_ (θ H) ε 0 0) (H.set b (.live g (d.set i (.sl (θ H) 0 sz 0 0)))++[.live 0 []]) w):={size:=Al _,keep:=λ_ _ _ _=>rfl,own:=λB _ ho=>ho.imp _root_.id (E B),n:=by simp[cx],gen:=λ_ _=>Al _,same:=λ_ _ _=>⟨rfl,rfl⟩}
 refine⟨⟨λB Y=>⟨(O.out B Y).1,λho=>(O.out B Y).2 (E B ho)⟩,λj g0 ad p=>?_,λj L p=>?_,λj k e e' B q P ax a0 h3 h4=>?_,O.bldKeep λj e p Y=>?_⟩,λt v m=>?_,s.size⟩;rcases key j _ p with⟨_,q⟩|⟨rfl,q⟩;obtain⟨U,hh⟩:=O.live j g0 ad q;refine⟨U,?_⟩;rcases hh with⟨o,h0⟩|⟨B,F,T,fz,f,o,I,x,M,K,l⟩;exact .inl ⟨o,h0⟩;exact .inr ⟨B,F,T,fz,f,o,I,x,M,K,λk v u=>⟨(l k v u).1,(l k v u).2.1,(l k v u).2.2.later C⟩⟩;injection q with h5 h6;subst h5 h6;obtain⟨U,hh⟩:=O.live j g0 d (by rw[CW J];exact Q);refine⟨U,?_⟩;rcases hh with⟨o,h0⟩|⟨B,F,T,fz,f,o,I,x,M,K,l⟩;subst h0;simp at hi;refine .inr ⟨B,F,T,fz,f,o,I,x,by simpa using M,K,λk v u=>?_⟩;rw[Tr]at u;split at u;rename_i ar;subst ar;split at u;injection u with u;subst u;obtain⟨p1,Z,p3⟩:=l i _ hi;refine⟨p1,Z,?_⟩;generalize f i=c at p3 Z;cases p3;exact .sl (by simp[cx]) (by simp[cx,Gh.at_]) ⟨_,_,rfl⟩ λ_=>.inl ⟨by simp[cx,Gh.at_],rfl,rfl,rfl⟩;cases u;obtain⟨p1,Z,p3⟩:=l k v u;exact⟨p1,Z,p3.later C⟩;rcases key j _ p with⟨_,q⟩|⟨rfl,q⟩;obtain⟨U,B,r,q1,q2,q3,q4,q5,q6,q7,q8,q9⟩:=O.lp j L q;exact⟨U,B,r,q1,q2,q3,q4,q5,q6,q7,q8,λt v m=>⟨(q9 t v m).1,(q9 t v m).2.later C⟩⟩;cases q;have back:∀{j:Nat}{e:Fx},(H.set b (.live g (d.set i (.sl (θ H) 0 sz 0 0)))++[Fx.live 0 []])[j]?=δ e->e≠.dead->∃e0,(H++[Fx.live 0 []])[j]?=δ e0/\e0≠.dead:=by intro j e p z;rcases key j _ p with⟨_,q⟩|⟨rfl,q⟩;exact⟨e,q,z⟩;exact⟨_,by rw[CW J];exact Q,q!⟩
 obtain⟨A,al,ao⟩:=back q ax;obtain⟨d',R,S⟩:=back P a0;exact O.inj j k _ _ B al R ao S h3 h4;rcases key j _ p with⟨_,q⟩|⟨rfl,q⟩;exact⟨q,rfl,rfl,rfl,λ_ _ _ _ _=>rfl⟩;subst q;cases Y;exact⟨(s.env t v m).1,((s.env t v m).2.later W).later C⟩;rintro B ⟨j,e,p,z,o⟩;rcases Ay j (θ H) with y|y;have D:h.io j=δ B:=by simpa[Gh.at_,Bo y]using o
 by_cases V:j=b;subst V;exact⟨j,_,Q,q!,D⟩;rw[CW (by simpa using y),Db (V ·.symm)]at p;exact⟨j,e,p,z,D⟩;rw[Cl (by simpa using y)]at p;have:j=θ H:=by rcases Nat.eq_or_lt_of_le y with e|P;exact e.symm;rw[Cq w!]at p;cases p
 subst this;simp[Gh.at_]at o
def Bw.nil_vs{x}(a:0<N)(c:Bw x .nils r):Bw x (.vs N []) r:=by cases c;exact Bw.vs (rows:=[]) (cap:=0) (λ_ _=>undef) (Al _) a (λ_ _ h=>by simp at h) (λh=>(h rfl).elim) λ_ _ _ _ h=>by simp at h
def Fb.subset{N}{H:Au}(h:∀q∈W,q∈f):Fb N (U H) f H W H:=⟨Al _,λ_ g _ _ s=>⟨g,⟨s.sim,λt v m=>s.env t v (h _ m),s.size⟩,λ_ _=>⟨rfl,rfl,rfl⟩,λ_ h=>h⟩⟩
section
variable {P:Program}
theorem ACu{b:Operand→Ad}(h:callT b T=δ (.inl (p,d))):
  ∃c f first a,T=.call c/\c.callee=.value f/\b f=.fn (.func p) first a/\d=first++c.args.toList.map b++a:=by
 unfold callT at h;grind
section
variable {N:Nat}{o:Oper}{env:Env}{H H':Au}{v:Ad}
def kq{F:FuncId}{vs:Ψ Ad}(h:callT (BP env) o.op=δ (.inl (F,vs)))(d:Enters P F=ζ)(e:Ei P F vs H (DT v H')):Jq P N o env H (DT v H'):=by obtain⟨c,f,first,b,i,a,g,rfl⟩:=ACu h;exact qP i a g d e
end
end
mutual
theorem RO{p q:Nat->Bool}(h:∀id,p id=ζ->q id=ζ):∀v:Ad,v.idsAll p=ζ->v.idsAll q=ζ
 |.ptr id g off,k=>h id k
 |.sl id g sz off len,k=>h id k
 |.yf id,k=>h id k
 |.mp id,k=>h id k
 |.itp id m,k=>by simp only[Ad.idsAll,BV]at k⊢;exact⟨h id k.1,h m k.2⟩
 |.vptr cs,k=>Jo h cs k
 |.vs sz rows,k=>Jo h rows k
 |.fn f a b,k=>by simp only[Ad.idsAll,BV]at k⊢;exact⟨Jo h a k.1,Jo h b k.2⟩
 |.agg cs,k=>Jo h cs k
 |.tup cs,k=>Jo h cs k
 |.bool _,_=>rfl
 |.int _ _,_=>rfl
 |.str _,_=>rfl
 |.nilp,_=>rfl
 |.nils,_=>rfl
 |.nilf,_=>rfl
 |.any,_=>rfl
theorem Jo{p q:Nat->Bool}(h:∀id,p id=ζ->q id=ζ):∀l:Ψ Ad,Ad.idsAllL p l=ζ->Ad.idsAllL q l=ζ
 |[],_=>rfl
 |v::r,k=>by simp only[Ad.idsAllL,BV]at k⊢;exact⟨RO h v k.1,Jo h r k.2⟩
end
mutual
theorem AFV(c d:Nat->Nat):∀v:Ad,(v.ren c).ren d=v.ren λid=>d (c id)
 |.ptr id g i=>rfl
 |.sl id g sz i len=>rfl
 |.yf id=>rfl
 |.mp id=>rfl
 |.itp _ _=>rfl
 |.vptr e=>by simp only[Ad.ren,UZ c d e]
 |.vs sz h=>by simp only[Ad.ren,UZ c d h]
 |.fn f a b=>by simp only[Ad.ren,UZ c d a,UZ c d b]
 |.agg e=>by simp only[Ad.ren,UZ c d e]
 |.tup e=>by simp only[Ad.ren,UZ c d e]
 |.bool _=>rfl
 |.int _ _=>rfl
 |.str _=>rfl
 |.nilp=>rfl
 |.nils=>rfl
 |.nilf=>rfl
 |.any=>rfl
theorem UZ(a b:Nat->Nat):∀l:Ψ Ad,Ad.renL b (Ad.renL a l)=Ad.renL (λid=>b (a id)) l
 |[]=>rfl
 |v::r=>by simp only[Ad.renL,AFV a b v,UZ a b r]
end
mutual
theorem AAw{p q:Nat->Bool}{c:Nat->Nat}(h:∀id,p id=ζ->q (c id)=ζ):∀v:Ad,v.idsAll p=ζ->(v.ren c).idsAll q=ζ
 |.ptr id g off,k=>h id k
 |.sl id g sz off len,k=>h id k
 |.yf id,k=>h id k
 |.mp id,k=>h id k
 |.itp id m,k=>by simp only[Ad.ren,Ad.idsAll,BV]at k⊢;exact⟨h id k.1,h m k.2⟩
 |.vptr cs,k=>Oj h cs k
 |.vs sz rows,k=>Oj h rows k
 |.fn f a b,k=>by simp only[Ad.ren,Ad.idsAll,BV]at k⊢;exact⟨Oj h a k.1,Oj h b k.2⟩
 |.agg cs,k=>Oj h cs k
 |.tup cs,k=>Oj h cs k
 |.bool _,_=>rfl
 |.int _ _,_=>rfl
 |.str _,_=>rfl
 |.nilp,_=>rfl
 |.nils,_=>rfl
 |.nilf,_=>rfl
 |.any,_=>rfl
theorem Oj{p q:Nat->Bool}{a:Nat->Nat}(h:∀id,p id=ζ->q (a id)=ζ):∀l:Ψ Ad,Ad.idsAllL p l=ζ->Ad.idsAllL q (Ad.renL a l)=ζ
 |[],_=>rfl
 |v::r,k=>by simp only[Ad.renL,Ad.idsAllL,BV]at k⊢;exact⟨AAw h v k.1,Oj h r k.2⟩
end
def Pure(v:Ad):Prop:=v.idsAll (λ_=>η)=ζ
def tM(e:Fx):Prop:=match e with|.live _ cs=>Ad.idsAllL (λ_=>η) cs=ζ|_=>False
def Pure.all(h:Pure s)(p:Nat->Bool):s.idsAll p=ζ:=RO (λ_ e=>by cases e) s h
def Pure.ren{v}(h:Pure v)(ρ:Nat->Nat):v.ren ρ=v:=ABR (p:=λ_=>η) (λ_ e=>by cases e) v h
def tM.all(h:tM I)(p:Nat->Bool):I.idsAll p=ζ:=by
 cases I with
 |live g a=>exact Jo (λ_ I=>by cases I) a h
 |_=>cases h
def tM.ren(h:tM I)(ρ:Nat->Nat):I.ren ρ=I:=by
 cases I with
 |live g a=>simp only[Fx.ren];rw[YE (p:=λ_=>η) (λ_ I=>by cases I) a h]
 |_=>cases h
theorem Ei.sub{P:Program}{K:Ad→Au→Prop}(bs:Ψ Nat){Qc:Ad→Au→Prop}(a:bs.Nodup)(g:∀b∈bs,b<U H)
  (t:∀b∈bs,((H.getD b .dead).idsAll λid=>decide (id∈bs))=ζ) (k:Ad.idsAllL (λid=>decide (id∈bs)) d=ζ)
  (y:Ei P p (Ad.renL (bs.idxOf ·) d) (Z2 H bs) Qc) (A:∀v i,Qc v i->K (v.ren (TY H bs)) (VM H bs i)):Ei P p d H K:=by
 intro X h w c s o f;refine(y (Xs X h H bs) (XG h bs) w c (s.sub a t) (by simpa[Of]using o) ?_).mono ?_;intro j v F l z;rw[Of,CR]at l;cases r:d[j]? with
 |none=>grind
 |some u=>rw[r]at l;simp at l;subst l;exact Bw.ren (p:=λid=>decide (id∈bs)) (yb ·) rfl AFo (f j u F r z) (M7 k r)
 rintro e E ⟨F,v,m,i,rfl,q,D,C,x⟩;have B:U bs<=U i:=by have:=x.n;simpa[Z2]using this
 exact⟨F,_,Nk h H bs m,VM H bs i,rfl,A v i q,s.back a g x D,Bw.back a g B C,HN.back a g x⟩
theorem sH{f:Nat->Nat}:∀(bs:Ψ Nat)(H a:Au),(∀e∈a,tM e)->bx f H bs a=AHn H (bs.zip a)
 |[],H,a,_=>by cases a<;>rfl
 |b::bs,H,[],_=>rfl
 |b::bs,H,e::es,h=>by simp only[bx,List.zip_cons_cons,AHn];rw[(h e q!).ren,sH bs _ es λc d=>h c (by simp[d])]
theorem Ei.frame{a c H:Au}(bs:Ψ Nat)(y:Ei P p d a (DT s c))(l:bs.Nodup)(w:U a=U bs)(x:U c=U bs)
  (m:∀(j b:Nat)(e:Fx),bs[j]?=δ b->a[j]?=δ e->H[b]?=δ e) (o:∀e∈a,tM e) (A:∀e∈c,tM e) (F:Pure s)
  (q:Ad.renL (bs.getD · 0) d=Z) (z:Ad.idsAllL (λj=>decide (j<U bs)) d=ζ):Ei P p Z H (DT s (AHn H (bs.zip c))):=by
 have get:∀b∈bs,∃(j:Nat)(e:Fx),bs[j]?=δ b/\a[j]?=δ e/\H[b]?=δ e:=by
  intro b i;obtain⟨j,n,e⟩:=WB.1 i;have h:bs[j]?=δ b:=k!
  have f:a[j]?=δ (a[j]' o!):=As o!;exact⟨j,_,h,f,m j b _ h f⟩
 have k:∀b∈bs,b<U H:=k!
 have g:Z2 H bs=a:=by
  apply JR;intro j;unfold Z2;rw[CR];cases n:bs[j]? with
  |none=>grind[List.getElem?_eq_none_iff,u?]
  |some b=>
   have r:j<U bs:=by grind[Nat.lt_or_ge,u?]
   have f:a[j]?=δ (a[j]' o!):=As o!;have v:=m j b _ n f;rw[f,Bs,N6,v,nF,(o _ (GW _)).ren]
 refine Ei.sub bs (Qc:=DT s c) l k (λb i=>?_) ?_ ?_ ?_;obtain⟨j,e,_,h,f⟩:=get b i;rw[N6,f,nF];exact(o e (BN h)).all _;grind[Oj,m?,List.getElem_mem];rw[g,<-q,UZ];grind[Ad.renL,YE,qZ,m?];rintro u t ⟨rfl,rfl⟩;refine⟨F.ren _,?_⟩;grind[VM,sH,List.drop_eq_nil_of_le]
structure SO(α:Type)where
 sz:Nat
 f:α->Ad
 pos:0<sz
 len:∀x,(f x).cells.length=sz
 pure:∀x,Pure (f x)
def SO.cl(e:SO R)(l:Ψ R):Ψ Ad:=(l.map e.f).flatMap Ad.cells
theorem SO.clen{a:Type}(e:SO a):∀l:Ψ a,(e.cl l).length=U l*e.sz
 |[]=>by simp[SO.cl]
 |x::l=>by have:=SO.clen e l;simp only[SO.cl,CQ,JS,Ac,e.len]at this⊢;grind
def xm(k:IntKind):SO Int:=⟨1,.int k,g!,λ_=>rfl,λ_=>rfl⟩
abbrev BZ:=Ψ UInt8
def ix{α:Type}(l:List α)(i:Int):Option α:=if 0<=i then l[i.toNat]? else ε
def app{α:Type}(l xs:Ψ α):Ω (Ψ α):=if U l+U xs<=16777216 then δ (l++xs)else ε
theorem AK8{f:R->Ad}{l}{x:R}(h:ix l i=δ x):0<=i/\(l.map f)[i.toNat]?=δ (f x):=by unfold ix at h;grind
theorem oJ{l a r:Ψ R}(h:app l a=δ r):U l+U a<=16777216/\r=l++a:=by grind[app]
def AJE(e:SO R)(l:Ψ R):ABm e.sz (e.cl l) (l.map e.f):=⟨e.pos,λv b=>by obtain⟨x,_,rfl⟩:=Bn.1 b;exact e.len x,rfl⟩
inductive Step(S R:Type)where
 |next (s:S)
 |done (r:R)
def eV{S R:Type}(body:S->Ω (Step S R)):Nat->S->Ω R
 |0,_=>ε
 |n+1,s=>
  match body s with
  |some (.next s')=>eV body n s'
  |some (.done r)=>δ r
  |none=>ε
theorem AA3{body:J->Ω (Step J R)}{s:J}{r:R}(h:eV body n s=δ r):eV body (n+1) s=δ r:=by induction n generalizing s<;>grind[eV]
theorem AE0{body:J->Ω (Step J R)}{s:J}{r:R}(h:eV body n s=δ r)(a:n<=N):eV body N s=δ r:=by induction a<;>grind[AA3]
open Classical in
noncomputable def Aj{S R:Type}(body:S->Ω (Step S R))(s:S):Ω R:=if h:∃r n,eV body n s=δ r then δ h.choose else ε
theorem lm{body:J->Ω (Step J R)}{s:J}{r:R}:Aj body s=δ r↔∃n,eV body n s=δ r:=by
 unfold Aj;constructor;intro h;split at h<;>grind;rintro⟨n,hn⟩;have a:∃r n,eV body n s=δ r:=⟨r,n,hn⟩
 grind[AE0]
theorem HX(body:J→Ω (Step J R))(s:J):Aj body s=match body s with
  |some (.next b)=>Aj body b
  |some (.done r)=>δ r
  |none=>ε:=by
 apply Option.ext;intro r;rw[lm];constructor
 ·rintro⟨n,h⟩;cases n with
  |zero=>cases h
  |succ n=>
   rw[eV]at h;cases a:body s with
   |none=>rw[a]at h;cases h
   |some q=>
    rw[a]at h;cases q with
    |next b=>exact lm.2 ⟨n,h⟩
    |done r=>exact h
 ·intro h;cases a:body s with
  |none=>rw[a]at h;cases h
  |some q=>
   rw[a]at h;cases q with
   |next b=>obtain⟨n,hn⟩:=lm.1 h;exact⟨n+1,by rw[eV,a];exact hn⟩
   |done c=>exact⟨1,by rw[eV,a];exact h⟩
def ADG{body:J->Ω (Step J R)}(C:J->R->Prop)(c:∀s b r,body s=δ (.next b)->C b r->C s r)(d:∀s r,body s=δ (.done r)->C s r){s:J}{r:R}(h:Aj body s=δ r):C s r:=by
 obtain⟨n,hn⟩:=lm.1 h;clear h;induction n generalizing s with
 |zero=>cases hn
 |succ n e=>
  rw[eV]at hn;cases a:body s with
  |none=>rw[a]at hn;cases hn
  |some q=>
   rw[a]at hn;cases q with
   |next b=>exact c s b r a (e hn)
   |done f=>injection hn with hn;subst hn;exact d s f a
theorem bnd{x:Ω R}{k:R->Ω J}{r:J}(h:x.bind k=δ r):∃a,x=δ a/\k a=δ r:=by cases x<;>grind
abbrev Gd(n:Nat)(α:Type):=Fin n->α
def Gd.all{n}{α:Type}(x:α):Gd n α:=λ_=>x
def fS(n:Nat)(e:SO R)(a:Gd n R):Ψ Ad:=(List.finRange n).flatMap λi=>(e.f (a i)).cells
def AED(n:Nat)(e:SO R)(a:Gd n R):(fS n e a).length=n*e.sz:=by
 unfold fS;have:∀l:Ψ (Fin n),(l.flatMap λi=>(e.f (a i)).cells).length=U l*e.sz:=by
  intro l;induction l with
  |nil=>simp
  |cons x l c=>rw[JS,Ac,c,e.len];simp[EB,Yb]
 rw[this,List.length_finRange]
def G1{n:Nat}(a:Gd n R)(i:Int):Option R:=if h:0<=i/\i.toNat<n then δ (a ⟨i.toNat,h.2⟩)else ε
def XK{n}(a:Gd n R)(i:Int)(v:R):Gd n R:=λj=>if(j.val:Int)=i then v else a j
theorem pU{a}{x:R}(h:G1 a i=δ x):0<=i/\∃k:Fin n,i=(k.val:Int)/\a k=x:=by grind[G1]
theorem uR(g:R→Ψ J)(sz:Nat)(c:∀x,(g x).length=sz)(l1:Ψ R)(x:R)(l2:Ψ R):
  (l1++x::l2).flatMap g=l1.flatMap g++g x++l2.flatMap g/\(l1.flatMap g).length=U l1*sz:=by
 induction l1<;>grind
theorem uM(k:Fin n):∃l1 l2,List.finRange n=l1++k::l2/\U l1=k.val/\k∉l1/\k∉l2:=by
 refine⟨(List.finRange n).take k.val,(List.finRange n).drop (k.val+1),?_,k!,?_,?_⟩;have a:(List.finRange n).drop k.val=k::(List.finRange n).drop (k.val+1):=by rw[Tq q!];simp
 rw[<-a,DY];intro h;obtain⟨i,b,e⟩:=WB.1 h;grind;intro h;obtain⟨i,b,e⟩:=WB.1 h;grind
theorem tX(e:SO R)(a:Gd n R)(k:Fin n):∃b c,fS n e a=b++(e.f (a k)).cells++c∧U b=k.val*e.sz∧
  ∀v,fS n e (XK a k.val v)=b++(e.f v).cells++c:=by
 obtain⟨l1,l2,g,h,m,o⟩:=uM k;unfold fS;rw[g];obtain⟨p,q⟩:=uR (λi=>(e.f (a i)).cells) e.sz (λi=>e.len _) l1 k l2;refine⟨_,_,p,by rw[q,h],λv=>?_⟩;have r:∀j,j≠k->XK a k.val v j=a j:=by grind[XK]
 have l:XK a k.val v k=v:=by grind[XK]
 rw[(uR (λi=>(e.f (XK a k.val v i)).cells) e.sz (λi=>e.len _) l1 k l2).1];grind[List.map_congr_left]
section
variable {α:Type}{n:Nat} (e:SO α) {a:Gd n α}{i:Int}{x:α}
theorem AEE(h:G1 a i=δ x)(pre b:Ψ Ad):(pre++fS n e a++b).length=U pre+n*e.sz+U b∧U pre+i.toNat*e.sz+e.sz≤(pre++fS n e a++b).length∧
  ((pre++fS n e a++b).drop (U pre+i.toNat*e.sz)).take e.sz=(e.f x).cells/\∀v,XC (pre++fS n e a++b) (U pre+i.toNat*e.sz) (e.f v).cells=pre++fS n e (XK a i v)++b:=by
 obtain⟨r,k,rfl,rfl⟩:=pU h;obtain⟨c,d,j,l,m⟩:=tX e a k;have o:((k.val:Int)).toNat=k.val:=q!
 have g:=AED n e a;have q:=e.len (a k);refine⟨k!,?_,?_,λv=>?_⟩;grind;grind;have p:=e.len v;rw[m v,j,o,<-l];have:(pre++(c++(e.f (a k)).cells++d)++b)=(pre++c)++((e.f (a k)).cells++(d++b)):=q!
 rw[this];unfold XC;rw[<-Ac,Ya,p,<-q,YL,lO o!];simp
theorem AD9{off m:Nat}(pre b:Ψ Ad)(h:G1 a i=δ x)(c:off+m<=e.sz):U pre+i.toNat*e.sz+off+m<=(pre++fS n e a++b).length/\((pre++fS n e a++b).drop (U pre+i.toNat*e.sz+off)).take m=((e.f x).cells.drop off).take m:=by obtain⟨_,d,g,_⟩:=AEE e h pre b;grind[List.drop_take,List.drop_drop]
end
def sapp(a b:BZ):Ω BZ:=if U a+U b<=9223372036854775807 then δ (a++b)else ε
theorem AJF{a b r:BZ}(h:sapp a b=δ r):(if U a+U b<=9223372036854775807 then δ (Ad.str (a++b))else ε)=δ (.str r):=by grind[sapp]
def SL(s:BZ)(lo hi:Int):Ω BZ:=if 0<=lo/\lo<=hi/\hi<=U s then δ ((s.drop lo.toNat).take (hi.toNat-lo.toNat))else ε
def Xf(s:Ψ R)(lo hi:Int):Ω (Ψ R):=if 0<=lo/\lo<=hi/\hi<=U s then δ ((s.drop lo.toNat).take (hi.toNat-lo.toNat))else ε
def E7(l:Ψ Int):BZ:=l.map λn=>UInt8.ofNat n.toNat
theorem yi:∀l:Ψ Int,u8s (l.map (xm .u8).f)=δ (E7 l)
 |[]=>rfl
 |n::l=>by have:=yi l;simp;simp only[xm]at this⊢;simp only[u8s,this];rfl
def AIv(k:IntKind)(l:Ψ Int):(xm k).cl l=l.map (xm k).f:=by
 unfold SO.cl;induction l with
 |nil=>rfl
 |cons x l a=>simp only[CQ,JS,a];rfl
theorem AFA(l:Ψ Int)(c:kd P V=.str)(d:kd P b=.bytes):
  Xl P H b V (.vs 1 (l.map (xm .u8).f))=δ (.str (E7 l)):=by
 simp only[Xl,rowsOf];have:(l.map (xm .u8).f).flatMap Ad.cells=l.map (xm .u8).f:=AIv .u8 l;grind[yi]
def AA4{body:J->Ω (Step J R)}{C:J->R->Prop}(h:∀s q,body s=δ q->match q with|.next d=>∀o,C d o->C s o|.done o=>C s o){s:J}{o:R}(b:Aj body s=δ o):C s o:=ADG C (λs _ r a c=>h s _ a r c) (λs _ a=>h s _ a) b
def mk(x:R)(l c:Int):Option (List R):=if 0<=l/\l<=c/\c<=16777216 then δ (ς l.toNat x)else ε
theorem AK9(e:SO R)(x:R){r:Ψ R}(h:mk x i a=δ r):(0<=i/\i<=a/\a<=16777216)/\i.toNat=θ r/\(ς i.toNat (e.f x).cells).flatten=e.cl r:=by unfold mk at h;split at h;rename_i b;injection h with h;subst h;unfold SO.cl;induction i.toNat<;>grind;cases h
def TL(s:BZ):Ψ Int:=s.map λb=>(b.toNat:Int)
def AKK(s:BZ):U s=(TL s).length/\mV s=(xm .u8).cl (TL s):=by
 refine⟨by simp[TL],?_⟩;unfold SO.cl TL mV;induction s with
 |nil=>rfl
 |cons b r a=>simp only[CQ,a];rfl
def six(s:BZ)(i:Int):Option Int:=if 0<=i then(s[i.toNat]?).map λb=>(b.toNat:Int)else ε
theorem AKJ{s}(h:six s i=δ a)(t:kd P b=.str):kg P b (.str s) (.int C i)=δ (.int .u8 a):=by grind[six,kg]
def tu(e:SO R){l}{x:R}(h:ix l i=δ x):∃d j,e.cl l=d++(e.f x).cells++j/\U d=i.toNat*e.sz/\0<=i/\i.toNat<U l/\l[i.toNat]?=δ x/\∀v,e.cl (l.set i.toNat v)=d++(e.f v).cells++j:=by
 unfold ix at h;split at h
 case isFalse=>cases h
 rename_i k;obtain⟨c,n⟩:=EU.1 h;have m:l=l.take i.toNat++x::l.drop (i.toNat+1):=by rw[<-n,<-Tq c,DY]
 have b:∀v,l.set i.toNat v=l.take i.toNat++v::l.drop (i.toNat+1):=λv=>by rw[List.set_eq_take_append_cons_drop,C! c]
 have a:∀v,e.cl (l.take i.toNat++v::l.drop (i.toNat+1))=e.cl (l.take i.toNat)++(e.f v).cells++e.cl (l.drop (i.toNat+1)):=λv=>by simp[SO.cl]
 refine⟨e.cl (l.take i.toNat),e.cl (l.drop (i.toNat+1)),?_,?_,k,c,h,λv=>by rw[b,a]⟩;conv=>lhs;rw[m]
 exact a x;rw[e.clen,BQ,Qs (Nat.le_of_lt c)]
def ER{α:Type}(l:List α)(i:Int)(v:α):List α:=l.set i.toNat v
def pI{l:Ψ R}{v:R}(h:U l=n):(ER l i v).length=n:=by rw[<-h];exact Oy
section
variable {α:Type} (e:SO α) {l:Ψ α}{i:Int}{x:α}
theorem AIm(h:ix l i=δ x)(d:N+n<=e.sz):i.toNat*e.sz+N+n<=(e.cl l).length/\((e.cl l).drop (i.toNat*e.sz+N)).take n=((e.f x).cells.drop N).take n:=by obtain⟨j,k,b,c,_⟩:=tu e h;have g:=e.len x;rw[b,<-c];refine⟨k!,?_⟩;rw[A6,YL,lO o!,CG,TS,YL,fL,DB,g,show n-(e.sz-N)=0 by omega];simp
end
mutual
def Ad.beq:Ad->Ad->Bool
 |.bool a,.bool b=>a==b
 |.int k n,.int k' n'=>decide (k=k')&&τ (n=n')
 |.str s,.str t=>decide (s=t)
 |.nilp,.nilp=>ζ
 |.nils,.nils=>ζ
 |.nilf,.nilf=>ζ
 |.ptr a b c,.ptr a' b' c'=>decide (a=a')&&(τ (b=b')&&τ (c=c'))
 |.vptr cs,.vptr ds=>Ad.beqL cs ds
 |.vs a cs,.vs b ds=>decide (a=b)&&Ad.beqL cs ds
 |.sl a b c d e,.sl a' b' c' d' e'=>decide (a=a')&&(τ (b=b')&&(τ (c=c')&&(τ (d=d')&&τ (e=e'))))
 |.agg cs,.agg ds=>Ad.beqL cs ds
 |.tup cs,.tup ds=>Ad.beqL cs ds
 |_,_=>η
def Ad.beqL:Ψ Ad->Ψ Ad->Bool
 |[],[]=>ζ
 |a::r,b::s=>Ad.beq a b&&Ad.beqL r s
 |_,_=>η
end
mutual
theorem beq_eq:∀(a b:Ad),Ad.beq a b=ζ->a=b
 |.bool a,b,h=>by cases b<;>simp[Ad.beq]at h;rw[h]
 |.int k n,b,h=>by cases b<;>simp[Ad.beq]at h;rw[h.1,h.2]
 |.str s,b,h=>by cases b<;>simp[Ad.beq]at h;rw[h]
 |.nilp,b,h=>by cases b<;>simp[Ad.beq]at h;rfl
 |.nils,b,h=>by cases b<;>simp[Ad.beq]at h;rfl
 |.nilf,b,h=>by cases b<;>simp[Ad.beq]at h;rfl
 |.ptr _ _ _,b,h=>by cases b<;>simp[Ad.beq]at h;rw[h.1,h.2.1,h.2.2]
 |.vptr cs,b,h=>by cases b<;>simp[Ad.beq]at h;rw[lS cs _ h]
 |.vs a cs,b,h=>by cases b<;>simp[Ad.beq]at h;rw[h.1,lS cs _ h.2]
 |.sl _ _ _ _ _,b,h=>by cases b<;>simp[Ad.beq]at h;rw[h.1,h.2.1,h.2.2.1,h.2.2.2.1,h.2.2.2.2]
 |.agg cs,b,h=>by cases b<;>simp[Ad.beq]at h;rw[lS cs _ h]
 |.tup cs,b,h=>by cases b<;>simp[Ad.beq]at h;rw[lS cs _ h]
 |.fn _ _ _,b,h=>by cases b<;>simp[Ad.beq]at h
 |.yf _,b,h=>by cases b<;>simp[Ad.beq]at h
 |.mp _,b,h=>by cases b<;>simp[Ad.beq]at h
 |.itp _ _,b,h=>by cases b<;>simp[Ad.beq]at h
 |.any,b,h=>by cases b<;>simp[Ad.beq]at h
theorem lS:∀(a b:Ψ Ad),Ad.beqL a b=ζ->a=b
 |[],b,h=>by cases b<;>simp[Ad.beqL]at h;rfl
 |x::r,b,h=>by
  cases b with
  |nil=>simp[Ad.beqL]at h
  |cons y s=>simp only[Ad.beqL,BV]at h;rw[beq_eq x y h.1,lS r s h.2]
end
mutual
inductive Ty where
 |bool
 |int (k:IntKind)
 |str
 |list (t:Ty)
 |arr (n:Nat) (t:Ty)
 |prod (ts:SM)
inductive SM where
 |one (t:Ty)
 |cons (t:Ty) (ts:SM)
end
mutual
@[reducible] def Ty.D:Ty->Type
 |.bool=>Bool
 |.int _=>Int
 |.str=>Ψ UInt8
 |.list t=>Ψ t.D
 |.arr n t=>Gd (n+1) t.D
 |.prod ts=>ts.D
@[reducible] def SM.D:SM->Type
 |.one t=>t.D
 |.cons t ts=>t.D×ts.D
end
mutual
def Ty.sz:Ty->Nat
 |.bool=>1
 |.int _=>1
 |.str=>1
 |.list _=>1
 |.arr n t=>(n+1)*t.sz
 |.prod ts=>ts.sz
def SM.sz:SM->Nat
 |.one t=>t.sz
 |.cons t ts=>t.sz+ts.sz
end
mutual
def Ty.enc:(t:Ty)->t.D->Ad
 |.bool,b=>.bool b
 |.int k,n=>.int k n
 |.str,s=>.str s
 |.list t,l=>.vs t.sz (l.map t.enc)
 |.arr n t,a=>.agg ((List.finRange (n+1)).flatMap λi=>(t.enc (a i)).cells)
 |.prod ts,x=>.agg (ts.cells x)
def SM.cells:(ts:SM)->ts.D->Ψ Ad
 |.one t,x=>(t.enc x).cells
 |.cons t ts,x=>(t.enc x.1).cells++ts.cells x.2
end
mutual
theorem Ty.sz_pos:∀t:Ty,0<t.sz
 |.bool=>g!
 |.int _=>by simp[Ty.sz]
 |.str=>g!
 |.list _=>by simp[Ty.sz]
 |.arr n t=>by simp only[Ty.sz];exact Nat.mul_pos (Nat.succ_pos n) t.sz_pos
 |.prod a=>by simp only[Ty.sz];exact a.sz_pos
theorem SM.sz_pos:∀a:SM,0<a.sz
 |.one t=>by simp only[SM.sz];exact t.sz_pos
 |.cons t a=>by simp only[SM.sz];have:=t.sz_pos;omega
end
mutual
theorem Ty.enc_len:∀(t:Ty)(x:t.D),(t.enc x).cells.length=t.sz
 |.bool,_=>rfl
 |.int _,_=>rfl
 |.str,_=>rfl
 |.list _,_=>rfl
 |.arr n t,a=>by
  show((List.finRange (n+1)).flatMap λi=>(t.enc (a i)).cells).length=(n+1)*t.sz;have:∀l:Ψ (Fin (n+1)),(l.flatMap λi=>(t.enc (a i)).cells).length=U l*t.sz:=by
   intro l;induction l with
   |nil=>simp
   |cons x l b=>rw[JS,Ac,b,t.enc_len];simp[EB,Yb]
  rw[this,List.length_finRange]
 |.prod ts,x=>ts.cells_len x
theorem SM.cells_len:∀(a:SM)(x:a.D),(a.cells x).length=a.sz
 |.one t,x=>by simp only[SM.cells,SM.sz];exact t.enc_len x
 |.cons t a,x=>by simp only[SM.cells,SM.sz,Ac];rw[t.enc_len,a.cells_len]
end
mutual
theorem Ty.enc_pure:∀(t:Ty)(x:t.D),Pure (t.enc x)
 |.bool,_=>rfl
 |.int _,_=>rfl
 |.str,_=>rfl
 |.list t,l=>by unfold Pure;show Ad.idsAllL _ (l.map t.enc)=ζ;rw[Dy];intro v b;obtain⟨x,_,rfl⟩:=Bn.1 b;exact t.enc_pure x
 |.arr n t,a=>by unfold Pure;show Ad.idsAllL _ ((List.finRange (n+1)).flatMap λi=>(t.enc (a i)).cells)=ζ;rw[Dy];intro v b;obtain⟨i,_,b⟩:=GX.1 b;exact VL (t.enc_pure _) v b
 |.prod ts,x=>by unfold Pure;show Ad.idsAllL _ (ts.cells x)=ζ;rw[Dy];exact ts.cells_pure x
theorem SM.cells_pure:∀(b:SM)(x:b.D),∀v∈b.cells x,Pure v
 |.one t,x,v,a=>VL (t.enc_pure x) v a
 |.cons t b,x,v,a=>by simp only[SM.cells,Am]at a;rcases a with a|a;exact VL (t.enc_pure _) v a;exact b.cells_pure _ v a
end
def Ty.E(t:Ty):SO t.D:=⟨t.sz,t.enc,t.sz_pos,t.enc_len,t.enc_pure⟩
mutual
def Ty.beq:Ty->Ty->Bool
 |.bool,.bool=>ζ
 |.int k,.int k'=>decide (k=k')
 |.str,.str=>ζ
 |.list t,.list t'=>t.beq t'
 |.arr n t,.arr n' t'=>ξ n n'&&t.beq t'
 |.prod ts,.prod ts'=>ts.beq ts'
 |_,_=>η
def SM.beq:SM->SM->Bool
 |.one t,.one t'=>t.beq t'
 |.cons t ts,.cons t' ts'=>t.beq t'&&ts.beq ts'
 |_,_=>η
end
mutual
theorem Ty.beq_eq:∀(t a:Ty),t.beq a=ζ->t=a
 |.bool,a,h=>by cases a<;>simp[Ty.beq]at h;rfl
 |.int k,a,h=>by cases a<;>simp[Ty.beq]at h;rw[h]
 |.str,a,h=>by cases a<;>simp[Ty.beq]at h;rfl
 |.list t,a,h=>by cases a<;>simp[Ty.beq]at h;rw[t.beq_eq _ h]
 |.arr n t,a,h=>by cases a<;>simp[Ty.beq]at h;rw[h.1,t.beq_eq _ h.2]
 |.prod ts,a,h=>by cases a<;>simp[Ty.beq]at h;rw[ts.beq_eq _ h]
theorem SM.beq_eq:∀(t a:SM),t.beq a=ζ->t=a
 |.one t,a,h=>by cases a<;>simp[SM.beq]at h;rw[t.beq_eq _ h]
 |.cons t ts,a,h=>by cases a<;>simp[SM.beq]at h;rw[t.beq_eq _ h.1,ts.beq_eq _ h.2]
end
def Ty.cast{t t':Ty}(h:t.beq t'=ζ)(x:t.D):t'.D:=Ty.beq_eq t t' h▸x
def dm{t a:Ty}(h:t.beq a=ζ)(x:t.D):a.enc (Ty.cast h x)=t.enc x:=by have:=Ty.beq_eq t a h;subst this;rfl
mutual
def Ty.zero:(t:Ty)->t.D
 |.bool=>η
 |.int _=>(0:Int)
 |.str=>([]:Ψ UInt8)
 |.list t=>([]:Ψ t.D)
 |.arr n t=>(Gd.all t.zero:Gd (n+1) t.D)
 |.prod ts=>ts.zero
def SM.zero:(ts:SM)->ts.D
 |.one t=>t.zero
 |.cons t ts=>(t.zero,ts.zero)
end
inductive Bu where
 |bl (b:Bool)
 |it (k:IntKind) (n:Int)
 |st (s:List UInt8)
 |ls (t:Ty) (l:List t.D)
 |ar (n:Nat) (t:Ty) (a:Gd (n+1) t.D)
 |own (id ver:Nat) (t:Ty) (n:Nat)
 |nil
 |raw (v:Ad)
def Bu.w:Bu->Nat
 |.ar n t _=>(n+1)*t.sz
 |_=>1
def Bu.enc:Bu->Ψ Ad
 |.bl b=>[.bool b]
 |.it k n=>[.int k n]
 |.st s=>[.str s]
 |.ls t l=>[.vs t.sz (l.map t.enc)]
 |.ar n t a=>((Ty.arr n t).enc a).cells
 |.own id _ t n=>[.sl id n t.sz 0 n]
 |.nil=>[.nils]
 |.raw v=>[v]
def Bu.one:Bu->Ad
 |.bl b=>.bool b
 |.it k n=>.int k n
 |.st s=>.str s
 |.ls t l=>.vs t.sz (l.map t.enc)
 |.ar n t a=>(Ty.arr n t).enc a
 |.own id _ t n=>.sl id n t.sz 0 n
 |.nil=>.nils
 |.raw v=>v
def lvs(cs:Ψ Bu):Ψ Ad:=cs.flatMap Bu.enc
def Bu.enc_len(x:Bu):U x.enc=x.w:=by
 cases x with
 |ar n t a=>exact Ty.enc_len (.arr n t) a
 |_=>rfl
inductive TV where
 |c (x:Bu)
 |g (cs:List Bu)
 |aptr (id base n:Nat) (t:Ty) (i:Int) (off:Nat)
 |bptr (id ver:Nat) (t:Ty) (n:Nat) (i:Int) (off:Nat)
 |vw (id ver:Nat) (t:Ty) (n lo m:Nat)
 |vptr (cs:List Bu) (post:List Ad)
 |tup (vs:List TV)
def vwE(id n sz lo m:Nat):Ad:=
 if min m (n-lo)=0 then(if lo=0 then .sl id n sz 0 0 else .vs sz [])else .sl id n sz (lo*sz) (min m (n-lo))
mutual
def TV.enc:TV->Ad
 |.c x=>x.one
 |.g cs=>.agg (lvs cs)
 |.aptr id base _ t i off=>.ptr id 0 (base+i.toNat*t.sz+off)
 |.bptr id _ t n i off=>.ptr id n (i.toNat*t.sz+off)
 |.vw id _ t n lo m=>vwE id n t.sz lo m
 |.vptr cs post=>.vptr (lvs cs++post)
 |.tup vs=>.tup (TV.encL vs)
def TV.encL:Ψ TV->Ψ Ad
 |[]=>[]
 |v::r=>v.enc::TV.encL r
end
def uH:∀l:Ψ TV,TV.encL l=l.map TV.enc
 |[]=>rfl
 |v::r=>by simp only[TV.encL,CQ,uH r]
abbrev Bf:=Ψ (Nat×TV)
inductive LS where
 |ready
 |busy
 |ret
 |exit (x:Nat)
def LS.st:LS->LoopState
 |.ready=>.ready
 |.busy=>.busy
 |_=>.done
def LS.pend:LS->Ω Code
 |.ret=>δ .ret
 |.exit x=>δ (.exit x)
 |_=>ε
def LS.beq:LS->LS->Bool
 |.ready,.ready=>ζ
 |.busy,.busy=>ζ
 |.ret,.ret=>ζ
 |.exit x,.exit y=>ξ x y
 |_,_=>η
def LS.beq_eq{a b:LS}(h:a.beq b=ζ):a=b:=by cases a<;>cases b<;>simp only[LS.beq]at h<;>first|rfl|cases h|rw[DD h]
inductive D0 where
 |dead
 |live (ro:Bool) (cs:List Bu)
 |buf (ro:Bool) (t:Ty) (l:List t.D) (n ver:Nat)
 |lp (ro:Bool) (F:FuncId) (n:Nat) (env:Bf) (ps:Array Tmp) (a b:Code) (s:LS)
 |mp (ro:Bool) (k:IntKind) (t:Ty) (es:List (Int×t.D))
abbrev Ar:=Ψ D0
def By(env:Bf):Env:=env.map λp=>(p.1,p.2.enc)
def D0.enc:D0->Fx
 |.dead=>.dead
 |.live _ cs=>.live 0 (lvs cs)
 |.buf _ t l n _=>.live n (t.E.cl l)
 |.lp _ _ n env ps a b s=>.lp ⟨n,By env,ps,a,b,s.st,s.pend⟩
 |.mp _ k t es=>.mp k (es.map λp=>(p.1,t.enc p.2))
def BK(H:Ar):Au:=H.map D0.enc
def VZ:TV:=.c (.raw .any)
def Bf.get:Bf->Nat->TV
 |[],_=>VZ
 |(k,v)::r,t=>match ξ k t with|true=>v|false=>Bf.get r t
def Bf.del(t:Nat):Bf->Bf
 |[]=>[]
 |(k,v)::r=>match ξ k t with|true=>Bf.del t r|false=>(k,v)::Bf.del t r
def Bf.put(env:Bf)(t:Nat)(v:TV):Bf:=(t,v)::Bf.del t env
def Bf.putO(env:Bf):Ω Nat->TV->Bf
 |some t,v=>env.put t v
 |none,_=>env
theorem beq_false(h:N≠n):ξ N n=η:=by grind[Nat.eq_of_beq_eq_true]
theorem Uu(env:Bf)(t:Nat):(By env).get t=(env.get t).enc:=by
 induction env with
 |nil=>simp[By,Env.get,Bf.get,VZ,TV.enc,Bu.one]
 |cons p r a=>grind[By,Env.get,Bf.get,Nat.beq_refl,beq_false]
theorem AEd(env:Bf)(t:Nat):By (Bf.del t env)=(By env).filter λp=>decide (p.1≠t):=by induction env<;>grind[Bf.del,By,Nat.beq_refl,beq_false]
def kJ(env:Bf)(t:Nat)(v:TV):By (env.put t v)=(By env).put t v.enc:=by simp only[Env.put,<-AEd];rfl
def YP(env:Bf)(t:Ω Nat)(v:TV):By (env.putO t v)=(By env).putO t v.enc:=by
 cases t with
 |none=>rfl
 |some t=>exact kJ env t v
def AEY:Value->Bu
 |.bool b=>.bl b
 |.int k n=>.it k n
 |.string s=>.st s.data.toList
 |.pointer ε=>.raw .nilp
 |.slice ε 0 0=>.nil
 |.nilFunc=>.raw .nilf
 |_=>.raw .any
def cvT:Value->TV
 |.agg cs=>match cs.toList.all (·.oneCell')with|true=>.g (cs.toList.map AEY)|false=>VZ
 |v=>.c (AEY v)
def zH(v:Value):(AEY v).one=rP v:=by
 cases v with
 |pointer p=>cases p<;>rfl
 |slice a l c=>
  cases a with
  |some _=>rfl
  |none=>
   match l,c with
   |0,0=>rfl
   |0,_+1=>rfl
   |_+1,_=>rfl
 |_=>rfl
theorem AEZ(v:Value):(AEY v).enc=[rP v]:=by
 cases v with
 |pointer p=>cases p<;>rfl
 |slice a l c=>
  cases a with
  |some _=>rfl
  |none=>
   match l,c with
   |0,0=>rfl
   |0,_+1=>rfl
   |_+1,_=>rfl
 |_=>rfl
theorem AGl(v:Value):(cvT v).enc=AC2 v:=by
 cases v with
 |agg b=>
  simp only[cvT,AC2];cases h:b.toList.all (·.oneCell')with
  |false=>simp[VZ,TV.enc,Bu.one]
  |true=>simp only[TV.enc,lvs];induction b.toList<;>grind[AEZ]
 |pointer p=>exact zH (.pointer p)
 |slice a l c=>exact zH (.slice a l c)
 |_=>rfl
def Jr(env:Bf):Operand->TV
 |.tmp t=>env.get t
 |.const v=>cvT v
 |.global _=>VZ
 |.func f=>.c (.raw (.fn (.func f) [] []))
theorem Lg(env:Bf)(x:Operand):BP (By env) x=(Jr env x).enc:=by
 cases x with
 |tmp t=>exact Uu env t
 |const v=>exact(AGl v).symm
 |global _=>rfl
 |func f=>rfl
def Xg:Ψ Bu->Nat->Ω (Ψ Bu×Ψ Bu)
 |ls,0=>δ ([],ls)
 |[],_+1=>ε
 |x::r,n+1=>
  match Nat.ble x.w (n+1)with
  |true=>match Xg r (n+1-x.w)with|some (a,b)=>δ (x::a,b)|none=>ε
  |false=>ε
mutual
def Ty.lvs:(t:Ty)->t.D->Ψ Bu
 |.bool,b=>[.bl b]
 |.int k,n=>[.it k n]
 |.str,s=>[.st s]
 |.list t,l=>[.ls t l]
 |.arr n t,a=>[.ar n t a]
 |.prod ts,x=>ts.lvs x
def SM.lvs:(ts:SM)->ts.D->Ψ Bu
 |.one t,x=>t.lvs x
 |.cons t ts,x=>t.lvs x.1++ts.lvs x.2
end
def Bu.scalar:Bu->Bool
 |.ar .. =>η
 |.raw (.agg _)=>η
 |_=>ζ
def part(P:Program)(t:TypeId)(cs:Ψ Bu)(off:Nat):Ω TV:=
 match Xg cs off with
 |some (_,r)=>
  match tI P t with
  |some (ζ,n)=>match Xg r n with|some (a,_)=>δ (.g a)|none=>ε
  |some (η,_)=>match r with|x::_=>(match x.scalar with|true=>δ (.c x)|false=>ε)|[]=>ε
  |none=>ε
 |none=>ε
section
variable {R:Type}
def okT(o:Ω TV)(k:TV->Ω R):Ω R:=
 match o with
 |some v=>k v
 |none=>ε
def AEC(cs:Ψ Bu)(base n:Nat)(t:Ty):Ω (Gd (n+1) t.D):=
 match Xg cs base with
 |some (_,.ar n' t' a::_)=>if h:(Ty.arr n' t').beq (Ty.arr n t)=ζ then δ (Ty.cast h a)else ε
 |_=>ε
def Yf(H:Ar)(id ver:Nat)(t:Ty):Ω (Ψ t.D):=
 match H[id]? with
 |some (.buf _ t' l _ ver')=>match ξ ver ver' with|true=>(if h:(Ty.list t').beq (Ty.list t)=ζ then δ (Ty.cast h l)else ε)|false=>ε
 |_=>ε
def Xe(H:Ar)(id:Nat):Ω (Ψ Bu):=
 match H[id]? with
 |some (.live _ cs)=>δ cs
 |_=>ε
def loadT(P:Program)(H:Ar)(t:TypeId)(v:TV)(k:TV->Ω R):Ω R:=
 match v with
 |.c (.raw (.ptr id 0 off))=>match Xe H id with|some cs=>okT (part P t cs off) k|none=>ε
 |.vptr cs _=>okT (part P t cs 0) k
 |.aptr id base n te i off=>
  match Xe H id with
  |some cs=>match AEC cs base n te with|some a=>(G1 a i).bind λe=>okT (part P t (te.lvs e) off) k|none=>ε
  |none=>ε
 |.bptr id ver te _ i off=>match Yf H id ver te with|some l=>(ix l i).bind λe=>okT (part P t (te.lvs e) off) k|none=>ε
 |_=>ε
def tvA:Ad->TV
 |.bool b=>.c (.bl b)
 |.int k n=>.c (.it k n)
 |.str s=>.c (.st s)
 |v=>.c (.raw v)
def okA(o:Ω Ad)(k:TV->Ω R):Ω R:=
 match o with
 |some v=>k (tvA v)
 |none=>ε
def eqT(as bs:Ψ Bu):Bool:=vf (lvs as) (lvs bs)
def AIn(P:Program)(op:BinOp)(t:TypeId)(x y:TV)(k:TV->Ω R):Ω R:=
 match x,y with
 |.c (.it kx a),.c (.it ky b)=>
  match op with
  |.shl=>cond (τ (b<0)) ε (k (.c (.it kx (kx.wrap (a*2^min b.toNat kx.bits)))))
  |.shr=>cond (τ (b<0)) ε (k (.c (.it kx (a.fdiv (2^min b.toNat kx.bits)))))
  |.quo=>if kx=ky then cond (b==0) ε (k (.c (.it kx (kx.wrap (a.tdiv b)))))else ε
  |.rem=>if kx=ky then cond (b==0) ε (k (.c (.it kx (a.tmod b))))else ε
  |op=>if kx=ky then okA (py op kx a b) k else ε
 |.c (.bl a),.c (.bl b)=>
  match op with
  |.eql=>if kd P t=.bool then k (.c (.bl (a==b)))else ε
  |.neq=>if kd P t=.bool then k (.c (.bl (!(a==b))))else ε
  |_=>ε
 |.c (.st a),.c (.st b)=>
  match op with
  |.add=>(sapp a b).bind λs=>k (.c (.st s))
  |op=>okA (xa op a b) k
 |.g as,.g bs=>
  match AEP P t with
  |some ks=>
   if typed ks (lvs as)=ζ/\typed ks (lvs bs)=ζ then
    match op with
    |.eql=>k (.c (.bl (eqT as bs)))
    |.neq=>k (.c (.bl (!eqT as bs)))
    |_=>ε
   else ε
  |none=>ε
 |_,_=>ε
def unT(op:UnOp)(v:TV)(k:TV->Ω R):Ω R:=
 match v with
 |.c x=>okA (unV op x.one) k
 |_=>ε
def AEV(P:Program)(H:Ar)(src dst:TypeId)(v:TV)(k:TV->Ω R):Ω R:=
 match v with
 |.c (.ls (.int .u8) l)=>if kd P dst=.str/\kd P src=.bytes then k (.c (.st (E7 l)))else ε
 |.c (.own id ver (.int .u8) _)=>if kd P dst=.str/\kd P src=.bytes then(match Yf H id ver (.int .u8)with|some l=>k (.c (.st (E7 l)))|none=>ε)else ε
 |.c (.it kk n)=>okA (Xl P [] src dst (.int kk n)) k
 |.c (.st s)=>okA (Xl P [] src dst (.str s)) k
 |_=>ε
def nX(P:Program)(H:Ar)(s f:Nat)(v:TV)(k:TV->Ω R):Ω R:=
 match fI P s f with
 |some (off,_,n)=>
  match ξ n 0 with
  |true=>ε
  |false=>
   match v with
   |.c (.raw (.ptr id 0 o))=>match Xe H id with|some _=>k (.c (.raw (.ptr id 0 (o+off))))|none=>ε
   |.vptr cs post=>match Xg cs off with|some (_,r)=>k (.vptr r post)|none=>ε
   |.aptr id base n te i o=>match Xe H id with|some _=>k (.aptr id base n te i (o+off))|none=>ε
   |.bptr id ver te n i o=>match Yf H id ver te with|some _=>k (.bptr id ver te n i (o+off))|none=>ε
   |_=>ε
 |none=>ε
def AAs(P:Program)(s f:Nat)(v:TV)(k:TV->Ω R):Ω R:=
 match fI P s f,v with
 |some (off,t,_),.g cs=>okT (part P t cs off) k
 |_,_=>ε
def ng(P:Program)(H:Ar)(t:TypeId)(v i:TV)(k:TV->Ω R):Ω R:=
 match i with
 |.c (.it _ i)=>
  match eI P t with
  |some (δ len,_,sz)=>
   match v with
   |.c (.raw (.ptr id 0 off))=>
    match Xe H id with
    |some cs=>
     match Xg cs off with
     |some (_,.ar n te a::_)=>if len=n+1/\sz=te.sz then(G1 a i).bind λ_=>k (.aptr id off n te i 0)else ε
     |_=>ε
    |none=>ε
   |.vptr (.ar n te a::r) post=>if len=n+1/\sz=te.sz then(G1 a i).bind λe=>k (.vptr (te.lvs e) ((((Ty.arr n te).enc a).cells.drop (i.toNat*te.sz+te.sz))++(lvs r++post)))else ε
   |_=>ε
  |some (ε,_,sz)=>
   match v with
   |.c (.ls te l)=>if sz=te.sz then(ix l i).bind λe=>k (.vptr (te.lvs e) [])else ε
   |.c (.own id ver te n)=>match Yf H id ver te with|some l=>(if sz=te.sz then(ix l i).bind λ_=>k (.bptr id ver te n i 0)else ε)|none=>ε
   |.vw id ver te n lo m=>match Yf H id ver te with|some l=>(if sz=te.sz then(ix ((l.drop lo).take m) i).bind λ_=>k (.bptr id ver te n ((lo:Int)+i) 0)else ε)|none=>ε
   |_=>ε
  |none=>ε
 |_=>ε
def xf(P:Program)(e:TypeId)(sz:Nat)(cs:Ψ Bu)(i:Int)(k:TV->Ω R):Nat->Nat->Ω R
 |0,_=>ε
 |m+1,j=>cond (τ (i=Int.ofNat j)) (okT (part P e cs (j*sz)) k) (xf P e sz cs i k m (j+1))
def AAx(P:Program)(t:TypeId)(v i:TV)(k:TV->Ω R):Ω R:=
 match i with
 |.c (.it _ i)=>
  match v with
  |.g [.ar n te a]=>
   match eI P t with
   |some (δ len,e,sz)=>if len=n+1/\sz=te.sz then(G1 a i).bind λx=>okT (part P e (te.lvs x) 0) k else ε
   |_=>ε
  |.g cs=>
   match eI P t with
   |some (δ len,e,sz)=>match Nat.ble len 16 with|true=>xf P e sz cs i k len 0|false=>ε
   |_=>ε
  |.c (.st s)=>if kd P t=.str then(six s i).bind λb=>k (.c (.it .u8 b))else ε
  |_=>ε
 |_=>ε
def y9(d:Int):Ω TV->Ω Int
 |none=>δ d
 |some (.c (.it _ n))=>δ n
 |_=>ε
def ABa(P:Program)(H:Ar)(t:TypeId)(v:TV)(lo hi mx:Ω TV)(k:TV->Ω R):Ω R:=
 match mx with
 |some _=>ε
 |none=>
  match v with
  |.c (.st s)=>
   match y9 0 lo,y9 (U s) hi with
   |some l,δ h=>if kd P t=.str then(SL s l h).bind λx=>k (.c (.st x))else ε
   |_,_=>ε
  |.c (.ls te xs)=>
   match y9 0 lo,y9 (U xs) hi,eI P t with
   |some l,δ h,δ (ε,_,sz)=>if sz=te.sz then(Xf xs l h).bind λx=>k (.c (.ls te x))else ε
   |_,_,_=>ε
  |.c (.own id ver te n)=>
   match Yf H id ver te with
   |some xs=>
    match y9 0 lo,y9 (U xs) hi,eI P t with
    |some l,δ h,δ (ε,_,sz)=>if sz=te.sz then(Xf xs l h).bind λ_=>k (.vw id ver te n l.toNat (h.toNat-l.toNat))else ε
    |_,_,_=>ε
   |none=>ε
  |_=>ε
def AI8(P:Program)(H:Ar)(t:TypeId)(v:TV)(k:TV->Ω R):Ω R:=
 match P.underlying t,v with
 |some .string,.c (.st s)=>k (.c (.it .i64 (U s)))
 |some (.array n _),_=>k (.c (.it .i64 n))
 |some (.slice _),.c (.ls _ l)=>k (.c (.it .i64 (U l)))
 |some (.slice _),.c (.own id ver te n)=>match Yf H id ver te with|some _=>k (.c (.it .i64 n))|none=>ε
 |some (.slice _),.c .nil=>k (.c (.it .i64 0))
 |some (.slice _),.vw id ver te _ lo m=>match Yf H id ver te with|some l=>k (.c (.it .i64 ((l.drop lo).take m).length))|none=>ε
 |_,_=>ε
def mmT(mx:Bool)(x y:TV)(k:TV->Ω R):Ω R:=
 match x,y with
 |.c (.it kx a),.c (.it _ b)=>k (.c (.it kx (if mx then(if b>a then b else a)else(if b<a then b else a))))
 |_,_=>ε
def AI9(x y z:TV)(k:TV->Ω R):Ω R:=
 match x,y,z with
 |.c (.it kx a),.c (.it _ b),.c (.it _ c)=>k (.c (.it kx (if c<(if b<a then b else a)then c else(if b<a then b else a))))
 |_,_,_=>ε
def TV.words:TV->Ω (Ψ Bu)
 |.c x=>match x.scalar&&x.one.solid with|true=>δ [x]|false=>ε
 |.g cs=>δ cs
 |_=>ε
mutual
def Ty.zlvs:(t:Ty)->Ψ Bu
 |.bool=>[.bl η]
 |.int k=>[.it k 0]
 |.str=>[.st []]
 |.list _=>[.nil]
 |.arr n t=>[.ar n t (Gd.all t.zero)]
 |.prod ts=>ts.zlvs
def SM.zlvs:SM->Ψ Bu
 |.one t=>t.zlvs
 |.cons t ts=>t.zlvs++ts.zlvs
end
mutual
def ABh(P:Program):Nat->TypeId->Ω Ty
 |0,_=>ε
 |d+1,t=>
  match P.underlying t with
  |some .bool=>δ .bool
  |some (.int k)=>δ (.int k)
  |some .string=>δ .str
  |some (.slice e)=>(ABh P d e).map Ty.list
  |some (.array (n+1) e)=>(ABh P d e).map (Ty.arr n)
  |some (.struct fs)=>(AIL P d fs.toList).map Ty.prod
  |_=>ε
def AIL(P:Program):Nat->Ψ Field->Ω SM
 |0,_=>ε
 |_+1,[]=>ε
 |d+1,[f]=>(ABh P d f.type).map SM.one
 |d+1,f::r=>match ABh P d f.type,AIL P d r with|some t,δ ts=>δ (.cons t ts)|_,_=>ε
end
def wh:Ad->Bu
 |.bool b=>.bl b
 |.int k n=>.it k n
 |.str s=>.st s
 |v=>.raw v
def vS(P:Program)(t:TypeId):Ω (Ψ Bu):=
 match ZU P t with
 |some z=>
  match ABh P 1000 t with
  |some ty=>match Ad.beqL z (lvs ty.zlvs)with|true=>δ ty.zlvs|false=>δ (z.map wh)
  |none=>δ (z.map wh)
 |none=>ε
def ADa(cs:Ψ Bu)(off:Nat)(vs:Ψ Bu)(n:Nat):Ω (Ψ Bu):=
 match Xg cs off with
 |some (a,r)=>match Xg r n with|some (_,b)=>δ (a++(vs++b))|none=>ε
 |none=>ε
def AFy:Ψ Bu->Nat
 |[]=>0
 |x::r=>x.w+AFy r
def zO(p:aP):Ψ Bu->Ψ (Nat×TV)->Ω (Ψ Bu)
 |cs,[]=>δ cs
 |cs,(i,v)::r=>
  match p.at_ i,v.words with
  |some (off,size),δ ws=>
   match ξ (AFy ws) size with
   |true=>match ADa cs off ws size with|some cs'=>zO p cs' r|none=>ε
   |false=>ε
  |_,_=>ε
def AAm(P:Program)(t:TypeId)(parts:Ψ (Nat×TV)):Ω TV:=
 match vS P t,vE P t with
 |some z,δ p=>(zO p z parts).map TV.g
 |_,_=>ε
def sU:Ψ TV->Ω (Ψ Ad)
 |[]=>δ []
 |.c x::r=>match x.scalar,sU r with|true,δ l=>δ (x.one::l)|_,_=>ε
 |_=>ε
def quT(P:Program)(env:Bf)(H:Ar)(op:Op)(k:TV->Ω R):Ω R:=
 match op with
 |.move x|.assign x=>k (Jr env x)
 |.pick c a b=>match Jr env c with|.c (.bl t)=>cond t (k (Jr env a)) (k (Jr env b))|_=>ε
 |.load t a=>loadT P H t (Jr env a) k
 |.nilCheck x=>
  match Jr env x with
  |.c (.raw (.ptr id 0 off))=>match Xe H id with|some _=>k (.c (.raw (.ptr id 0 off)))|none=>ε
  |.c (.raw (.fn (.func f) a b))=>k (.c (.raw (.fn (.func f) a b)))
  |.vptr cs post=>k (.vptr cs post)
  |.aptr id base n te i off=>match Xe H id with|some _=>k (.aptr id base n te i off)|none=>ε
  |.bptr id ver te n i off=>match Yf H id ver te with|some _=>k (.bptr id ver te n i off)|none=>ε
  |_=>ε
 |.binOp op t x y _=>AIn P op t (Jr env x) (Jr env y) k
 |.unOp op _ x=>unT op (Jr env x) k
 |.convert s d x=>AEV P H s d (Jr env x) k
 |.fieldAddr s x f=>nX P H s f (Jr env x) k
 |.field s x f=>AAs P s f (Jr env x) k
 |.indexAddr t x i=>ng P H t (Jr env x) (Jr env i) k
 |.index t x i=>AAx P t (Jr env x) (Jr env i) k
 |.slice t x lo hi mx=>ABa P H t (Jr env x) (lo.map (Jr env)) (hi.map (Jr env)) (mx.map (Jr env)) k
 |.extract x i=>match Jr env x with|.tup vs=>(match vs[i]? with|some v=>k v|none=>ε)|_=>ε
 |.makeFunc f a b=>match sU (a.toList.map (Jr env)),sU (b.toList.map (Jr env))with|some l,δ m=>k (.c (.raw (.fn f l m)))|_,_=>ε
 |.build t parts=>okT (AAm P t (parts.toList.map λp=>(p.1,Jr env p.2))) k
 |.call {callee:=.builtin .len,args:=⟨[x]⟩,argTypes:=⟨[t]⟩}=>AI8 P H t (Jr env x) k
 |.call {callee:=.builtin .max,args:=⟨[x,y]⟩,.. }=>mmT ζ (Jr env x) (Jr env y) k
 |.call {callee:=.builtin .min,args:=⟨[x,y]⟩,.. }=>mmT η (Jr env x) (Jr env y) k
 |.call {callee:=.builtin .min,args:=⟨[x,y,z]⟩,.. }=>AI9 (Jr env x) (Jr env y) (Jr env z) k
 |_=>ε
end
end Go.Ab
