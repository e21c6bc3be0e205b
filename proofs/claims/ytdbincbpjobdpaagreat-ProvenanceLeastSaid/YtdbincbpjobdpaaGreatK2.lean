/- Texts of wip, joined and shortened by wip/tools/pack.py; nothing is assumed. -/
import Derived.Test.YtdbincbpjobdpaaGreatK1
import Derived.Laws.MakeOwn
import Derived.RangeFuncNested
import Derived.Lib.ConvBytes
import Derived.Laws.AppendOwn
noncomputable section
set_option linter.all false
open Option renaming some->δ,none->ε,bind->σ
open Bool renaming true->ζ,false->η
open List renaming length->θ,replicate->ς
open Go.IntKind renaming wrap->ι
open BitVec renaming ofInt->κ,toNat->π
open Sum renaming elim->ν
open Nat renaming beq->ξ
open Int renaming toNat->ο
open Decidable renaming decide->τ
namespace Go.Ab
variable {N n:Nat}{R J:Type}{o:Oper}{b V:TypeId}{d Z:List Ac}{f W:Env}{c:Code}{g:Operand}{L:Array Bool}{H:Au}{j:World}{k:List Nat}{m:Option Nat}{p:FuncId}{i a:Int}{q:Array (Nat×Operand)}{r:Value}{s:Ac}{t:Act}{P:Program}{y:Array Oper}{z:Exit->Act->World->Prop}{h:Gh}{B:Exit->Env->Au->Prop}{C:IntKind}{I:Fk}{M:Nat→Prop}{O:List UInt8}{S:TypeDesc}{T:Op}{Y:Call}
section
variable {X:Nat->Prop}{h:Gh}{H:Au}{w:World}{N:Nat}{env env2:Env}
def FU.trans{g:Nat}{l m n:Env}{i j k:Au}(a:FU N g l i m j)(b:FU N g m j n k):FU N g l i n k:=⟨b.1,λX h d w s=>by obtain⟨o,u,e,r⟩:=a.2 X h d w s;obtain⟨p,v,f,t⟩:=b.2 X o d w u;exact⟨p,v,λid c=>⟨(f id c).1.trans (e id c).1,(f id c).2.1.trans (e id c).2.1,(f id c).2.2.trans (e id c).2.2⟩,λB q=>r B (t B q)⟩⟩
def FU.of_le{n0 j:Nat}{e:Au}(a:FU N j f H W e)(h:n0<=j):FU N n0 f H W e:=⟨Ct h a.1,λX g b w s=>by obtain⟨l,n,k,m⟩:=a.2 X g b w s;exact⟨l,n,λid c=>k id (DB c h),m⟩⟩
def FU.virt{t sz:Nat}(n:env.get t=.nils):FU N (θ H) env H (env.put t (.sl (θ H) 0 sz 0 0)) (H++[.live 0 []]):=by
 refine⟨k!,λX g d w s=>⟨g.at_ (θ H) ε 0 0,⟨s.sim.virt,?_,s.size⟩,λid f=>by simp[Gh.at_,Bl f],λB l=>?_⟩⟩;have r:(t,Ac.nils)∈env:=by rcases Nv (env:=env) (t:=t)with e|m;rw[n]at e;cases e;rw[n]at m;exact m
 have x:=G8.virt (h:=g) (H:=H) (w:=w);have a:=s.env.later (x.later X);intro u v m;unfold Env.put at m;rcases Aw.1 m with e|m;injection e with o p;subst o p;obtain⟨q,k⟩:=s.env _ _ r;refine⟨q,?_⟩;generalize d.tmps.getD u undef=c at k;cases k;exact .sl (by simp[cx]) (by simp[cx,Gh.at_]) ⟨_,_,rfl⟩ λ_=>.inl ⟨by simp[cx,Gh.at_],rfl,rfl,rfl⟩;exact a u v (BU.1 m).1;rcases(G8.virt (h:=g) (H:=H) (w:=w)).fresh B l with h|h;exact h;obtain⟨id,e,a,j,b⟩:=l;rcases Iz a with⟨i,a⟩|⟨rfl,rfl⟩;exact⟨id,e,a,j,by simpa[Gh.at_,Bl i]using b⟩;simp[Gh.at_]at b
end
def AA6(sz:Nat)(cs:List Ac)(rows:List Ac):Prop:=0<sz/\(∀e∈rows,θ e.cells=sz)/\rows.flatMap Ac.cells=cs
theorem oJ{sz:Nat}:∀{a:List Ac},(∀e∈a,θ e.cells=sz)->∀(j:Nat)(e:Ac)(i:Nat)(v:Ac),a[j]?=δ e->e.cells[i]?=δ v->(a.flatMap Ac.cells)[j*sz+i]?=δ v
 |e0::r,h,j,e,i,v,hj,hi=>by
  have b:=h e0 k!;simp;cases j with
  |zero=>grind
  |succ j=>rw[Ci q!,b,show(j+1)*sz+i-sz=j*sz+i from by grind];exact oJ (λe c=>h e (Ce _ c)) j e i v q! hi
def Bx.froze{id g sz n:Nat}{y:Cx}(s:I1 M h H j)(P:H[id]?=δ (Fk.live g d))(hr:AA6 sz d Z)(hn:θ Z=n)
  (R:(cx M h H j).Later y) (I:y.w=j) (F:∀B,h.io id=δ B->¬y.O B) (X:Bx (cx M h H j) (.sl id g sz 0 n) r):Bx y (.vs sz Z) r:=by
 obtain⟨x,k,rfl⟩:=hr;obtain⟨t,o⟩:=s.live id g _ P;cases X with
 |sl p q Y N=>
  rcases N t with⟨w,U,_,rfl⟩|⟨B,cap,w,m,C,rfl⟩;have:Z=[]:=EZ o!;subst this;exact Bx.vs (rows:=[]) (cap:=0) (λ_ _=>undef) (An _) x (λ_ _ h=>by simp at h) (λh=>(h rfl).elim) λ_ _ _ _ h=>by simp at h
  rcases o with⟨E,_⟩|⟨z,J,T,W,f,l,G,A,S,Q,b⟩;rw[E]at w;cases w;have:z=B:=by rw[w]at l;injection l with e;exact e.symm
  subst this;subst hn;refine .vs (λa i=>f (a*sz+i)) m x (λa e u=>k e (BN u)) (λV=>⟨z,0,rfl,F z w,?_,λa e i v u D=>?_⟩) λa e i v u D=>?_;rw[I];exact PP G;obtain⟨K,L,_⟩:=b _ v (oJ k a e i v u D);rw[DT,I,Pj (w:=j) G];exact⟨K,L⟩;exact(b _ v (oJ k a e i v u D)).2.2.later R
section
variable {X:Nat->Prop}{h:Gh}{H:Au}{w:World}
theorem dw(b:(H.take N)[n]?=δ I):n<N/\H[n]?=δ I:=q!
def gv{n0 B:Nat}(d:owned h (H.take n0) B):owned h H B:=by obtain⟨id,e,c,b,a⟩:=d;exact⟨id,e,(dw c).2,b,a⟩
def Bx.trunc(hn:N<=θ H)(a:Bx (cx X h H w) s r)(d:(s.idsAll λid=>decide (id<N))=ζ):Bx (cx X h (H.take N) w) s r:=by have:=Bx.ren (x:=cx X h H w) (y:=cx X h (H.take N) w) (ρ:=λi=>i) (p:=λid=>decide (id<N)) (λi e _=>⟨by simp[cx]at*;omega,rfl,rfl,rfl⟩) rfl (λB b=>by rcases b with b|b;exact .inl b;exact .inr (gv b)) a d;rwa [AAj (p:=λid=>decide (id<N)) (λ_ _=>rfl) s d]at this
theorem I1.trunc(s:I1 X h H w)(hn:N<=θ H)(E:∀e∈H.take N,(e.idsAll λid=>decide (id<N))=ζ):I1 X h (H.take N) w:=by refine⟨λB D=>⟨(s.out B D).1,λO=>(s.out B D).2 (gv O)⟩,λid g G c=>?_,λid L c=>?_,λid A e I B i k=>s.inj id A e I B (dw i).2 (dw k).2,s.bldKeep λid e c _=>⟨(dw c).2,rfl,rfl,rfl,λ_ _ _ _ _=>rfl⟩⟩;obtain⟨x,n⟩:=s.live id g G (dw c).2;refine⟨x,?_⟩;rcases n with⟨z,rfl⟩|⟨B,p,T,J,f,d,a,l,y,u,b⟩;exact .inl ⟨z,rfl⟩;refine .inr ⟨B,p,T,J,f,d,a,l,y,u,λj v F=>?_⟩;obtain⟨i,k,q⟩:=b j v F;exact⟨i,k,q.trunc hn (Ms (by simpa[Fk.idsAll]using E _ (BN c)) F)⟩;obtain⟨x,B,r,d,a,i,k,q,K,M,o,C⟩:=s.lp id L (dw c).2;refine⟨x,B,r,d,a,i,k,q,K,M,o,λt v m=>⟨(C t v m).1,(C t v m).2.trunc hn ?_⟩⟩;have P:=E _ (BN c);grind[Fk.idsAll]
end
def IR:List Oper->List Nat->List Nat
 |[],acc=>acc
 |o::r,acc=>IR r (acc++[o.after.toList.foldl (λs e=>if Region.binds .any e=ζ then s|||2^e.on|||acc.getD e.on 0 else s) 0])
def PM(m:List Nat)(i j:Nat):Bool:=(m.getD j 0).testBit i
def vg{b:List Nat}{i:Nat}:∀(l:List Edge)(s:Nat),(l.foldl (λs e=>if Region.binds .any e=ζ then s|||2^e.on|||b.getD e.on 0 else s) s).testBit i=ζ→
  s.testBit i=ζ\/∃e∈l,Region.binds .any e=ζ/\(e.on=i\/(b.getD e.on 0).testBit i=ζ)
 |[],s,h=>.inl h
 |e::l,s,h=>by simp only[Xn]at h;rcases vg l _ h with a|⟨f,d,c,g⟩;split at a;rename_i c;simp only[Nat.testBit_or,TU,Nat.testBit_two_pow]at a;rcases a with(a|a)|a;exact .inl a;exact .inr ⟨e,k!,c,.inl (by simpa using a)⟩;exact .inr ⟨e,k!,c,.inr a⟩;exact .inl a;exact .inr ⟨f,Ce _ d,c,g⟩
theorem Xq:∀(l:List Oper)(a:List Nat),(∀k,k<θ a→(IR l a)[k]?=a[k]?)∧
  ∀(p i:Nat)(o:Oper),l[p]?=δ o->PM (IR l a) i (θ a+p)=ζ->∃e∈o.after.toList,Region.binds .any e=ζ/\(e.on=i\/(e.on<θ a+p/\PM (IR l a) i e.on=ζ))
 |[],a=>⟨λ_ _=>rfl,λp i o h=>by simp at h⟩
 |o::l,a=>by
  simp only[IR];generalize g:o.after.toList.foldl (λs e=>if Region.binds .any e=ζ then s|||2^e.on|||a.getD e.on 0 else s) 0=x;obtain⟨m,c⟩:=Xq l (a++[x]);refine⟨λk r=>?_,λp i j t b=>?_⟩;grind;cases p with
  |zero=>
   have f:(IR l (a++[x])).getD (θ a) 0=x:=q!
   simp only[PM,Ol]at b;rw[f,<-g]at b;rcases vg _ _ b with d|⟨e,q,n,d⟩;grind;grind[PM]
  |succ p=>have:=c p i j q! q!;rw[show(a++[x]).length+p=θ a+(p+1)from by simp;omega]at this;exact this
section
variable {ops:Array Oper}
def wV(ops:Array Oper)(L:Array Bool):Prop:=∀(j:Nat)(o:Oper),ops[j]?=δ o->L.getD j η=ζ->∀e∈o.after,Region.binds .any e=ζ->L.getD e.on η=ζ
def dp{L:Array Bool}(k:wV ops L){i:Nat}:∀(n j:Nat)(o:Oper),j<n->ops[j]?=δ o->(∀e∈o.after,Region.binds .any e=ζ->L.getD e.on η=ζ)->PM (IR ops.toList []) i j=ζ->L.getD i η=ζ
 |0,_,_,h,_,_,_=>o!
 |n+1,j,o,hj,ho,hp,hm=>by
  obtain⟨e,r,q,h⟩:=(Xq ops.toList []).2 j i o (by simpa using ho) (by simpa using hm);have a:=hp e (by simpa using r) q;rcases h with rfl|⟨g,c⟩;exact a;have l:e.on<j:=by simpa using g
  cases b:ops[e.on]? with
  |none=>have:PM (IR ops.toList []) i e.on=ζ:=c;obtain⟨s,_⟩:=bc.1 ho;rw[xy]at b;omega
  |some m=>exact dp k n e.on m o! b (λp f d=>k e.on m b a p f d) c
def tmpsOf(o:Oper):List Nat:=o.op.operands.toList.filterMap λ|.tmp t=>δ t|_=>ε
def ZX(P:Program)(N:Nat)(o:Oper)(env:Env)(H:Au)(rd:List Nat)(v:Ac):Prop:=
 ∀(env':Env)(H':Au),(∀t∈tmpsOf o,env'.get t=env.get t)->(∀id∈rd,H'[id]?=H[id]?)->JV P N o env' H' λu H''=>u=v/\H''=H'
def Eff(P:Program)(N:Nat)(o:Oper)(env:Env)(H:Au)(F:List Nat)(K:Ac->Au->Prop):Prop:=
 (∀env':Env,(∀t∈tmpsOf o,env'.get t=env.get t)->JV P N o env' H K)/\∀v H',K v H'->∀id,id<θ H->id∉F->H'[id]?=H[id]?
def IJ(ops:Array Oper)(j:Nat):Bool:=
 match ops[j]? with
 |some o=>match o.op with|.alloc _=>ζ|_=>η
 |none=>η
def RA(P:Program)(N:Nat)(ops:Array Oper):List Nat->List (Nat×List Nat)->Env->Au->(Env->Au->Prop)->Prop
 |[],_,env,H,Q=>Q env H
 |i::r,pend,env,H,Q=>
  match ops[i]? with
  |none=>False
  |some o=>
   Xw ops o.guard env
    ((IJ ops i=η/\∃v rd,ZX P N o env H rd v/\(∀id∈rd,id<θ H)/\RA P N ops r ((i,rd)::pend) (env.putO o.dst v) H Q)\/
     (IJ ops i=η/\∃F,(∀j∈r,PM (IR ops.toList []) i j=ζ\/IJ ops j=ζ)/\(∀p∈pend,PM (IR ops.toList []) p.1 i=ζ\/∀id∈p.2,id∉F)/\
      ∃K,Eff P N o env H F K/\(∀v H',K v H'->θ H<=θ H')/\∀v H',K v H'->RA P N ops r pend (env.putO o.dst v) H' Q)\/
     ∃t z,o.op=.alloc t/\Yw P t=δ z/\(∀j∈r,PM (IR ops.toList []) i j=ζ\/IJ ops j=ζ)/\RA P N ops r pend (env.putO o.dst (.ptr (θ H) 0 0)) (H++[.live 0 z]) Q)
    (IJ ops i=η/\RA P N ops r ((i,[])::pend) (env.putO o.dst (.tup [])) H Q)
def V9(P:Program)(ops:Array Oper):Bool:=ops.toList.all λo=>match o.op with|.alloc t=>(Yw P t).isSome&&o.guard.isNone|_=>ζ
def VP(ops:Array Oper)(i:Nat):Option Nat:=(ops[i]?).bind (·.dst)
def ABj(ops:Array Oper)(N:Nat)(l:List Nat):Bool:=
 let m:=IR ops.toList []
 let n:=ops.size
 Oz N ops.toList&&
 (decide l.Nodup&&((List.range n).all λi=>l.contains i)&&l.all (λi=>decide (i<n)))&&
 ((List.range n).all λi=>match ops[i]? with
  |some o=>(o.after.toList.all λe=>!Region.binds .any e||decide (e.on<i))&&
    (match o.guard with|some (j,_)=>PM m j i&&τ (j<n)&&(VP ops j).isSome|none=>ζ)&&
    (match o.dst with
     |some d=>(List.range n).all λj=>decide (j=i)||(match ops[j]? with
       |some o'=>! τ (o'.dst=δ d)&&(!(tmpsOf o').contains d||PM m i j||PM m j i)
       |none=>ζ)
     |none=>ζ)
  |none=>ζ)&&
 (l.zipIdx.all λ(i,p)=>l.zipIdx.all λ(j,q)=>! τ (p<q)|| !PM m j i)
theorem GF(env:Env)(t u:Nat)(v:Ac):(env.put t v).get u=if u=t then v else env.get u:=by unfold Env.put;simp only[Env.get];by_cases h:t=u;grind;rw[D! h,D! (λe=>h e.symm)];induction env<;>grind[Env.get]
def KN(env:Env):Prop:=∀t v,(t,v)∈env->env.get t=v
theorem KN.put(h:KN f)(t:Nat)(v:Ac):KN (f.put t v):=by
 intro u x m;rw[GF];rcases Aw.1 m with e|m;grind;obtain⟨a,b⟩:=BU.1 m;have:u≠t:=q!
 rw[D! this];exact h u x a
def KN.putO(h:KN f)(t:Option Nat)(v:Ac):KN (f.putO t v):=by
 cases t with
 |none=>exact h
 |some t=>exact h.put t v
theorem dD:∀{env:Env},(env.map (·.1)).Nodup->KN env
 |[],_=>λ_ _ h=>by cases h
 |(k,w)::r,h=>by
  simp at h;intro t v m;simp only[Env.get];rcases Aw.1 m with e|m;grind;have:k≠t:=q!
  rw[D! this];exact dD h.2 t v m
end
structure W9(ops:Array Oper)(N:Nat)(l:List Nat):Prop where
 dsts:Oz N ops.toList=ζ
 nodup:l.Nodup
 all:∀i,i<ops.size->i∈l
 lt:∀i∈l,i<ops.size
 back:∀(i:Nat)(o:Oper),ops[i]?=δ o->∀e∈o.after,Region.binds .any e=ζ->e.on<i
 guard:∀(i:Nat)(o:Oper)(j:Nat)(b:Bool),ops[i]?=δ o->o.guard=δ (j,b)->PM (IR ops.toList []) j i=ζ/\j<ops.size/\∃d,VP ops j=δ d
 uniq:∀(i j d:Nat),VP ops i=δ d->VP ops j=δ d->i=j
 haz:∀(i j d:Nat)(o:Oper),VP ops i=δ d->ops[j]?=δ o->d∈tmpsOf o->i≠j->PM (IR ops.toList []) i j=ζ\/PM (IR ops.toList []) j i=ζ
 ord:∀(l1 l2:List Nat),l=l1++l2->∀i∈l1,∀j∈l2,PM (IR ops.toList []) j i=η
theorem YF(h:VP y N=δ n):∃o,y[N]?=δ o/\o.dst=δ n:=by grind[VP]
theorem V1{i:Nat}(h:y[i]?=δ o):i<y.size:=q!
theorem AAi(h:ABj y N k=ζ):W9 y N k:=by
 unfold ABj at h;simp only[BW]at h;obtain⟨⟨⟨x,⟨g,M⟩,z⟩,A⟩,B⟩:=h;have a:∀(i:Nat)(o:Oper),y[i]?=δ o->_:=λi o f=>by have:=GA.1 A i (Hw.2 (V1 f));rw[f]at this;simp only[BW]at this;exact this
 refine⟨x,by simpa using g,λi c=>?_,λi c=>by simpa using List.all_eq_true.1 z i c,λi o f e E C=>?_,λi o j b f F=>?_,λi j d c l=>?_,λi j d o c l n G=>?_,λl1 l2 w i c j l=>?_⟩;simp_all;have:=GA.1 (a i o f).1.1 e (by simpa using E);simpa[C]using this;have:=(a i o f).1.2;rw[F]at this;simp only[BW,K!]at this;exact⟨this.1.1,this.1.2,eQ.1 this.2⟩;obtain⟨o,f,n⟩:=YF c;obtain⟨O,m,r⟩:=YF l;have:=(a i o f).2;rw[n]at this;have:=GA.1 this j (Hw.2 (V1 m));rw[m]at this;simp only[r,decide_true,CM,o7,Bool.or_false,K!]at this;exact this.symm;obtain⟨L,u,s⟩:=YF c;have:=(a i L u).2;rw[s]at this;have:=GA.1 this j (Hw.2 (V1 l));rw[l]at this;have D:(tmpsOf o).contains d=ζ:=by simpa using n
 simp only[D,CM,Bool.false_or,TU,K!,BW]at this;rcases this with h|⟨_,h⟩;omega;exact h;obtain⟨p,H⟩:=DU c;obtain⟨q,I⟩:=DU l;have v:p<θ l1:=q!
 have J:(i,p)∈k.zipIdx:=by rw[sZ];rw[w,CT v];exact H
 have K:(j,θ l1+q)∈k.zipIdx:=by rw[sZ];rw[w,Ci o!];simpa using I
 have:=GA.1 (GA.1 B _ J) _ K;have t:p<θ l1+q:=o!
 simpa[t]using this
section
variable {P:Program}{N:Nat}{ops:Array Oper}{l:List Nat}{Q:Env->Au->Prop}{env0:Env}{X:Nat->Prop}{h0:Gh}{H0:Au}{w0:World}{ds0:List Deferred}
def Opd(ops:Array Oper)(env0:Env)(v:Nat->Ac)(i:Nat)(o:Oper)(ei:Env):Prop:=
 ∀t∈tmpsOf o,(∀k,k≠i->VP ops k=δ t->PM (IR ops.toList []) k i=ζ->ei.get t=v k)/\
  ((∀k,k≠i->VP ops k=δ t->PM (IR ops.toList []) k i=η)->ei.get t=env0.get t)
def UM(v:Nat->Ac)(o:Oper)(r:Bool):Prop:=
 match o.guard with
 |none=>r=ζ
 |some (j,want)=>(∃b,v j=.bool b/\r=(b==want))\/(v j=.tup []/\r=η)
def XR(X:Nat->Prop)(early:Nat->Option Nat)(B:Nat):Prop:=X B\/∃i,early i=δ B
structure Inv(P:Program)(N:Nat)(ops:Array Oper)(l:List Nat)(Q:Env→Au→Prop)(env0:Env)(X:Nat→Prop)(h0:Gh)(H0:Au)(w0:World)(ds0:List Deferred)
  (l1 l2:List Nat) (v:Nat->Ac) (pend:List (Nat×List Nat)) (env:Env) (H:Au) (h:Gh) (early:Nat->Option Nat) (L:Array Bool) (a:Act) (w:World):Prop where
 split:l=l1++l2
 ra:RA P N ops l2 pend env H Q
 kn:KN env
 keys:∀t u,(t,u)∈env->t<N
 env1:∀k∈l1,∀t,VP ops k=δ t->env.get t=v k
 env2:∀t,(∀k∈l1,VP ops k≠δ t)->env.get t=env0.get t
 sim:I1 (XR X early) h H w
 nodefer:a.defers=ds0
 size:a.tmps.size=N
 slot1:∀k t,L.getD k η=ζ->early k=ε->VP ops k=δ t->Bx (cx (XR X early) h H w) (v k) (a.tmps.getD t undef)
 slot2:∀t,(∀k,L.getD k η=ζ->VP ops k≠δ t)->Bx (cx (XR X early) h H w) (env0.get t) (a.tmps.getD t undef)
 sub:∀i,L.getD i η=ζ->early i=ε->i∈l1
 lsz:L.size=ops.size
 closed:wV ops L
 pendq:∀i∈l1,L.getD i η=η->∃o,ops[i]?=δ o/\IJ ops i=η/\((UM v o η/\v i=.tup [])\/
  (UM v o ζ/\∃rd ei,(i,rd)∈pend/\(∀id∈rd,id<θ H)/\KN ei/\(∀t u,(t,u)∈ei->t<N)/\Opd ops env0 v i o ei/\ZX P N o ei H rd (v i)))
 ext:G8 h0 H0 w0 h H w
 early1:∀i B,early i=δ B->i∈l2/\L.getD i η=ζ/\w0.heap.size<=B/\B<w.heap.size/\∃(o:Oper)(t:TypeId)(z:List Ac)(arr:Array Value),ops[i]?=δ o/\o.op=.alloc t/\Yw P t=δ z/\
  w.heap[B]?=δ (.cells arr t (0,0))/\Bx (cx (XR X early) h H w) (.agg z) (.agg arr)/\∀d,o.dst=δ d->a.tmps.getD d undef=.pointer (δ ⟨B,0,ε⟩)
 early2:∀i j B,early i=δ B->early j=δ B->i=j
def look(o:Oper)(ei:Env):Env:=ei.filter λp=>(tmpsOf o).contains p.1
theorem yq(o:Oper)(a:Env):∀t∈tmpsOf o,(look o a).get t=a.get t:=by unfold look;induction a<;>grind[Env.get]
variable {l1 l2:List Nat}{v:Nat->Ac}{pend:List (Nat×List Nat)}{env:Env}{H:Au}{h:Gh}{early:Nat->Option Nat}{L:Array Bool}{a:Act}{w:World}
def Inv.opd(ok:W9 ops N l)(I:Inv P N ops l Q env0 X h0 H0 w0 ds0 l1 l2 v pend env H h early L a w)(m:l2=n::k)(s:ops[n]?=δ o):Opd ops env0 v n o env:=by
 intro t u;have i:n∉l1:=by intro b;have:=ok.nodup;rw[I.split,m]at this;exact(Oj.1 this).2.2 n b n k! rfl
 refine⟨λr q c g=>?_,λp=>?_⟩;refine I.env1 r ?_ t c;obtain⟨x,f,_⟩:=YF c;have b:=ok.all r (V1 f);rw[I.split,Ak]at b;rcases b with b|b;exact b;rw[m]at b;rcases Aw.1 b with e|b;exact(q e).elim;have:=ok.ord (l1++[n]) k (by rw[I.split,m];simp) n k! r b;rw[g]at this;cases this;refine I.env2 t λr b c=>?_;have d:r≠n:=λe=>i (e▸b);rcases ok.haz r n t o c s u d with j|j;rw[p r d c]at j;cases j;have:=ok.ord l1 l2 I.split r b n (by rw[m];simp);rw[j]at this;cases this
def Inv.look(ok:W9 ops N l)(I:Inv P N ops l Q env0 X h0 H0 w0 ds0 l1 l2 v pend env H h early L a w)(y:ops[n]?=δ o)(p:L.getD n η=η)
  (J:∀e∈o.after,Region.binds .any e=ζ->L.getD e.on η=ζ) (x:∀k,PM (IR ops.toList []) k n=ζ->early k=ε)  (kn:KN f) (G:∀t u,(t,u)∈f->t<N) (i:Opd ops env0 v n o f):OZ (cx (XR X early) h H w) (look o f) a:=by
 intro t u m;obtain⟨B,K⟩:=BU.1 m;have z:t∈tmpsOf o:=by simpa using K
 refine⟨by rw[I.size];exact G t u B,?_⟩;rw[<-kn t u B];obtain⟨D,E⟩:=i t z;by_cases A:∃k,k≠n/\VP ops k=δ t/\PM (IR ops.toList []) k n=ζ;obtain⟨k,b,d,c⟩:=A;rw[D k b d c];exact I.slot1 k t (dp I.closed (n+1) n o o! y J c) (x k c) d;have g:∀k,k≠n->VP ops k=δ t->PM (IR ops.toList []) k n=η:=by
  intro k b d;cases s:PM (IR ops.toList []) k n with
  |false=>rfl
  |true=>exact(A ⟨k,b,d,s⟩).elim
 rw[E g];refine I.slot2 t λk q d=>?_;by_cases b:k=n;subst b;rw[p]at q;cases q;rcases ok.haz k n t o d y z b with r|r;rw[g k b d]at r;cases r;obtain⟨C,j,_⟩:=YF d;have:=dp I.closed (k+1) k C o! j (λe F s=>I.closed k C j q e F s) r;rw[p]at this;cases this
theorem Inv.wanted(ok:W9 ops N l)(I:Inv P N ops l Q env0 X h0 H0 w0 ds0 l1 l2 v pend env H h early L a w)(y:ops[n]?=δ o)(s:∀k,PM (IR ops.toList []) k n=ζ→early k=ε)
  (C:∀e∈o.after,Region.binds .any e=ζ->L.getD e.on η=ζ) {r:Bool} (u:UM v o r):Region.wanted o (yielded ops a.tmps)=r:=by
 unfold UM at u;unfold Region.wanted;cases x:o.guard with
 |none=>grind
 |some p=>
  obtain⟨j,want⟩:=p;rw[x]at u;obtain⟨f,F,d,i⟩:=ok.guard n o j want y x;have q:=dp I.closed (n+1) n o o! y C f;have hr:=I.slot1 j d q (s j f) i;have A:d<a.tmps.size:=by obtain⟨E,B,z⟩:=YF i;have:=GA.1 ok.dsts E q!;grind[I.size]
  rcases u with⟨b,t,rfl⟩|⟨t,rfl⟩
  case inr=>
   rw[t]at hr;obtain⟨m,g⟩:∃m,a.tmps.getD d undef=.tuple m:=by generalize a.tmps.getD d undef=c at hr;cases hr;grind
   have D:yielded ops a.tmps j=ε:=by unfold yielded;rw[show(ops[j]?).bind (·.dst)=δ d from i];simp_all
   grind
  rw[t]at hr;have g:a.tmps.getD d undef=.bool b:=by generalize a.tmps.getD d undef=c at hr;cases hr;rfl
  have D:yielded ops a.tmps j=δ b:=by unfold yielded;rw[show(ops[j]?).bind (·.dst)=δ d from i];simp_all
  grind
def Inv.noEarly(ok:W9 ops N l)(I:Inv P N ops l Q env0 X h0 H0 w0 ds0 l1 l2 v pend env H h early L a w)(d:n∈l1\/∃r,l2=n::r):∀k,PM (IR ops.toList []) k n=ζ->k≠n->early k=ε:=by
 intro k c f;cases g:early k with
 |none=>rfl
 |some B=>have b:=(I.early1 k B g).1;rcases d with d|⟨r,rfl⟩;have:=ok.ord l1 l2 I.split n d k b;rw[c]at this;cases this;rcases Aw.1 b with e|b;exact(f e).elim;have:=ok.ord (l1++[n]) r (by rw[I.split];simp) n k! k b;rw[c]at this;cases this
theorem HF{i:Nat}(a:i<L.size)(j:Nat):(L.setIfInBounds i ζ).getD j η=if j=i then ζ else L.getD j η:=by rw[QZ,QZ];grind
theorem Sn(b:∀a,m=δ a->a<t.tmps.size)(a:Nat):(t.put m r).tmps.getD a undef=if m=δ a then r else t.tmps.getD a undef:=by
 cases m with
 |none=>simp[Act.put]
 |some m=>simp only[Act.put];rw[QZ,QZ];grind
theorem mz(f:wV ops L)(h:N<L.size)(l:ops[N]?=δ o)(m:∀e∈o.after,Region.binds .any e=ζ->L.getD e.on η=ζ):wV ops (L.setIfInBounds N ζ):=by intro j k c a e g d;rw[HF h]at a⊢;by_cases b:j=N;grind;rw[D! b]at a;rw[f j k c a e g d];simp
end
section
variable {P:Program}{N:Nat}{ops:Array Oper}{l:List Nat}{Q:Env->Au->Prop}{env0:Env}{X:Nat->Prop}{h0:Gh}{H0:Au}{w0:World}{ds0:List Deferred}
variable {l1 l2:List Nat}{v:Nat->Ac}{pend:List (Nat×List Nat)}{env:Env}{H:Au}{h:Gh}{early:Nat->Option Nat}{L:Array Bool}{a:Act}{w:World}
theorem pZ(ok:W9 ops N l)(a:ops[n]?=δ o):∀t,o.dst=δ t->t<N:=by have:=GA.1 ok.dsts o q!;grind
theorem F7(a:ops[N]?=δ o):VP ops N=o.dst:=by grind[VP]
def Inv.done(ok:W9 ops N l)(I:Inv P N ops l Q env0 X h0 H0 w0 ds0 l1 l2 v pend env H h early L a w){i:Nat}(p:ops[i]?=δ o)(r:i∈l1)(ad:L.getD i η=η)
  (hp:∀e∈o.after,Region.binds .any e=ζ->L.getD e.on η=ζ) {c:Value}{A:Gh}  (sim:I1 (XR X early) A H j) (x:G8 h H w A H j) (hv:Bx (cx (XR X early) A H j) (v i) c):
  Inv P N ops l Q env0 X h0 H0 w0 ds0 l1 l2 v pend env H A early (L.setIfInBounds i ζ) (a.put o.dst c) j:=by
 have n:i<L.size:=by rw[I.lsz];exact V1 p
 have F:∀t,o.dst=δ t->t<a.tmps.size:=λt ht=>by rw[I.size];exact pZ ok p t ht
 have O:=x.later (XR X early);have s:i∉l2:=by intro hm;have:=ok.nodup;rw[I.split]at this;exact(Oj.1 this).2.2 i r i hm rfl
 refine{split:=I.split,ra:=I.ra,kn:=I.kn,keys:=I.keys,env1:=I.env1,env2:=I.env2,sim:=sim,nodefer:=?_,size:=(dt _ _ _).trans I.size,slot1:=λk t m M f=>?_,slot2:=λt y=>?_,sub:=λC G J=>?_,lsz:=by rw[o0];exact I.lsz,closed:=mz I.closed n p hp,pendq:=λk K g=>?_,ext:=I.ext.trans x,early1:=λk B m=>?_,early2:=I.early2};rw[show(a.put o.dst c).defers=a.defers by cases o.dst<;>rfl];exact I.nodefer;rw[Sn F];rw[HF n]at m;by_cases b:k=i;subst b;rw[F7 p]at f;rw[C! f];exact hv;rw[D! b]at m;rw[D! (λe=>b (ok.uniq k i t f (by rw[F7 p];exact e)))];exact(I.slot1 k t m M f).later O;rw[Sn F];have R:o.dst≠δ t:=by have:=y i (by rw[HF n,C! rfl]);rwa [F7 p]at this
 rw[D! R];refine(I.slot2 t λk m=>y k ?_).later O;rw[HF n];split;rfl;exact m;rw[HF n]at G;by_cases u:C=i;subst u;exact r;rw[D! u]at G;exact I.sub C G J;rw[HF n]at g;by_cases b:k=i;subst b;simp at g;rw[D! b]at g;exact I.pendq k K g;obtain⟨S,V,W,T,o',t,z,D,U,Y,Z,e8,e9,E⟩:=I.early1 k B m;have b:k≠i:=λe=>s (e▸S);refine⟨S,by rw[HF n,D! b];exact V,W,DB T x.size,o',t,z,D,U,Y,Z,?_,e9.later O,λd q=>?_⟩;exact(x.keep B T (I.sim.out B (.inr ⟨k,m⟩)).2).trans e8;rw[Sn F,D! (λe=>b (ok.uniq k i d (by rw[F7 U];exact q) (by rw[F7 p];exact e)))];exact E d q
def Inv.next(ok:W9 ops N l)(I:Inv P N ops l Q env0 X h0 H0 w0 ds0 l1 l2 v pend env H h early L a w){i:Nat}(hl:l2=i::k)(U:ops[i]?=δ o){pend':List (Nat×List Nat)}
  (F:IJ ops i=η) (bl:RA P N ops k pend' (env.putO o.dst s) H Q) (bb:∀p∈pend,p∈pend')
  (hq:(UM v o η/\s=.tup [])\/(UM v o ζ/\∃rd,(i,rd)∈pend'/\(∀id∈rd,id<θ H)/\ZX P N o env H rd s)):
  ∃S,Inv P N ops l Q env0 X h0 H0 w0 ds0 (l1++[i]) k S pend' (env.putO o.dst s) H h early L a w:=by
 have a0:=I.opd ok hl U;have ar:=ok.nodup;rw[I.split,hl]at ar;have Y:i∉l1:=λhm=>(Oj.1 ar).2.2 i hm i k! rfl;have ao:early i=ε:=by
  cases he:early i with
  |none=>rfl
  |some B=>obtain⟨_,_,_,_,o',t,z,bz,e5,e6,_⟩:=I.early1 i B he;unfold IJ at F;rw[e5]at F;simp only[e6]at F;cases F
 have bt:L.getD i η=η:=by
  cases O:L.getD i η with
  |false=>rfl
  |true=>exact(Y (I.sub i O ao)).elim
 let S:Nat->Ac:=λu=>if u=i then s else v u;have E:∀u,u≠i->S u=v u:=λu f=>by simp[S,f]
 have a1:S i=s:=by simp[S]
 have T:∀t,(env.putO o.dst s).get t=if o.dst=δ t then s else env.get t:=by
  intro t;cases o.dst with
  |none=>simp[Env.putO]
  |some d=>simp only[Env.putO,GF,Ao];by_cases h:d=t;subst h;simp;rw[D! h,D! (λe=>h e.symm)]
 have ad:PM (IR ops.toList []) i i=ζ->False:=by
  intro O;obtain⟨e,he,bG,J⟩:=(Xq ops.toList []).2 i i o (by simpa using U) (by simpa using O);have al:∀(n j u:Nat),j<n->PM (IR ops.toList []) u j=ζ->u<j:=by
   intro n;induction n with
   |zero=>intro j u h;omega
   |succ n ih=>
    intro j u hj O;cases Z:ops[j]? with
    |none=>
     have bm:ops.size<=j:=xy.1 Z;have ap:∀(l:List Oper)(M:List Nat),(IR l M).length=θ M+θ l:=by
      intro l;induction l with
      |nil=>intro M;rfl
      |cons o l ih=>intro M;simp only[IR,ih];simp;omega
     have:(IR ops.toList []).getD j 0=0:=by rw[Ns,Cn (by rw[ap];simpa using bm)];rfl
     unfold PM at O;rw[this]at O;simp at O
    |some oj=>obtain⟨e,he,a3,y⟩:=(Xq ops.toList []).2 j u oj (by simpa using Z) (by simpa using O);have bN:=ok.back j oj Z e (by simpa using he) a3;rcases y with y|⟨y,h3⟩;omega;have:=ih e.on u o! h3;omega
  have:=al (i+1) i i o! O;omega
 have a2:∀{u:Nat}{r:Oper}{ei:Env},u∈l1->ops[u]?=δ r->Opd ops env0 v u r ei->Opd ops env0 S u r ei:=by intro u r ei a5 R a' t ht;obtain⟨c1,c2⟩:=a' t ht;refine⟨λq hq K A=>?_,c2⟩;rw[c1 q hq K A,E];rintro rfl;have:=ok.ord l1 l2 I.split u a5 q (by rw[hl];simp);rw[A]at this;cases this
 have c:∀{o':Oper}{b:Bool},(∀j want,o'.guard=δ (j,want)->j≠i)->UM v o' b->UM S o' b:=by
  intro o' b a9 hw;unfold UM at hw⊢;cases W:o'.guard with
  |none=>rw[W]at hw;exact hw
  |some p=>obtain⟨j,want⟩:=p;rw[W]at hw;simp only at hw⊢;rw[E j (a9 j want W)];exact hw
 refine⟨S,{split:=by rw[I.split,hl];simp,ra:=bl,kn:=I.kn.putO _ _,keys:=λt x m=>?_,env1:=λu f t K=>?_,env2:=λt ax=>?_,sim:=I.sim,nodefer:=I.nodefer,size:=I.size,slot1:=λu t f a7 K=>?_,slot2:=I.slot2,sub:=λj hj a4=>HS _ (I.sub j hj a4),lsz:=I.lsz,closed:=I.closed,pendq:=λu f a8=>?_,ext:=I.ext,early1:=λu B f=>?_,early2:=I.early2}⟩;cases G:o.dst with
 |none=>rw[G]at m;exact I.keys t x m
 |some d=>rw[G]at m;simp only[Env.putO,Env.put]at m;rcases Aw.1 m with e|m;injection e with e1 _;subst e1;exact pZ ok U t G;exact I.keys t x (BU.1 m).1
 rw[T];rcases Ak.1 f with f|f;have C:u≠i:=λe=>Y (e▸f);rw[E u C,D! (λe=>C (ok.uniq u i t K (by rw[F7 U];exact e)))];exact I.env1 u f t K;have:u=i:=by simpa using f
 subst this;rw[F7 U]at K;rw[C! K,a1];rw[T];have J:o.dst≠δ t:=by have:=ax i k!;rwa [F7 U]at this
 rw[D! J];exact I.env2 t λu f=>ax u (HS _ f);have C:u≠i:=by rintro rfl;rw[bt]at f;cases f
 rw[E u C];exact I.slot1 u t f a7 K;rcases Ak.1 f with D|D;have C:u≠i:=λe=>Y (e▸D);obtain⟨r,R,a6,V⟩:=I.pendq u D a8;have g:∀j want,r.guard=δ (j,want)->j≠i:=by rintro j want W rfl;have:=(ok.guard u r j want R W).1;have y:=ok.ord l1 l2 I.split u D j (by rw[hl];simp);rw[this]at y;cases y
 refine⟨r,R,a6,?_⟩;rw[E u C];rcases V with⟨J,y⟩|⟨J,rd,ei,y,h3,h4,h5,h6,h7⟩;exact .inl ⟨c g J,y⟩;exact .inr ⟨c g J,rd,ei,bb _ y,h3,h4,h5,a2 D R h6,h7⟩;have:u=i:=by simpa using D
 subst this;have g:∀j want,o.guard=δ (j,want)->j≠u:=by rintro j want W rfl;exact ad (ok.guard j o j want U W).1
 refine⟨o,U,F,?_⟩;rw[a1];rcases hq with⟨J,y⟩|⟨J,rd,y,h3,h4⟩;exact .inl ⟨c g J,y⟩;refine .inr ⟨c g J,rd,env,y,h3,I.kn,I.keys,λt ht=>?_,h4⟩;obtain⟨c1,c2⟩:=a0 t ht;exact⟨λq hq K A=>by rw[c1 q hq K A,E q hq],c2⟩;obtain⟨e1,e2⟩:=I.early1 u B f;rw[hl]at e1;rcases Aw.1 e1 with e|e1;rw[e,ao]at f;cases f;exact⟨e1,e2⟩
def Inv.guardW(ok:W9 ops N l)(I:Inv P N ops l Q env0 X h0 H0 w0 ds0 l1 l2 v pend env H h early L a w)(F:l2=n::k)(C:ops[n]?=δ o){A B:Prop}(c:Xw ops o.guard env A B):
  (UM v o ζ/\A)\/(UM v o η/\B):=by
 unfold Xw at c;unfold UM;cases s:o.guard with
 |none=>rw[s]at c;exact .inl ⟨rfl,c⟩
 |some p=>
  obtain⟨j,want⟩:=p;rw[s]at c;simp only at c⊢;obtain⟨f,R,d,J⟩:=ok.guard n o j want C s;have E:j∈l1:=by
   have g:=ok.all j R;rw[I.split,Ak]at g;rcases g with g|g;exact g;rw[F]at g;rcases Aw.1 g with e|g;subst e;have G:=ok.back;exfalso;have z:=I.opd ok F C;obtain⟨e,K,O,U⟩:=(Xq ops.toList []).2 j j o (by simpa using C) (by simpa using f);have u:∀(i q r:Nat),q<i->q<=j->PM (IR ops.toList []) r q=ζ->r<q:=by
    intro i;induction i with
    |zero=>intro q r h;omega
    |succ i T=>
     intro q r V S t;have x:q<ops.size:=by have:=V1 C;omega
     obtain⟨e,K,D,z⟩:=(Xq ops.toList []).2 q r ops[q] (by simp[x]) (by simpa using t);have G:=ok.back q ops[q] (by simp[x]) e (by simpa using K) D;rcases z with z|⟨z,M⟩;omega;have:=T e.on r o! o! M;omega
   have:=u (j+1) j j o! (An _) f;omega;have:=ok.ord (l1++[n]) k (by rw[I.split,F];simp) n k! j g;rw[f]at this;cases this
  have y:WU ops env j=v j:=by unfold WU;rw[show(ops[j]?).bind (·.dst)=δ d from J];exact I.env1 j E d J
  rw[y]at c;split at c;rename_i b t;by_cases m:b=want;exact .inl ⟨.inl ⟨b,t,by simp[m]⟩,c.1 m⟩;exact .inr ⟨.inl ⟨b,t,by simp[m]⟩,c.2 (by cases b<;>cases want<;>simp_all)⟩;rename_i t;exact .inr ⟨.inr ⟨t,O!⟩,c⟩;exact c.elim
end
section
variable {P:Program}{N:Nat}{ops:Array Oper}{l:List Nat}{Q:Env->Au->Prop}{env0:Env}{X:Nat->Prop}{h0:Gh}{H0:Au}{w0:World}{ds0:List Deferred}
theorem WV(a:ops[N]?=δ o):IJ ops N=ζ↔∃t,o.op=.alloc t:=by grind[IJ]
theorem eS(h:V9 P ops=ζ)(i:ops[N]?=δ o)(a:o.op=.alloc b):(∃z,Yw P b=δ z)/\o.guard=ε:=by have:=GA.1 h o (by rw[Array.mem_toList_iff];exact vH i);rw[a]at this;simp at this;grind[Option.isSome_iff_exists]
def Inv.adopt(ok:W9 ops N l)(ha:V9 P ops=ζ)(hX:∀B,X B→B<w0.heap.size){l1:List Nat}{v:Nat→Ac}{a6:List (Nat×List Nat)}{env:Env}{H:Au}{h:Gh}{early:Nat→Option Nat}{L:Array Bool}{a:Act}{w:World}
  {i:Nat}{r:List Nat} (I:Inv P N ops l Q env0 X h0 H0 w0 ds0 l1 (i::r) v a6 env H h early L a w) {B:Nat} (hB:early i=δ B):
  ∃v' Z H' h' c,Inv P N ops l Q env0 X h0 H0 w0 ds0 (l1++[i]) r v' a6 Z H' h' c L a w:=by
 obtain⟨e1,e2,e3,e4,o,t,z,T,O,ao,hz,bG,b8,bm⟩:=I.early1 i B hB;have cm:IJ ops i=ζ:=(WV O).2 ⟨t,ao⟩;have hg:=(eS ha O ao).2;have a1:=I.ra;simp only[RA,O,hg,Xw,cm,Bool.true_eq_false,false_and,false_or]at a1;obtain⟨K,z',a4,cb,_,a1⟩:=a1;rw[ao]at a4;injection a4 with et;subst et;rw[hz]at cb;injection cb with ez;subst ez;have b7:=ok.nodup;rw[I.split]at b7;have b2:i∉l1:=λhm=>(Oj.1 b7).2.2 i hm i k! rfl;let u:Ac:=.ptr (θ H) 0 0;let v':Nat->Ac:=λk=>if k=i then u else v k;have ar:∀k,k≠i->v' k=v k:=λk M=>by simp[v',M]
 have b':v' i=u:=by simp[v']
 let c:Nat->Option Nat:=λk=>if k=i then ε else early k;have V:∀k C,c k=δ C->k≠i/\early k=δ C:=by intro k C M;simp only[c]at M;split at M;cases M;exact⟨v!,M⟩
 have a2:∀t,(env.putO o.dst u).get t=if o.dst=δ t then u else env.get t:=by
  intro t;cases o.dst with
  |none=>simp[Env.putO]
  |some d=>simp only[Env.putO,GF,Ao];by_cases h:d=t;subst h;simp;rw[D! h,D! (λe=>h e.symm)]
 have ce:∀{k:Nat}{J:Oper}{ei:Env},k∈l1->ops[k]?=δ J->Opd ops env0 v k J ei->Opd ops env0 v' k J ei:=by intro k J ei a9 a0 ao t ht;obtain⟨c1,c2⟩:=ao t ht;refine⟨λq hq hd a5=>?_,c2⟩;rw[c1 q hq hd a5,ar];rintro rfl;have:=ok.ord l1 (q::r) I.split k a9 q k!;rw[a5]at this;cases this
 have S:∀{o':Oper}{b:Bool},(∀j want,o'.guard=δ (j,want)->j≠i)->UM v o' b->UM v' o' b:=by
  intro o' b bl hw;unfold UM at hw⊢;cases hg:o'.guard with
  |none=>rw[hg]at hw;exact hw
  |some p=>obtain⟨j,want⟩:=p;rw[hg]at hw;simp only at hw⊢;rw[ar j (bl j want hg)];exact hw
 have ap:∀C,owned (h.at_ (θ H) (δ B) 0 T.size) (H++[.live 0 z]) C->owned h H C\/C=B:=by rintro C ⟨id,e,he,bl,R⟩;rcases Iz he with⟨s,he⟩|⟨rfl,rfl⟩;exact .inl ⟨id,e,he,bl,by simpa[Gh.at_,Bl s]using R⟩;simp[Gh.at_]at R;exact .inr R.symm
 have hl:(cx (XR X early) h H w).Later (cx (XR X c) (h.at_ (θ H) (δ B) 0 T.size) (H++[.live 0 z]) w):=by refine⟨An _,λ_ _ _ _=>rfl,λC _ hO=>?_,by simp[cx],λid A=>by simp only[cx]at A;simp[cx,Gh.at_,Bl A],λid A _=>by simp only[cx]at A;simp[cx,Gh.at_,Bl A]⟩;rcases hO with(hO|⟨k,M⟩)|hO;exact .inl (.inl hO);exact .inl (.inr ⟨k,(V k C M).2⟩);rcases ap C hO with hO|rfl;exact .inr hO;exact .inl (.inr ⟨i,hB⟩)
 have b6:¬owned h H B:=(I.sim.out B (.inr ⟨i,hB⟩)).2;have b9:I1 (XR X c) (h.at_ (θ H) (δ B) 0 T.size) (H++[.live 0 z]) w:=by
  refine⟨λC U=>?_,λid g cs he=>?_,λid L' he=>?_,λid cv e e' C h1 h2 b4 b5 h3 h4=>?_,I.sim.bldKeep λid e he hB=>?_⟩;have ca:XR X early C:=by rcases U with U|⟨k,M⟩;exact .inl U;exact .inr ⟨k,(V k C M).2⟩
  refine⟨(I.sim.out C ca).1,λO=>?_⟩;rcases ap C O with O|rfl;exact(I.sim.out C ca).2 O;rcases U with U|⟨k,M⟩;have:=hX C U;omega;obtain⟨k1,k2⟩:=V k C M;exact k1 (I.early2 k i C k2 hB);rcases Iz he with⟨s,al⟩|⟨rfl,e⟩;obtain⟨hg,b0⟩:=I.sim.live id g cs al;refine⟨by simpa[cx,Gh.at_,Bl s]using hg,?_⟩;rcases b0 with⟨hn,rfl⟩|⟨B1,Y,T',ci,f,R,hb,bN,bb,a8,D⟩;exact .inl ⟨by simpa[cx,Gh.at_,Bl s]using hn,rfl⟩;refine .inr ⟨B1,Y,T',ci,f,by simpa[cx,Gh.at_,Bl s]using R,hb,by simpa[cx,Gh.at_,Bl s]using bN,bb,a8,λj v hj=>?_⟩;obtain⟨p1,p2,p3⟩:=D j v hj;exact⟨p1,p2,p3.later hl⟩;injection e with e1 e2;subst e1 e2;obtain⟨f,bb,a8,D⟩:=P6 (b8.later hl);exact⟨by simp[cx,Gh.at_],.inr ⟨B,T,t,(0,0),f,by simp[cx,Gh.at_],bG,by simp[cx,Gh.at_],bb,a8,D⟩⟩;rcases Iz he with⟨s,al⟩|⟨rfl,e⟩;obtain⟨hg,B1,r1,R,hb,p1,p2,p3,p4,p5,p6,p7⟩:=I.sim.lp id L' al;exact⟨by simpa[cx,Gh.at_,Bl s]using hg,B1,r1,by simpa[cx,Gh.at_,Bl s]using R,hb,p1,p2,p3,p4,p5,p6,λt v m=>⟨(p7 t v m).1,(p7 t v m).2.later hl⟩⟩;cases e;rcases Iz h1 with⟨cc,bt⟩|⟨rfl,_⟩<;>rcases Iz h2 with⟨cd,bz⟩|⟨rfl,_⟩;exact I.sim.inj _ _ _ _ C bt bz b4 b5 (by simpa[Gh.at_,Bl cc]using h3) (by simpa[Gh.at_,Bl cd]using h4);simp[Gh.at_]at h4;subst h4;exact(b6 ⟨id,e,bt,b4,by simpa[Gh.at_,Bl cc]using h3⟩).elim;simp[Gh.at_]at h3;subst h3;exact(b6 ⟨cv,e',bz,b5,by simpa[Gh.at_,Bl cd]using h4⟩).elim;rfl;rcases Iz he with⟨s,al⟩|⟨rfl,e⟩;exact⟨al,by simp[Gh.at_,Bl s],by simp[Gh.at_,Bl s],by simp[Gh.at_,Bl s],λ_ _ _ _ _=>rfl⟩;subst e;cases hB
 have b1:G8 h0 H0 w0 (h.at_ (θ H) (δ B) 0 T.size) (H++[.live 0 z]) w:=by have x:=I.ext;refine⟨x.os,x.tape,x.output,x.size,x.keep,by have:=x.n;simp;omega,λid A=>?_,λid A e=>?_,λC O=>?_,x.loops⟩;have s:id<θ H:=DB A x.n;simpa[Gh.at_,Bl s]using x.gen id A;have s:id<θ H:=DB A x.n;have:=x.same id A (by simpa[Gh.at_,Bl s]using e);simpa[Gh.at_,Bl s]using this;rcases ap C O with O|rfl;exact x.fresh C O;exact .inr e3
 refine⟨v',env.putO o.dst u,H++[.live 0 z],h.at_ (θ H) (δ B) 0 T.size,c,?_⟩;refine{split:=by rw[I.split];simp,ra:=a1,kn:=I.kn.putO _ _,keys:=λK y m=>?_,env1:=λk F K E=>?_,env2:=λK ax=>?_,sim:=b9,nodefer:=I.nodefer,size:=I.size,slot1:=λk K F ct E=>?_,slot2:=λK ax=>(I.slot2 K ax).later hl,sub:=λj hj cn=>?_,lsz:=I.lsz,closed:=I.closed,pendq:=λk a9 a'=>?_,ext:=b1,early1:=λk C M=>?_,early2:=λk j C h1 h2=>I.early2 k j C (V k C h1).2 (V j C h2).2};cases ad:o.dst with
 |none=>rw[ad]at m;exact I.keys K y m
 |some d=>rw[ad]at m;simp only[Env.putO,Env.put]at m;rcases Aw.1 m with e|m;injection e with e1 _;subst e1;exact pZ ok O K ad;exact I.keys K y (BU.1 m).1
 rw[a2];rcases Ak.1 F with F|F;have G:k≠i:=λe=>b2 (e▸F);rw[ar k G,D! (λe=>G (ok.uniq k i K E (by rw[F7 O];exact e)))];exact I.env1 k F K E;have:k=i:=by simpa using F
 subst this;rw[F7 O]at E;rw[C! E,b'];rw[a2];have h1:o.dst≠δ K:=by have:=ax i k!;rwa [F7 O]at this
 rw[D! h1];exact I.env2 K λk M=>ax k (HS _ M);by_cases G:k=i;subst G;rw[F7 O]at E;rw[b',bm K E];exact .ptr (by simp[cx]) (by simp[cx,Gh.at_]) rfl λ_=>⟨B,by simp[cx,Gh.at_],rfl⟩
 rw[ar k G];exact(I.slot1 k K F (by simpa[c,G]using ct) E).later hl;by_cases b3:j=i;subst b3;simp;exact HS _ (I.sub j hj (by simpa[c,b3]using cn));rcases Ak.1 a9 with W|W;have G:k≠i:=λe=>b2 (e▸W);obtain⟨J,a0,co,a7⟩:=I.pendq k W a';have a3:∀j want,J.guard=δ (j,want)->j≠i:=by rintro j want hg rfl;have:=(ok.guard k J j want a0 hg).1;have h2:=ok.ord l1 (j::r) I.split k W j k!;rw[this]at h2;cases h2
 refine⟨J,a0,co,?_⟩;rw[ar k G];rcases a7 with⟨h1,h2⟩|⟨h1,rd,ei,h2,h3,h4,h5,h6,h7⟩;exact .inl ⟨S a3 h1,h2⟩;refine .inr ⟨S a3 h1,rd,ei,h2,λid A=>by have:=h3 id A;simp;omega,h4,h5,ce W a0 h6,λZ cf he hh=>h7 Z cf he λid A=>?_⟩;rw[hh id A,CT (h3 id A)];have:k=i:=by simpa using W
 subst this;rw[e2]at a';cases a';obtain⟨k1,k2⟩:=V k C M;obtain⟨f1,f2,f3,f4,o',K,z',Y,f5,f6,f7,f8,f9,ch⟩:=I.early1 k C k2;rcases Aw.1 f1 with e|f1;exact(k1 e).elim;exact⟨f1,f2,f3,f4,o',K,z',Y,f5,f6,f7,f8,f9.later hl,ch⟩
def Mid(P:Program)(N:Nat)(ops:Array Oper)(l:List Nat)(Q:Env->Au->Prop)(env0:Env)(X:Nat->Prop)(h0:Gh)(H0:Au)(w0:World)(ds0:List Deferred)(L:Array Bool)(a:Act)(w:World):Prop:=
 ∃l1 l2 v pend env H h early,Inv P N ops l Q env0 X h0 H0 w0 ds0 l1 l2 v pend env H h early L a w
def Uc(ok:W9 ops N l)(T:V9 P ops=ζ)(S:∀B,X B→B<w0.heap.size){L:Array Bool}{a:Act}{w:World}{i:Nat}{o:Oper}(C:ops[i]?=δ o)(g:IJ ops i=η)(s:∀e∈o.after,Region.binds .any e=ζ→L.getD e.on η=ζ):
  ∀(l2 l1:List Nat)(v:Nat->Ac)(b:List (Nat×List Nat))(env:Env)(H:Au)(h:Gh)(early:Nat->Option Nat),Inv P N ops l Q env0 X h0 H0 w0 ds0 l1 l2 v b env H h early L a w->∃l1 l2 v b env H h early,Inv P N ops l Q env0 X h0 H0 w0 ds0 l1 l2 v b env H h early L a w/\(i∈l1\/∃r,l2=i::r/\UM v o ζ/\∃F,(∀j∈r,PM (IR ops.toList []) i j=ζ\/IJ ops j=ζ)/\(∀p∈b,PM (IR ops.toList []) p.1 i=ζ\/∀id∈p.2,id∉F)/\∃K,Eff P N o env H F K/\(∀v y,K v y->θ H<=θ y)/\∀v y,K v y->RA P N ops r b (env.putO o.dst v) y Q)
 |[],l1,v,b,env,H,h,early,I=>by have k:=ok.all i (V1 C);rw[I.split,DN]at k;exact⟨l1,[],v,b,env,H,h,early,I,.inl k⟩
 |q::r,l1,v,b,env,H,h,early,I=>by
  by_cases G:i∈l1;exact⟨l1,q::r,v,b,env,H,h,early,I,.inl G⟩
  ·cases E:early q with
   |some B=>obtain⟨O,ar,y,h',m,D⟩:=I.adopt ok T S E;exact Uc ok T S C g s r _ O _ _ y h' m D
   |none=>
    have M:=I.ra;have ao:q<ops.size:=ok.lt q (by rw[I.split];simp);have c:ops[q]?=δ (ops[q]):=by simp[ao]
    generalize ax:ops[q]=oq at c;have x:(∀j∈r,PM (IR ops.toList []) q j=ζ\/IJ ops j=ζ)->i=q:=by intro f;have k:=ok.all i (V1 C);rw[I.split,Ak]at k;rcases k with k|k;exact(G k).elim;rcases Aw.1 k with e|k;exact e;rcases f i k with R|R;have hd:=dp I.closed (i+1) i o o! C s R;have al:=I.sub q hd E;have J:=ok.nodup;rw[I.split]at J;exact((Oj.1 J).2.2 q al q k! rfl).elim;rw[g]at R;cases R
    simp only[RA,c]at M;rcases I.guardW ok rfl c M with⟨U,(⟨n,u,rd,hQ,ap,d⟩|⟨n,F,f,V,K,W,Y,Z⟩|⟨t,z,ad,hz,f,d⟩)⟩|⟨U,n,d⟩
    ·obtain⟨O,D⟩:=I.next ok rfl c (pend':=(q,rd)::b) n d (λp s=>Ce _ s) (.inr ⟨U,rd,k!,ap,hQ⟩)
     exact Uc ok T S C g s r _ O _ _ H h early D
    have A:=x f;subst A;rw[C]at c;injection c with e;subst e;exact⟨l1,i::r,v,b,env,H,h,early,I,.inr ⟨r,rfl,U,F,f,V,K,W,Y,Z⟩⟩;have A:=x f;subst A;have:=(WV c).2 ⟨t,ad⟩;rw[g]at this;cases this
    ·obtain⟨O,D⟩:=I.next ok rfl c (pend':=(q,[])::b) n d (λp s=>Ce _ s) (.inl ⟨U,rfl⟩)
     exact Uc ok T S C g s r _ O _ _ H h early D
def V6{K b:Act->World->Prop}(h:Oper.wpIn (FR m) 0 P o t j K z)(d:∀t j,K t j->b t j):Oper.wpIn (FR m) 0 P o t j b z:=Oper.wpIn_mono d h
def Inv.make(ok:W9 ops N l)(ha:V9 P ops=ζ){l1 l2:List Nat}{v:Nat→Ac}{K:List (Nat×List Nat)}{env:Env}{H:Au}{h:Gh}{early:Nat→Option Nat}{L:Array Bool}{a:Act}{w:World}{Q0:Exit→Act→World→Prop}{ro:Option Nat}
  (I:Inv P N ops l Q env0 X h0 H0 w0 ds0 l1 l2 v K env H h early L a w) {i:Nat}{o:Oper}{t:TypeId} (u:ops[i]?=δ o) (y:o.op=.alloc t) (a6:L.getD i η=η)
  (hp:∀e∈o.after,Region.binds .any e=ζ->L.getD e.on η=ζ):
  Oper.wpIn (FR ro) 0 P o a w (λa' C=>∃b,Inv P N ops l Q env0 X h0 H0 w0 ds0 l1 l2 v K env H h b (L.setIfInBounds i ζ) a' C) Q0:=by
 obtain⟨⟨z,hz⟩,hg⟩:=eS ha u y;have bb:IJ ops i=ζ:=(WV u).2 ⟨t,y⟩;obtain⟨b3,zv,hi,bG,rz⟩:=eC (cx (XR X early) h H w) hz;have a4:(execOp a.eval o).run P w=.ok (.value (.pointer (δ ⟨w.heap.size,0,ε⟩))) {w with heap:=w.heap.push (.cells zv.cells t)}:=by unfold execOp;rw[y];simp[Instr.alloc,zeroValue,typeInfo,hi,bG,newVar,newRow]
 refine⟨λ_ _=>O!,?_⟩;rw[Oper.semAt_eq _ _ _ (λc hc=>by rw[y]at hc;cases hc),a4,Oper.uponIn_value];let b:Nat->Option Nat:=λk=>if k=i then δ w.heap.size else early k;generalize s:({w with heap:=w.heap.push (.cells zv.cells t)}:World)=C;have b2:C.heap.size=w.heap.size+1:=by rw[<-s];simp
 have q:∀k,k<w.heap.size->C.heap[k]?=w.heap[k]? :=λk r=>by rw[<-s];simp[TT,Bl r]
 have bz:C.heap[w.heap.size]?=δ (.cells zv.cells t):=by rw[<-s];simp
 have U:C.os=w.os:=by rw[<-s]
 have V:C.tape=w.tape:=by rw[<-s]
 have A:C.output=w.output:=by rw[<-s]
 have ap:i∉l1:=by intro hm;obtain⟨o',b1,ar,_⟩:=I.pendq i hm a6;rw[bb]at ar;cases ar
 have bm:i∈l2:=by have:=ok.all i (V1 u);rw[I.split,Ak]at this;exact this.resolve_left ap
 have bN:early i=ε:=by
  cases G:early i with
  |none=>rfl
  |some B=>have:=(I.early1 i B G).2.1;rw[a6]at this;cases this
 have a8:=I.sim.grow U V A o! q;have b0:=(G8.grow (h:=h) (H:=H) U V A o! q).later (XR X early);have J:∀B,owned h H B->B<w.heap.size:=by rintro B ⟨id,e,G,S,x⟩;exact I.sim.io_at G S x
 have a7:∀B,XR X b B->XR X early B\/B=w.heap.size:=by rintro B (O|⟨k,r⟩);exact .inl (.inl O);simp only[b]at r;split at r;injection r with e;exact .inr e.symm;exact .inl (.inr ⟨k,r⟩)
 have W:(cx (XR X early) h H w).Later (cx (XR X b) h H C):=by refine⟨by simp only[cx];omega,λB O _=>mL (q B O),λB O Z=>?_,An _,λ_ _=>An _,λ_ _ _=>⟨rfl,rfl⟩⟩;rcases Z with Z|Z;rcases a7 B Z with D|rfl;exact .inl D;simp only[cx]at O;omega;exact .inr Z
 have a5:I1 (XR X b) h H C:=by refine⟨λB O=>?_,λid g cs G=>?_,λid L' G=>?_,I.sim.inj,I.sim.bldKeep λid e G _=>⟨G,rfl,rfl,rfl,λB o _ R _=>q B (PP R)⟩⟩;rcases a7 B O with D|rfl;exact a8.out B D;exact⟨o!,λu=>by have:=J _ u;omega⟩;obtain⟨hg,ao⟩:=I.sim.live id g cs G;refine⟨hg,?_⟩;rcases ao with⟨hn,rfl⟩|⟨B,M,T,fz,f,x,R,ad,bt,bl,E⟩;exact .inl ⟨hn,rfl⟩;refine .inr ⟨B,M,T,fz,f,x,(q B (PP R)).trans R,ad,bt,bl,λj v hj=>?_⟩;obtain⟨p1,p2,p3⟩:=E j v hj;exact⟨p1,p2,p3.later W⟩;obtain⟨hg,B1,r1,x,R,p1,p2,p3,p4,p5,p6,p7⟩:=I.sim.lp id L' G;exact⟨hg,B1,r1,x,(q B1 (PP R)).trans R,p1,p2,p3,p4,p5,p6,λt v m=>⟨(p7 t v m).1,(p7 t v m).2.later W⟩⟩
 have p:i<L.size:=by rw[I.lsz];exact V1 u
 have hd:∀t,o.dst=δ t->t<a.tmps.size:=λt ht=>by rw[I.size];exact pZ ok u t ht
 refine⟨b,?_⟩;refine{split:=I.split,ra:=I.ra,kn:=I.kn,keys:=I.keys,env1:=I.env1,env2:=I.env2,sim:=a5,nodefer:=?_,size:=(dt _ _ _).trans I.size,slot1:=λk t r a2 al=>?_,slot2:=λt J=>?_,sub:=λj hj ax=>?_,lsz:=by rw[o0];exact I.lsz,closed:=mz I.closed p u hp,pendq:=λk a1 a3=>?_,ext:=I.ext.trans (G8.grow U V A o! q),early1:=λk B r=>?_,early2:=λj k B D Y=>?_};rw[show(a.put o.dst _).defers=a.defers by cases o.dst<;>rfl];exact I.nodefer;have n:k≠i:=by rintro rfl;simp[b]at a2
 rw[HF p,D! n]at r;rw[Sn hd,D! (λe=>n (ok.uniq k i t al (by rw[F7 u];exact e)))];exact(I.slot1 k t r (by simpa[b,n]using a2) al).later W;rw[Sn hd];have S:o.dst≠δ t:=by have:=J i (by rw[HF p,C! rfl]);rwa [F7 u]at this
 rw[D! S];refine(I.slot2 t λk r=>J k ?_).later W;rw[HF p];split;rfl;exact r;have a0:j≠i:=by rintro rfl;simp[b]at ax
 rw[HF p,D! a0]at hj;exact I.sub j hj (by simpa[b,a0]using ax);have n:k≠i:=λe=>ap (e▸a1);rw[HF p,D! n]at a3;exact I.pendq k a1 a3;by_cases n:k=i;subst n;simp only[b,if_true]at r;injection r with e;subst e;refine⟨bm,by rw[HF p,C! rfl],I.ext.size,o!,o,t,z,zv.cells,u,y,hz,bz,rz.later W,λd F=>?_⟩;rw[Sn hd,C! F];simp only[b,D! n]at r;obtain⟨e1,e2,e3,e4,o',t',z',M,e5,e6,e7,e8,e9,a9⟩:=I.early1 k B r;refine⟨e1,by rw[HF p,D! n];exact e2,e3,o!,o',t',z',M,e5,e6,e7,(q B e4).trans e8,e9.later W,λd F=>?_⟩;rw[Sn hd,D! (λe=>n (ok.uniq k i d (by rw[F7 e5];exact F) (by rw[F7 u];exact e)))];exact a9 d F;simp only[b]at D Y;split at D<;>split at Y;simp_all;injection D with e;have:=(I.early1 k B Y).2.2.2.1;omega;injection Y with e;have:=(I.early1 j B D).2.2.2.1;omega;exact I.early2 j k B D Y
def Mid.step(ok:W9 ops N l)(ha:V9 P ops=ζ)(hX:∀B,X B→B<w0.heap.size){L:Array Bool}{a:Act}{w:World}{Q0:Exit→Act→World→Prop}{ro:Option Nat}(M:Mid P N ops l Q env0 X h0 H0 w0 ds0 L a w){i:Nat}{o:Oper}(n:ops[i]?=δ o)(E:L.getD i η=η)
  (Y:∀e∈o.after,Region.binds .any e=ζ->L.getD e.on η=ζ):wpOpIn (FR ro) 0 P ops Q0 i (Mid P N ops l Q env0 X h0 H0 w0 ds0 (L.setIfInBounds i ζ)) a w:=by
 cases a3:IJ ops i with
 |true=>
  obtain⟨t,a9⟩:=(WV n).1 a3;have hg:=(eS ha n a9).2;obtain⟨l1,l2,v,s,env,H,h,early,I⟩:=M;unfold wpOpIn;rw[n];simp only;have J:Region.wanted o (yielded ops a.tmps)=ζ:=by unfold Region.wanted;rw[hg]
  rw[J];simp only[if_true];refine(V6 (I.make ok ha n a9 E Y) ?_);rintro a' w' ⟨al,I'⟩;exact⟨l1,l2,v,s,env,H,h,al,I'⟩
 |false=>
 obtain⟨l1,l2,v,s,env,H,h,early,I⟩:=M;obtain⟨l1,l2,v,s,env,H,h,early,I,A⟩:=Uc ok ha hX n a3 Y l2 l1 v s env H h early I;have G:∀k,PM (IR ops.toList []) k i=ζ->early k=ε:=by
  intro k D;by_cases f:k=i;subst f;cases he:early k with
  |none=>rfl
  |some B=>have:=(I.early1 k B he).2.1;rw[E]at this;cases this
  refine I.noEarly ok ?_ k D f;rcases A with h1|⟨r,h1,_⟩;exact .inl h1;exact .inr ⟨r,h1⟩
 unfold wpOpIn;rw[n];simp only;rcases A with ax|⟨r,rfl,J,F,b6,bt,K,a1,bz,bG⟩
 ·obtain⟨o',a7,_,b5⟩:=I.pendq i ax E;rw[n]at a7;injection a7 with e;subst e;rcases b5 with⟨J,ao⟩|⟨J,rd,ei,_,_,kn,T,W,hQ⟩
  ·rw[I.wanted ok n G Y J];simp only[Pg,if_false];exact⟨λ_ _=>O!,l1,l2,v,s,env,H,h,early,I.done ok n ax E Y I.sim (G8.refl _ _ _) (by rw[ao];exact .tup rfl λ_ _ _ h=>by cases h)⟩
  ·rw[I.wanted ok n G Y J];simp only[if_true];refine(V6 (hQ (look o ei) H (yq o ei) (λ_ _=>rfl) ro (XR X early) h a w ⟨I.sim,I.look ok n E Y G kn T W,I.size⟩ Q0) ?_);rintro a' w' ⟨c,u,h',H',rfl,⟨rfl,rfl⟩,hv,sim,x⟩;exact⟨l1,l2,v,s,env,_,h',early,I.done ok n ax E Y sim x hv⟩
 rw[I.wanted ok n G Y J];simp only[if_true];have W:=I.opd ok rfl n;refine(V6 (a1.1 (look o env) (yq o env) ro (XR X early) h a w ⟨I.sim,I.look ok n E Y G I.kn I.keys W,I.size⟩ Q0) ?_);rintro a' w' ⟨c,u,h',H',rfl,T,hv,sim,x⟩;have a6:=ok.nodup;rw[I.split]at a6;have b0:i∉l1:=λhm=>(Oj.1 a6).2.2 i hm i k! rfl;have hi:i<L.size:=by rw[I.lsz];exact V1 n
 have hl:=x.later (XR X early);let v':Nat->Ac:=λk=>if k=i then u else v k;have Z:∀k,k≠i->v' k=v k:=λk T=>by simp[v',T]
 have ao:v' i=u:=by simp[v']
 have hd:∀t,o.dst=δ t->t<a.tmps.size:=λt ht=>by rw[I.size];exact pZ ok n t ht
 have ap:∀t,(env.putO o.dst u).get t=if o.dst=δ t then u else env.get t:=by
  intro t;cases o.dst with
  |none=>simp[Env.putO]
  |some d=>simp only[Env.putO,GF,Ao];by_cases h:d=t;subst h;simp;rw[D! h,D! (λe=>h e.symm)]
 refine⟨l1++[i],r,v',s,env.putO o.dst u,H',h',early,?_⟩;refine{split:=by rw[I.split];simp,ra:=bG u H' T,kn:=I.kn.putO _ _,keys:=λt y m=>?_,env1:=λk g t C=>?_,env2:=λt V=>?_,sim:=sim,nodefer:=?_,size:=(dt _ _ _).trans I.size,slot1:=λk t g b4 C=>?_,slot2:=λt V=>?_,sub:=λj hj b1=>?_,lsz:=by rw[o0];exact I.lsz,closed:=mz I.closed hi n Y,pendq:=λk b2 U=>?_,ext:=I.ext.trans x,early1:=λk B g=>?_,early2:=I.early2};cases R:o.dst with
 |none=>rw[R]at m;exact I.keys t y m
 |some d=>rw[R]at m;simp only[Env.putO,Env.put]at m;rcases Aw.1 m with e|m;injection e with e1 _;subst e1;exact pZ ok n t R;exact I.keys t y (BU.1 m).1
 rw[ap];rcases Ak.1 g with g|g;have f:k≠i:=λe=>b0 (e▸g);rw[Z k f,D! (λe=>f (ok.uniq k i t C (by rw[F7 n];exact e)))];exact I.env1 k g t C;have:k=i:=by simpa using g
 subst this;rw[F7 n]at C;rw[C! C,ao];rw[ap];have h1:o.dst≠δ t:=by have:=V i k!;rwa [F7 n]at this
 rw[D! h1];exact I.env2 t λk T=>V k (HS _ T);rw[show(a.put o.dst c).defers=a.defers by cases o.dst<;>rfl];exact I.nodefer;rw[Sn hd];rw[HF hi]at g;by_cases f:k=i;subst f;rw[F7 n]at C;rw[C! C,ao];exact hv;rw[D! f]at g;rw[D! (λe=>f (ok.uniq k i t C (by rw[F7 n];exact e))),Z k f];exact(I.slot1 k t g b4 C).later hl;rw[Sn hd];have G:o.dst≠δ t:=by have:=V i (by rw[HF hi,C! rfl]);rwa [F7 n]at this
 rw[D! G];refine(I.slot2 t λk T=>V k ?_).later hl;rw[HF hi];split;rfl;exact T;rw[HF hi]at hj;by_cases a4:j=i;subst a4;simp;rw[D! a4]at hj;exact HS _ (I.sub j hj b1);rw[HF hi]at U;by_cases f:k=i;subst f;simp at U;rw[D! f]at U;have a5:k∈l1:=by rcases Ak.1 b2 with h|h;exact h;exact(f (by simpa using h)).elim
 obtain⟨ad,a8,b3,A⟩:=I.pendq k a5 U;have ar:PM (IR ops.toList []) i k=η:=ok.ord l1 (i::r) I.split k a5 i k!;have O:∀{b:Bool},UM v ad b->UM v' ad b:=by
  intro b J;unfold UM at J⊢;cases hg:ad.guard with
  |none=>rw[hg]at J;exact J
  |some p=>
   obtain⟨j,want⟩:=p;rw[hg]at J;simp only at J⊢;have:j≠i:=by rintro rfl;have:=(ok.guard k ad j want a8 hg).1;rw[ar]at this;cases this
   rw[Z j this];exact J
 refine⟨ad,a8,b3,?_⟩;rw[Z k f];rcases A with⟨q1,q2⟩|⟨q1,rd,ei,q2,q3,q4,q5,q6,q7⟩;exact .inl ⟨O q1,q2⟩;refine .inr ⟨O q1,rd,ei,q2,λid S=>DB (q3 id S) (bz u H' T),q4,q5,λt ht=>?_,λa0 bb he hh=>q7 a0 bb he λid S=>?_⟩;obtain⟨c1,c2⟩:=q6 t ht;refine⟨λq hq bN D=>?_,c2⟩;rw[c1 q hq bN D,Z];rintro rfl;rw[ar]at D;cases D;rw[hh id S];apply a1.2 u H' T id (q3 id S);rcases bt (k,rd) q2 with h1|h1;have:=dp I.closed (i+1) i o o! n Y h1;simp only at this;rw[U]at this;cases this;exact h1 id S;obtain⟨e1,e2,e3,e4,o',t,z,bl,e5,e6,e7,e8,e9,bm⟩:=I.early1 k B g;have f:k≠i:=by rintro rfl;rw[E]at e2;cases e2
 refine⟨(Aw.1 e1).resolve_left f,by rw[HF hi,D! f];exact e2,e3,DB e4 x.size,o',t,z,bl,e5,e6,e7,?_,e9.later hl,λd a2=>?_⟩;exact(x.keep B e4 (I.sim.out B (.inr ⟨k,g⟩)).2).trans e8;rw[Sn hd,D! (λe=>f (ok.uniq k i d (by rw[F7 e5];exact a2) (by rw[F7 n];exact e)))];exact bm d a2
theorem Inv.end_(ok:W9 ops N l)(s:V9 P ops=ζ)(p:∀B,X B→B<w0.heap.size){L:Array Bool}{a:Act}{w:World}(e:∀i,i<ops.size→L.getD i η=ζ):
  ∀(l2 l1:List Nat)(v:Nat->Ac)(c:List (Nat×List Nat))(env:Env)(H:Au)(h:Gh)(early:Nat->Option Nat),Inv P N ops l Q env0 X h0 H0 w0 ds0 l1 l2 v c env H h early L a w->
  ∃o b g,Q b g/\St X o N b g a w/\G8 h0 H0 w0 o g w/\a.defers=ds0
 |q::r,l1,v,c,env,H,h,early,I=>by
  cases j:early q with
  |some B=>obtain⟨G,b,g,o,d,y⟩:=I.adopt ok s p j;exact Inv.end_ ok s p e r _ G _ _ g o d y
  |none=>have J:=I.sub q (e q (ok.lt q (by rw[I.split];simp))) j;have E:=ok.nodup;grind[I.split]
 |[],l1,v,c,env,H,h,early,I=>by
  have D:∀k,early k=ε:=by
   intro k;cases C:early k with
   |none=>rfl
   |some B=>have:=(I.early1 k B C).1;cases this
  have n:XR X early=X:=by funext B;apply propext;constructor;rintro(z|⟨k,x⟩);exact z;grind;exact .inl
  have f:=I.sim;rw[n]at f;refine⟨h,env,H,I.ra,⟨f,λt u m=>⟨by rw[I.size];exact I.keys t u m,?_⟩,I.size⟩,I.ext,I.nodefer⟩;rw[<-n,<-I.kn t u m];by_cases F:∃k∈l1,VP ops k=δ t;have⟨k,x,A⟩:=F;rw[I.env1 k x t A];grind[YF,I.slot1,V1];grind[I.env2,I.slot2,I.sub]
def Mid.end_(ok:W9 ops N l)(x:V9 P ops=ζ)(u:∀B,X B→B<w0.heap.size){w:World}(M:Mid P N ops l Q env0 X h0 H0 w0 ds0 L t w)(hr:Region.ready .any ops L=[]):
  ∃o b g,Q b g/\St X o N b g t w/\G8 h0 H0 w0 o g w/\t.defers=ds0:=by
 obtain⟨l1,l2,v,f,env,H,h,early,I⟩:=M;have c:∀(n i:Nat),i<n->i<ops.size->L.getD i η=ζ:=by
  intro n;induction n with
  |zero=>intro i h;omega
  |succ n z=>
   intro i q d;cases p:L.getD i η with
   |true=>rfl
   |false=>
    have m:i<L.size:=by rw[I.lsz];exact d
    have j:L.getD i ζ=η:=by rw[QZ,Nr m]at p⊢;simpa using p
    have a:ops[i]?=δ (ops[i]):=by simp[d]
    have s:i∈Region.ready .any ops L:=by rw[mem_ready];refine⟨j,_,a,λe y k=>?_⟩;have r:=ok.back i _ a e y k;exact z e.on o! o!
    rw[hr]at s;cases s
 exact Inv.end_ ok x u (λi q=>c (i+1) i o! q) l2 l1 v f env H h early I
theorem vd{p q:Nat->Bool}(h:∀j,q j=ζ->p j=ζ):∀l:List Nat,(l.filter q).length<=(l.filter p).length
 |[]=>k!
 |y::r=>by have a:=vd h r;grind
theorem filter_lt{p:Nat->Bool}{i:Nat}{q:Nat->Bool}(b:∀j,q j=(p j&& ! τ (j=i))):∀(l:List Nat),i∈l->p i=ζ->(l.filter q).length<(l.filter p).length
 |x::r,h,hp=>by
  have d:=vd (p:=p) (q:=q) (λj a=>by rw[b]at a;simp at a;exact a.1) r;by_cases e:x=i;grind;have c:i∈r:=q!
  have f:=filter_lt b r c hp;grind
theorem Mid.any(ok:W9 ops N l)(k:V9 P ops=ζ)(g:∀B,X B→B<w0.heap.size){f:Exit→Act→World→Prop}{ro:Option Nat}(e:∀L a w,Mid P N ops l Q env0 X h0 H0 w0 ds0 L a w→Region.ready .any ops L=[]→f .normal a w):
  ∀(b:Nat)(L:Array Bool)(a:Act)(w:World),((List.range ops.size).filter λi=>!L.getD i η).length<=b->Mid P N ops l Q env0 X h0 H0 w0 ds0 L a w->wpAnyIn (FR ro) 0 P .any ops f b L a w
 |0,L,a,w,hf,M=>by
  have hr:Region.ready .any ops L=[]:=by
   cases u:Region.ready .any ops L with
   |nil=>rfl
   |cons i r=>
    have d:i∈Region.ready .any ops L:=q!
    rw[mem_ready]at d;have:i∈(List.range ops.size).filter λi=>!L.getD i η:=q!
    grind
  exact⟨hr,e L a w M hr⟩
 |b+1,L,a,w,hf,M=>by
  refine⟨λhr=>e L a w M hr,λi d=>?_⟩;rw[mem_ready]at d;have⟨x,o,m,t⟩:=d;have c:L.getD i η=η:=q!
  refine wpOpIn_mono (λs v n=>Mid.any ok k g e b _ s v ?_ n) (Mid.step ok k g M m c t);have:=filter_lt (p:=λi=>!L.getD i η) (i:=i) (q:=λj=>!(L.setIfInBounds i ζ).getD j η) (λj=>by rw[HF q!];by_cases h:j=i<;>simp[h]) (List.range ops.size) (Hw.2 (V1 m)) (by simp[c]);omega
def j9{K:Exit→Env→Au→Prop}(C:P.follows .mixedOrders=ζ)(l:List Nat)(q:ABj ops N l=ζ)(r:V9 P ops=ζ)(p:(f.map (·.1)).Nodup)
  (h:RA P N ops l [] f H (K .normal)):Jg P N (.region n ops ζ) f H K:=by
 intro ro X g a w s _;have ok:=AAi q;have b:∀i,(Array.replicate ops.size η).getD i η=η:=by intro i;rw[QZ];by_cases d:i<ops.size;simp[d];simp[d]
 have E:({w with drawn:=w.drawn+1}:World)=w.drew:=rfl;apply wpIn_region_any C;rw[E];refine Mid.any (Q:=K .normal) (env0:=f) (X:=X) (h0:=g) (H0:=H) (w0:=w) (ds0:=a.defers) ok r (λB c=>(s.sim.out B c).1) (λL I O M hr=>?_) ops.size _ a w.drew ?_ ?_;obtain⟨A,S,y,D,F,G,z⟩:=M.end_ ok r (λB c=>(s.sim.out B c).1) hr;exact⟨A,S,y,D,F,G,.same z⟩;exact Ct (FF _ _) k!;have x:=G8.drew (h:=g) (H:=H) (w:=w);have R:XR X (λ_=>ε)=X:=by funext B;apply propext;constructor;rintro(c|⟨k,e⟩);exact c;cases e;exact .inl
 refine⟨[],l,λ_=>.any,[],f,H,g,λ_=>ε,?_⟩;refine{split:=rfl,ra:=h,kn:=dD p,keys:=(λt u m=>by have:=(s.env t u m).1;rw[s.size]at this;exact this),env1:=(λk e=>by cases e),env2:=λt _=>rfl,sim:=(by rw[R];exact s.sim.drew),nodefer:=rfl,size:=s.size,slot1:=(λk t e _=>by rw[b]at e;cases e),slot2:=λt _=>(by rw[R];exact(j8 s.env t).later (x.later X)),sub:=(λi d=>by rw[b]at d;cases d),lsz:=k!,closed:=(λj o J v=>by rw[b]at v;cases v),pendq:=(λi d=>by cases d),ext:=x,early1:=(λi B c=>by cases c),early2:=(λi j B c=>by cases c)}
end
def pw:Ac->List Nat
 |.ptr id _ _=>[id]
 |.sl id _ _ _ _=>[id]
 |_=>[]
def AAf(env:Env)(op:Op):List Nat:=op.operands.toList.flatMap λx=>pw (BO env x)
theorem fx(h:∀t∈tmpsOf o,W.get t=f.get t):∀x∈o.op.operands,BO W x=BO f x:=by
 intro x b;cases x with
 |tmp t=>apply h t;unfold tmpsOf;rw[Oi];exact⟨.tmp t,q!,rfl⟩
 |_=>rfl
def uM{l:List Operand}(h:∀x∈l,BO W x=BO f x):l.map (BO W)=l.map (BO f):=Mt h
theorem wI(h:∀x∈T.operands,BO W x=BO f x):Cd P W H T=Cd P f H T:=by
 cases T with
 |move x=>grind[Cd,Op.operands]
 |assign x=>grind[Cd,Op.operands]
 |pick c a b=>grind[Cd,Op.operands]
 |load t a=>grind[Cd,Op.operands]
 |nilCheck x=>grind[Cd,Op.operands]
 |binOp T t x y E=>grind[Cd,Op.operands]
 |unOp T t x=>grind[Cd,Op.operands]
 |convert s d x=>grind[Cd,Op.operands]
 |fieldAddr s x e=>grind[Cd,Op.operands]
 |field s x e=>grind[Cd,Op.operands]
 |indexAddr t x i=>grind[Cd,Op.operands]
 |index t x i=>grind[Cd,Op.operands]
 |extract x i=>grind[Cd,Op.operands]
 |slice t x u o v=>
  have C:u.map (BO W)=u.map (BO f):=by cases u with|none=>rfl|some y=>simp[h y (by simp[Op.operands])]
  have B:o.map (BO W)=o.map (BO f):=by cases o with|none=>rfl|some y=>simp[h y (by simp[Op.operands])]
  have D:v.map (BO W)=v.map (BO f):=by cases v with|none=>rfl|some y=>simp[h y (by simp[Op.operands])]
  grind[Cd,Op.operands]
 |makeFunc e a b=>simp only[Cd];rw[uM λx j=>h x (by simp only[Op.operands];exact Array.mem_append_left _ (by simpa using j)),uM λx j=>h x (by simp only[Op.operands];exact Array.mem_append_right _ (by simpa using j))]
 |build t g=>
  simp only[Cd];have:(g.toList.map λp=>(p.1,BO W p.2))=g.toList.map λp=>(p.1,BO f p.2):=Mt λp w=>by rw[h p.2 (by simp only[Op.operands,List.mem_toArray,Bs];exact⟨p,w,rfl⟩)]
  rw[this]
 |call c=>
  obtain⟨n,args,k⟩:=c;simp only[Op.operands,Call.operands]at h;cases n with
  |value e=>simp[Cd]
  |invoke r m=>simp[Cd]
  |builtin b=>
   obtain⟨args⟩:=args;obtain⟨k⟩:=k;match args with
   |[]=>simp[Cd]
   |[x]=>
    have j:=h x k!;cases b<;>simp[Cd];match k with
    |[]=>rfl
    |[t]=>simp[j]
    |_::_::_=>rfl
   |[x,y]=>have j:=h x k!;have q:=h y k!;cases b<;>simp[Cd,j,q]
   |[x,y,z]=>have j:=h x k!;have q:=h y k!;have A:=h z k!;cases b<;>simp[Cd,j,q,A]
   |_::_::_::_::_=>cases b<;>rfl
 |_=>rfl
section
variable {P:Program}{H H':Au}
theorem Zq(h:H'[N]?=H[N]?):TO H' N n=TO H N n:=by grind[TO]
theorem zG(h:∀id∈pw s,H'[id]?=H[id]?):P1 H' s n=P1 H s n:=by cases s<;>simp only[P1];rw[h _ (by simp[pw])]
theorem ud(h:∀id∈pw s,H'[id]?=H[id]?):shift H' n s=shift H n s:=by cases s<;>simp only[shift];grind[Zq,pw]
def ACX(h:∀id∈pw s,H'[id]?=H[id]?):pz P H' b s=pz P H b s:=rfl
theorem AAd(h:∀id∈AAf f T,H'[id]?=H[id]?):Cd P f H' T=Cd P f H T:=by
 have j:∀x∈T.operands,∀id∈pw (BO f x),H'[id]?=H[id]? :=λx j id n=>h id (by unfold AAf;rw[Gl];exact⟨x,by simpa using j,n⟩);cases T with
 |load t a=>grind[Op.operands,Cd,iM,zG]
 |nilCheck x=>grind[Op.operands,Cd,Zq,pw]
 |convert s d x=>
  have g:=j x (by simp[Op.operands]);have hr:rowsOf H' (BO f x)=rowsOf H (BO f x):=by generalize BO f x=v at g;cases v<;>simp only[rowsOf];grind[pw]
  simp only[Cd,XD];grind[BO]
 |fieldAddr s x k=>grind[Op.operands,Cd,Vx,ud]
 |indexAddr t x i=>have g:=j x (by simp[Op.operands]);simp only[Cd,V2];split<;>grind[ud,Zq,pw]
 |slice t x p o q=>have g:=j x (by simp[Op.operands]);simp only[Cd];generalize BO f x=v at g;cases v<;>simp only[hZ];rw[Zq (g _ (by simp[pw]))]
 |call c=>
  obtain⟨l,args,e⟩:=c;simp only[Op.operands,Call.operands]at j;cases l with
  |value k=>simp[Cd]
  |invoke r m=>simp[Cd]
  |builtin b=>
   obtain⟨args⟩:=args;obtain⟨e⟩:=e;match args with
   |[]=>simp[Cd]
   |[x]=>
    have g:=j x k!;cases b<;>simp only[Cd];match e with
    |[]=>rfl
    |[t]=>simp only;exact ACX g
    |_::_::_=>rfl
   |[x,y]=>cases b<;>simp[Cd]
   |[x,y,z]=>cases b<;>simp[Cd]
   |_::_::_::_::_=>cases b<;>rfl
 |_=>simp only[Cd]
def XE{v:Ac}(e:Cd P f H o.op=δ v):ZX P N o f H (AAf f o.op) v:=by intro a b c d;refine Ds (v:=v) ?_ ⟨rfl,rfl⟩;rw[wI (fx c),AAd d];exact e
end
section
variable {P:Program}{N:Nat}{o:Oper}{env:Env}{H:Au}{K:Ac->Au->Prop}
theorem ph
  (A:o.op=.call Y) (m:Y.callee=.value g) (G:BO env g=.fn (.func p) d Z) (D:Enters P p=ζ)
  (E:Ea P p (nv env Y d Z) H K):JV P N o env H K:=by
 apply C3 (by rw[A];rfl);intro X h a w s Q;have k:=Dk s.env g;rw[G]at k
 obtain⟨b,e,r,t,C,I,J⟩:∃b e,a.eval g=.func (.func p) b e∧b.size=θ d∧e.size=θ Z∧
   (∀(j:Nat)(v:Ac)(Y:Value),d[j]?=δ v->b[j]?=δ Y->Bx (cx X h H w) v Y)/\(∀(j:Nat)(v:Ac)(Y:Value),Z[j]?=δ v->e[j]?=δ Y->Bx (cx X h H w) v Y):=by
  generalize a.eval g=cf at k;cases k<;>grind
 have q:(execOp a.eval o).run P w=.ok (.enter p (b++Y.args.map a.eval++e)) w:=by unfold execOp;rw[A];simp only[resolve,m,r,Deferred.ofValue,Sem.run_bind,Sem.run_pure,Result.andThen_ok,invoke,gz D]
 unfold Oper.wp;rw[q];simp only[Oper.upon_enter];have i:∀(j:Nat)(v:Ac)(c:Value),(nv env Y d Z)[j]?=δ v->(b++Y.args.map a.eval++e)[j]?=δ c->Bx (cx X h H w) v c:=by
  intro j v c l n;unfold nv at l;rcases Ax j (θ d+Y.args.size)with y|u;rw[CT w!]at l;rw[X6 w!]at n;rcases Ax j (θ d) with z|f
  grind;rw[Ci f,CL]at l;rw[sg o!,be,t]at n;cases B:Y.args[j-θ d]? with
  |none=>grind
  |some x=>rw[B]at n;rw[Pf,B]at l;simp only[Bt,Ao]at l n;subst l n;exact Dk s.env x
  grind
 refine(E X h w _ s.sim ?_ i).mono ?_;simp[nv,t,C];grind
def Sr(P:Program)(env:Env)(t:TypeId)(len:Nat)(parts:Array (Nat×Operand)):Option (Nat×List Ac):=
 match eI P t with
 |some (ε,e,sz)=>
  let vs:=parts.toList.map λp=>BO env p.2
  if 0<sz/\Rz P e=ζ/\parts.toList.map (·.1)=List.range len/\(vs.all λv=>v.solid&&τ (θ v.cells=sz))=ζ/\len<=4096/\sz<=4096 then δ (sz,vs)else ε
 |_=>ε
theorem VQ{len sz:Nat}{vs:List Ac}(c:o.op=.buildSlice b len q)(d:Sr P env b len q=δ (sz,vs))(t:K (.vs sz vs) H):JV P N o env H K:=by grind[Sr,JV.buildSlice]
theorem dF{t:TypeId}{len sz:Nat}{f:Array (Nat×Operand)}{T:List Ac}(ho:o.op=.buildSlice t len f)(r:Sr P env t len f=δ (sz,T))
  (hk:K (.sl (θ H) 0 sz 0 (θ T)) (H++[.live 0 (T.flatMap Ac.cells)])):JV P N o env H K:=by
 unfold Sr at r;split at r
 case h_2=>cases r
 rename_i e y he;simp only at r;split at r
 case isFalse=>cases r
 rename_i L;obtain⟨a6,a4,F,a',O⟩:=L;simp only[Ao,EX]at r;obtain⟨rfl,a9⟩:=r;have ap:∀v∈T,v.solid=ζ/\θ v.cells=y:=λv S=>by grind[List.all_eq_true]
 apply C3 (by rw[ho];rfl);intro X h a w s Q;obtain⟨ar,b,hi⟩:=Qd he;obtain⟨i,z,G,_,hz,bb⟩:=UH a4;have B:=lg hi G;have hl:θ T=len:=by have k:=E! θ F;grind[θ]
 let A:List Value:=f.toList.map λp=>a.eval p.2;have V:θ A=len:=by grind[θ]
 have R:∀(j:Nat)(v:Ac)(c:Value),T[j]?=δ v->A[j]?=δ c->Bx (cx X h H w) (.agg v.cells) (.agg c.cells)/\θ v.cells=y:=by
  intro j v c S L;have Z:=ap v (BN S);refine⟨?_,Z.2⟩;subst a9;simp only[A,CL]at S L;cases r:f.toList[j]? with
  |none=>rw[r]at S;cases S
  |some p=>rw[r]at S L;simp only[Bt,Ao]at S L;subst S L;exact Wb (Dk s.env p.2) Z.1
 have J:∀c∈A,c.cells.size=y:=by
  intro c L;obtain⟨j,g⟩:=DU L;have Y:j<θ T:=by grind[Nat.lt_or_ge,List.getElem?_eq_none]
  obtain⟨k,n⟩:=R j _ c (Ar Y) g;cases k<;>grind
 have ax:(f.map λ(q:Nat×Operand)=>(q.1,a.eval q.2)).toList=(A.zipIdx 0).map λx=>(x.2,x.1):=by
  apply I6;intro j;simp only[Array.toList_map,CL,List.getElem?_zipIdx,DT,A];cases r:f.toList[j]? with
  |none=>rfl
  |some p=>
   have k:(f.toList.map (·.1))[j]?=δ p.1:=by rw[CL,r];rfl
   rw[F]at k;have Y:j<len:=by rcases Ax j len with n|n;exact n;rw[Cn (by simpa using n)]at k;cases k
   rw[Q6 Y]at k;simp only[Ao]at k;simp[k]
 have C:∀l:List Value,(∀c∈l,c.cells.size=y)->(l.flatMap λc=>c.cells.toList).length=θ l*y:=by
  intro l;induction l with
  |nil=>simp
  |cons c l ih=>intro hl;simp only[I7,AY,Dx,hl c k!,ih (λd M=>hl d (Ce _ M)),Ba,EI];omega
 have W:(A.flatMap λc=>c.cells.toList).length=len*y:=by rw[C A J,V]
 have I:∃D:Array Value,(execOp a.eval o).run P w=.ok (.value (.slice (δ ⟨w.heap.size,0,ε⟩) len len)) {w with heap:=w.heap.push (.cells D e)}/\D.toList=A.flatMap λc=>c.cells.toList:=by
  unfold execOp;rw[ho];by_cases h0:len=0;subst h0;have:A=[]:=EZ V;refine⟨#[],?_,by rw[this];rfl⟩;have r:f= #[]:=by have k:=E! θ F;simp at k;exact k
  simp[Instr.buildSlice,run_underlying ar,LG hi,r,Instr.fill,newRow,show Array.range 0= #[]from rfl];refine⟨(A.flatMap λc=>c.cells.toList).toArray,?_,rfl⟩;have al:¬len*i.size=0:=by rw[B];exact Nat.mul_ne_zero h0 o!
  have a5:¬len*i.size>2^24:=by rw[B];have:=mf O.1 O.2;omega
  have hf:=Go.Great.fill_whole (s:=y) a6 A ((Array.range (len*i.size)).map (z.cells[· %z.cells.size]!)) J (by simp[V,B]);have:=run_buildSlice (P:=P) w t e len (f.map λ(q:Nat×Operand)=>(q.1,a.eval q.2)) _ i z ar G hz a5 al (by rw[ax,B]at*;exact hf);simp only[Sem.run_bind];rw[show(f.map λx=>match x with|(i,x)=>(i,a.eval x))=(f.map λ(q:Nat×Operand)=>(q.1,a.eval q.2))from rfl,this];rfl
 obtain⟨D,I,ad⟩:=I;unfold Oper.wp;rw[I,Oper.upon_value]
 have U:∀(l:List Ac)(m:List Value),θ m=θ l→(∀(j:Nat)(v:Ac)(c:Value),l[j]?=δ v→m[j]?=δ c→Bx (cx X h H w) (.agg v.cells) (.agg c.cells))→
   Bx (cx X h H w) (.agg (l.flatMap Ac.cells)) (.agg (m.flatMap λc=>c.cells.toList).toArray):=by
  intro l;induction l with
  |nil=>intro m Z _;have:m=[]:=EZ (by simpa using Z);subst this;exact .agg rfl (λj c g=>by simp at g) λj v c g=>by simp at g
  |cons v l ih=>
   intro m Z hr;cases m with
   |nil=>simp at Z
   |cons c m=>
    have r0:=hr 0 v c rfl rfl;have r1:=ih m (by simpa using Z) λj v' c' k n=>hr (j+1) v' c' (by simpa using k) (by simpa using n);cases r0 with
    |agg ao a1 a7=>
     cases r1 with
     |agg a3 a2 a8=>
      have e2:(m.flatMap λc=>c.cells.toList).length=(l.flatMap Ac.cells).length:=by simpa using a3
      refine .agg (by simp[e2,ao]) (λj d g=>?_) λj u d g M=>?_;simp only[I7,lC]at g;rcases Ax j c.cells.size with n|n;rw[CT (by simpa using n)]at g;exact a1 j d (by simpa using g);rw[Ci (by simpa using n)]at g;exact a2 _ d (by simpa using g);simp only[I7,lC]at g M;rcases Ax j c.cells.size with n|n;rw[CT (by simpa using n)]at M;rw[CT o!]at g;exact a7 j u d g (by simpa using M);rw[Ci (by simpa using n)]at M;rw[Ci o!]at g;rw[Dx,ao]at M;exact a8 _ u d g (by simpa using M)
 have a0:=U T A o! λj v c k n=>(R j v c k n).1;have E:D=(A.flatMap λc=>c.cells.toList).toArray:=by rw[<-ad]
 have hh:=P6 a0;rw[<-E]at hh;refine⟨_,_,_,_,rfl,hk,.sl (by simp[cx]) (by simp[cx,Gh.at_]) ⟨_,_,by rw[hl]⟩ λ_=>.inr ⟨w.heap.size,len,by simp[cx,Gh.at_],o!,?_,by rw[hl]⟩,s.sim.push D e (0,0) _ hh,G8.push _ _ _⟩;simp only[cx,Gh.at_,if_true,E,eJ,W];omega
theorem mA{y:Operand}{U:IntKind}{sz:Nat}(ho:o.op=.makeSlice b g y)(he:eI P b=δ (ε,V,sz))(ar:0<sz)(M:Rz P V=ζ)(hz:Yw P V=δ d)(R:θ d=sz)
  (hx:BO env g=.int C i) (hy:BO env y=.int U a) (h0:0<=i) (h1:i<=a) (h2:a<=16777216) (hk:K (.sl (θ H) 0 sz 0 i.toNat) (H++[.live 0 (ς i.toNat d).flatten])):JV P N o env H K:=by
 apply C3 (by rw[ho];rfl);intro X h c w s Q;obtain⟨O,z,hi⟩:=Qd he;obtain⟨l,zv,t,ad,T,S⟩:=UH M;have k:=lg hi t;obtain⟨n,x,ao,ax,D⟩:=eC (cx X h H w) hz;have:n=l:=by grind[Option.some.inj]
 subst this;have:x=zv:=by grind[Option.some.inj]
 subst this;have W:=Dk s.env g;have Y:=Dk s.env y;rw[hx]at W;rw[hy]at Y;have ex:c.eval g=.int C i:=by generalize c.eval g=q at W;cases W;rfl
 have ey:c.eval y=.int U a:=by generalize c.eval y=q at Y;cases Y;rfl
 have F:(n.bytes:Int)*a<=281474976710656:=by have:(n.bytes:Int)*a<=1048576*16777216:=Int.mul_le_mul o! h2 o! o!;omega
 have Z:=run_make (P:=P) w b V n x O t T C U i a h0 h1 F o!;have G:(execOp c.eval o).run P w=.ok (.value (.slice (δ ⟨w.heap.size,0,ε⟩) i.toNat a.toNat)) (w.alloc (.cells (madeCells x.cells (a.toNat*n.size)) V)):=by unfold execOp;grind[Sem.run_bind,Result.andThen_ok,Sem.run_pure]
 unfold Oper.wp;rw[G,Oper.upon_value];have p:x.cells.size=sz:=by rw[S,k]
 have hh:Holds (cx X h H w) (ς i.toNat d).flatten (madeCells x.cells (a.toNat*n.size)) (0,0):=by
  have I:(ς i.toNat d).flatten.length=i.toNat*sz:=by simp[R]
  have A:i.toNat*sz<=a.toNat*n.size:=by rw[k];exact Mu _ o!
  have B:∀(m j:Nat),j<m*sz->(ς m d).flatten[j]?=d[j%sz]? :=by
   intro m;induction m with
   |zero=>intro j E;omega
   |succ m ih=>intro j E;rw[mb,pK];rcases Ax j sz with ap|al;grind[List.getElem?_append_left,Nat.mod_eq_of_lt];grind[List.getElem?_append_right,Nat.add_mul,Nat.mod_eq_sub_mod]
  refine⟨λj=>x.cells.getD (j%sz) undef,by rw[I,size_madeCells];exact A,λ_ _=>k!,λj v E=>?_⟩;have e:j<i.toNat*sz:=by grind[Nat.lt_or_ge,List.getElem?_eq_none]
  rw[B _ _ e]at E;have u:j%sz<x.cells.size:=by grind[Nat.mod_lt]
  have f:x.cells[j%sz]?=δ (x.cells[j%sz]'u):=Nr u;have J:x.cells.getD (j%sz) undef=x.cells[j%sz]'u:=by rw[QZ,f];rfl
  have r:(madeCells x.cells (a.toNat*n.size))[j]?=δ (x.cells[j%sz]'u):=by
   unfold madeCells;rw[be,Array.getElem?_range,C! (DB e A)];have L:j%x.cells.size<x.cells.size:=by rw[p];rw[p]at u;exact u
   rw[Bt,getElem!_pos x.cells _ L];simp only[p]
  simp only[J];cases D with
  |agg q1 q2 q3=>exact⟨r,q2 _ _ f,q3 _ _ _ E f⟩
 refine⟨_,_,_,_,rfl,hk,.sl (by simp[cx]) (by simp[cx,Gh.at_]) ⟨_,_,rfl⟩ λ_=>.inr ⟨w.heap.size,a.toNat,by simp[cx,Gh.at_],o!,?_,rfl⟩,s.sim.push _ V (0,0) _ hh,G8.push _ _ _⟩;simp[cx,Gh.at_,size_madeCells,k]
end
section
variable {X:Nat->Prop}{h:Gh}{H:Au}{w:World}
def I1.loopSet(s:I1 X h H w){L:mH}{r:Loop}(g:H[N]?=δ (.lp L))(f:h.io N=δ n)(C:w.heap[n]?=δ (.loop r))(st:LoopState)(p:Option Code):
  I1 X h (H.set N (.lp {L with state:=st,pending:=p})) (w.putObj n (.loop {r with state:=st,pending:=p}))/\G8 h H w h (H.set N (.lp {L with state:=st,pending:=p})) (w.putObj n (.loop {r with state:=st,pending:=p})):=by
 have d:N<θ H:=by rcases Ax N (θ H) with c|c;exact c;rw[Cn c]at g;cases g
 have D:G8 h H w h (H.set N (.lp {L with state:=st,pending:=p})) (w.putObj n (.loop {r with state:=st,pending:=p})):=by refine⟨rfl,rfl,rfl,k!,λk M hn=>?_,k!,λ_ _=>An _,λ_ _ _=>⟨rfl,rfl⟩,λk T=>?_,λk y O=>?_⟩;refine World.putObj_heap_other λe=>?_;subst e;exact hn ⟨N,_,g,k!,f⟩;obtain⟨i,e,l,j,c⟩:=T;rcases JU d l with⟨G,b⟩|⟨rfl,_⟩;exact .inl ⟨i,e,b,j,c⟩;exact .inl ⟨i,_,g,k!,c⟩;by_cases e:k=n;subst e;exact⟨_,World.putObj_heap_same (rq C)⟩;exact⟨y,by rw[World.putObj_heap_other e,O]⟩
 refine⟨s.of_ext D (λi e l j=>?_) (λi P z A k l c u x B o=>?_),D⟩;rcases JU d l with⟨G,b⟩|⟨rfl,rfl⟩;refine .inl ⟨b,rfl,rfl,rfl,λE a=>World.putObj_heap_other λe=>?_⟩;subst e;exact G (s.inj i N _ _ E b g j k! a f);obtain⟨K,E,S,a,q,l,c,B,o,I,J,F⟩:=s.lp i L g;rw[show(cx X h H w).io i=h.io i from rfl,f]at a;injection a with e;subst e;rw[show(cx X h H w).w.heap=w.heap from rfl,C]at q;injection q with e;injection e with e;subst e;refine .inr (.inr ⟨_,rfl,K,n,_,f,World.putObj_heap_same (rq C),rfl,rfl,B,o,I,J,λt v m=>⟨(F t v m).1,(F t v m).2.later (D.later X)⟩⟩);rcases JU d l with⟨Q,z⟩|⟨rfl,_⟩<;>rcases JU d c with⟨R,A⟩|⟨rfl,_⟩;exact s.inj _ _ _ _ k z A u x B o;exact s.inj _ _ _ _ k z g u k! B o;exact s.inj _ _ _ _ k g A k! x B o;rfl
def I1.kill(s:I1 X h H w)(a:N<θ H):I1 X h (H.set N .dead) w/\G8 h H w h (H.set N .dead) w:=by
 have n:G8 h H w h (H.set N .dead) w:=by refine⟨rfl,rfl,rfl,An _,λk r hn=>rfl,k!,λ_ _=>An _,λ_ _ _=>⟨rfl,rfl⟩,λk t=>?_,λk y u=>⟨y,u⟩⟩;obtain⟨i,e,d,b,j⟩:=t;rcases JU a d with⟨q,c⟩|⟨rfl,rfl⟩;exact .inl ⟨i,e,c,b,j⟩;exact(b rfl).elim
 refine⟨s.of_ext n (λi e d b=>?_) (λi x l m k d j f g o p=>?_),n⟩;rcases JU a d with⟨q,c⟩|⟨rfl,rfl⟩;exact .inl ⟨c,rfl,rfl,rfl,λv _=>rfl⟩;exact(b rfl).elim;rcases JU a d with⟨z,l⟩|⟨rfl,rfl⟩;rcases JU a j with⟨A,m⟩|⟨rfl,rfl⟩;exact s.inj _ _ _ _ k l m f g o p;exact(g rfl).elim;exact(f rfl).elim
end
def RP:Env->List Tmp->List Ac->Env
 |env,t::ts,v::vs=>RP (env.put t v) ts vs
 |env,_,_=>env
theorem mT{x:Cx}:∀(d:List Tmp)(e:List Ac)(b:List Value)(env:Env)(a:Act),(∀t∈d,t<a.tmps.size)→θ b=θ e→
  (∀(j:Nat)(v:Ac)(c:Value),e[j]?=δ v->b[j]?=δ c->Bx x v c)->OZ x env a->
  OZ x (RP env d e) {a with tmps:=(d.zip b).foldl (λ(tmps:Array Value)(q:Tmp×Value)=>tmps.setIfInBounds q.1 q.2) a.tmps}
 |[],e,b,env,a,_,_,_,h=>by simpa[RP]using h
 |t::d,[],b,env,a,_,hl,_,h=>by have:b=[]:=EZ q!;subst this;simpa[RP]using h
 |t::d,v::e,c::b,env,a,ht,hl,hr,h=>by
  have f:=h.put (ht t k!) (hr 0 v c rfl rfl);exact mT d e b (env.put t v) (a.put (δ t) c) (λu i=>by rw[dt];exact ht u (Ce _ i)) q!
   (λj k g f l=>hr (j+1) k g q! q!) f
def kD:∀(l:List (Tmp×Value))(a:Array Value),(l.foldl (λ(tmps:Array Value)(q:Tmp×Value)=>tmps.setIfInBounds q.1 q.2) a).size=a.size
 |[],a=>rfl
 |q::l,a=>by rw[Xn,kD l];simp
def AEq(id:Nat)(K:Ac->Au->Prop):Exit->Env->Au->Prop
 |.normal,_,H=>∃L,H[id]?=δ (.lp L)/\K (.bool ζ) (H.set id (.lp {L with state:=.ready,pending:=ε}))
 |.ret,_,H=>∃L,H[id]?=δ (.lp L)/\K (.bool η) (H.set id (.lp {L with state:=.done,pending:=δ .ret}))
 |.exit k,_,H=>∃L,H[id]?=δ (.lp L)/\K (.bool η) (H.set id (.lp {L with state:=.done,pending:=δ (.exit k)}))
 |_,_,_=>False
section
variable {P:Program}{N:Nat}{o:Oper}{env:Env}{H:Au}{K:Ac->Au->Prop}
theorem JV.yield{L:mH}(ho:o.op=.call Y)(O:Y.callee=.value g)(hf:BO env g=.yf n)(he:H[n]?=δ (.lp L))
  (hn:Y.args.size=L.params.size) (a5:(L.params.toList.all λt=>decide (t<L.n))=ζ)
  (hw:Jg P L.n L.assign (RP L.env L.params.toList (Y.args.toList.map (BO env))) H λe env1 H1=>e=.normal/\∃A,H1[n]?=δ (.lp A)/\A.state=.ready/\Jg P L.n L.body env1 (H1.set n (.lp {A with state:=.busy})) (AEq n K)):JV P N o env H K:=by
 intro ro X h a w s Q;obtain⟨hg,B,r,F,hb,h1,h2,h3,h4,h5,h6,h7⟩:=s.sim.lp n L he;have F:h.io n=δ B:=F;have hb:w.heap[B]?=δ (.loop r):=hb;have G:=Dk s.env g;rw[hf]at G;have al:a.eval g=.func (.yield B) #[] #[]:=by generalize a.eval g=cf at G;cases G<;>grind
 have c:(execOp a.eval o).run P w=.ok (.round B r.fn ((r.params.zip (Y.args.map a.eval)).foldl (λtmps (t,a)=>tmps.setIfInBounds t a) r.tmps) r.assign r.body) w:=by unfold execOp;rw[ho];simp only[resolve,O,al,Deferred.ofValue,Sem.run_bind,Sem.run_pure,Result.andThen_ok,invoke];rw[show(#[]++Y.args.map a.eval:Array Value)=Y.args.map a.eval by simp];exact run_yield hb (by rw[Array.size_map,hn,h3])
 refine⟨λ_ _=>O!,?_⟩;rw[Oper.semAt_eq _ _ _ (λY hc=>by rw[ho]at hc;cases hc),c,Oper.uponIn_round];refine⟨(λh=>by cases h),?_⟩;let R:Ending->World->Prop:=λe I=>∃Y v y M,e=.returned Y/\K v M/\Bx (cx X y M I) v Y/\I1 X y M I/\G8 h H w y M I;refine RoundIn.mono (R:=R) ?_ (by rintro e I ⟨c',v,y,M,rfl,k,hv,hs,hx⟩;exact⟨c',v,y,M,rfl,k,hv,hs,hx⟩);apply roundIn_of_wpIn trivial;have a3:((r.params.zip (Y.args.map a.eval)).foldl (λtmps (t,a)=>tmps.setIfInBounds t a) r.tmps)=((L.params.toList.zip (Y.args.toList.map a.eval)).foldl (λ(tmps:Array Value)(q:Tmp×Value)=>tmps.setIfInBounds q.1 q.2) r.tmps):=by grind[Array.toList_zip,Array.toList_map]
 rw[a3,h4,h5];have Z:St X h L.n (RP L.env L.params.toList (Y.args.toList.map (BO env))) H {tmps:=(L.params.toList.zip (Y.args.toList.map a.eval)).foldl (λ(tmps:Array Value)(q:Tmp×Value)=>tmps.setIfInBounds q.1 q.2) r.tmps,defers:=[]} w:=by
  refine⟨s.sim,?_,by rw[kD,h6]⟩;refine mT (x:=cx X h H w) L.params.toList (Y.args.toList.map (BO env)) (Y.args.toList.map a.eval) L.env {tmps:=r.tmps,defers:=[]} (λt ht=>?_) k! (λj v d hj hd=>?_) (λt v m=>⟨by rw[h6];exact(h7 t v m).1,(h7 t v m).2⟩);grind;rw[CL]at hj hd;cases hx:Y.args.toList[j]? with
  |none=>grind
  |some x=>rw[hx]at hj hd;simp only[Bt,Ao]at hj hd;subst hj hd;exact Dk s.env x
 refine wpIn_mono (hw (δ B) X h _ w Z λl e=>by injection e with e;subst e;exact⟨r,hb⟩) ?_;rintro e a1 w1 ⟨y,env1,H1,⟨rfl,A,S,a0,E⟩,s1,x1,_⟩;obtain⟨U,J,r1,f,p,q1,q2,q3,q4,q5,q6,q7⟩:=s1.sim.lp n A S;have f:y.io n=δ J:=f;have p:w1.heap[J]?=δ (.loop r1):=p;have V:n<θ H:=by rcases Ax n (θ H) with h2|h2;exact h2;grind[List.getElem?_eq_none]
 have eB:J=B:=by have:=(x1.same n V (by rw[show y.gen n=0 from U,show h.gen n=0 from hg])).1;rw[f,F]at this;injection this
 subst eB;obtain⟨ar,ad⟩:=s1.sim.loopSet S f p .busy A.pending;have ap:({r1 with state:=.busy}:Loop)={r1 with state:=.busy,pending:=A.pending}:=by rw[<-q2]
 refine⟨_,run_beginRound p (by rw[q1,a0]),?_⟩;rw[ap];refine wpIn_mono (E (δ J) X y a1 _ ⟨ar,s1.env.later (ad.later X),s1.size⟩ λl e=>by injection e with e;subst e;exact⟨_,World.putObj_heap_same (rq p)⟩) ?_;rintro e a2 w2 ⟨D,env2,H2,q,s2,x2,_⟩
 have C:∀(b:Option Code)(u:mH),H2[n]?=δ (.lp u)→K (.bool b.isNone) (H2.set n (.lp {u with state:=if b.isNone then .ready else .done,pending:=b}))→
   ∃v I,(Instr.endRound J b).run P w2=.ok v I/\R (.returned v) I:=by
  intro b u T hk;obtain⟨ao,B2,r2,i,z,p1,p2,p3,p4,p5,p6,p7⟩:=s2.sim.lp n u T;have i:D.io n=δ B2:=i;have z:w2.heap[B2]?=δ (.loop r2):=z;have W:n<θ H1:=DB V x1.n;have eB:B2=J:=by have:=(x2.same n (by simpa using W) (by rw[show D.gen n=0 from ao,show y.gen n=0 from U])).1;rw[i,f]at this;injection this
  subst eB;obtain⟨ax,a4⟩:=s2.sim.loopSet T i z (if b.isNone then .ready else .done) b;exact⟨_,_,run_endRound b z,_,_,D,_,rfl,hk,.bool _,ax,((x1.trans ad).trans x2).trans a4⟩
 cases e with
 |normal=>obtain⟨u,q1,q2⟩:=q;exact C ε u q1 q2
 |ret=>obtain⟨u,q1,q2⟩:=q;exact C (δ .ret) u q1 q2
 |exit k=>obtain⟨u,q1,q2⟩:=q;exact C (δ (.exit k)) u q1 q2
 |_=>exact q.elim
end
section
variable {P:Program}{N:Nat}{env:Env}{H:Au}{Q:Exit->Env->Au->Prop}
def AEk(P:Program)(N:Nat)(env:Env)(id:Nat)(Q:Exit->Env->Au->Prop)(H:Au):Prop:=
 ∃L,H[id]?=δ (.lp L)/\L.state≠.busy/\(match L.pending with
  |none=>Q .normal env (H.set id .dead)
  |some c=>Jg P N c env (H.set id .dead) Q)
def zt{args:Array Value}{R:Ending->World->Prop}(h:Calls P p args j R):CallsIn (FR m) n P p args j R:=by
 have a:CallsIn Fence.wide n P p args j R:=callsIn_wide.2 h;cases m with
 |none=>exact a
 |some l=>exact a
theorem lz{f:Operand}{z:Array Tmp}{assign body:Code}{first o:List Ac}{G:FuncId}(env0:Env)(ao:∀p∈env0,p∈env)(hf:BO env f=.fn (.func G) first o)(hE:Enters P G=ζ)
  (U:Ea P G (first++[.yf (θ H)]++o) (H++[.lp ⟨N,env0,z,assign,body,.ready,ε⟩]) λ_ E=>AEk P N env (θ H) Q E):Jg P N (.rangeFunc f z assign body) env H Q:=by
 intro r X h a w s k;have Y:=Dk s.env f;rw[hf]at Y
 obtain⟨b,g,ap,n1,n2,a0,a1⟩:∃b g,a.eval f=.func (.func G) b g∧b.size=θ first∧g.size=θ o∧
   (∀(j:Nat)(v:Ac)(c:Value),first[j]?=δ v->b[j]?=δ c->Bx (cx X h H w) v c)/\(∀(j:Nat)(v:Ac)(c:Value),o[j]?=δ v->g[j]?=δ c->Bx (cx X h H w) v c):=by
  generalize a.eval f=cf at Y;cases Y<;>grind
 have main:∀(i:World)(u:Loop)(mark:List Deferred),I1 X h H i→G8 h H w h H i→u.state=.ready→u.pending=ε→u.tmps=a.tmps→u.params=z→u.assign=assign→u.body=body→mark.Nodup→
   (∀d∈mark,∃D,d={target:=.collected D,args:= #[]}/\w.heap.size<=D/\i.heap[D]?=δ (.deferred (δ [])))->
   CallsIn (FR r) (0-1) P G (b++ #[.func (.yield i.heap.size) #[] #[]]++g) (i.alloc (.loop u))
    (rangePost (FR r) 0 P i.heap.size (λe a' Z=>∃I F E,Q e F E/\St X I N F E a' Z/\G8 h H w I E Z/\Vj a w a' Z) {a with defers:=mark++a.defers}):=by
  intro i u mark s0 C e1 e2 e3 e4 e5 e6 ar V;have xp:=G8.push (h:=h) (H:=H) (w:=i) (.loop u) 0 (.lp ⟨N,env0,z,assign,body,.ready,ε⟩);have sp:=s0.push_any (.loop u) 0 (.lp ⟨N,env0,z,assign,body,.ready,ε⟩) λ_=>.inr ⟨_,rfl,by simp[cx,Gh.at_],i.heap.size,u,by simp[cx,Gh.at_],by show(i.heap.push (.loop u))[i.heap.size]?=_;simp,e1,e2,e4,e5,e6,by rw[e3];exact s.size,λt v m=>by obtain⟨m1,m2⟩:=s.env t v (ao _ m);refine⟨by rw[<-s.size];exact m1,?_⟩;rw[e3];exact m2.later ((C.trans xp).later X)⟩;have ea:i.alloc (.loop u)={i with heap:=i.heap.push (.loop u)}:=rfl;rw[ea];generalize a5:({i with heap:=i.heap.push (.loop u)}:World)=W1 at xp sp;generalize a6:h.at_ (θ H) (δ i.heap.size) 0 0=g1 at xp sp;have R:g1.gen (θ H)=0/\g1.io (θ H)=δ i.heap.size:=by grind[Gh.at_]
  have hl:=(C.trans xp).later X;have ax:(b++ #[Value.func (.yield i.heap.size) #[] #[]]++g).size=(first++[Ac.yf (θ H)]++o).length:=by simp[n1,n2];omega
  have S:∀(j:Nat)(v:Ac)(c:Value),(first++[Ac.yf (θ H)]++o)[j]?=δ v->(b++ #[Value.func (.yield i.heap.size) #[] #[]]++g)[j]?=δ c->Bx (cx X g1 (H++[.lp ⟨N,env0,z,assign,body,.ready,ε⟩]) W1) v c:=by
   intro j v c J y;rcases Ax j (θ first+1)with a4|a2;rw[CT w!]at J;rw[X6 w!]at y;rcases Ax j (θ first) with al|a3
   rw[CT al]at J;rw[X6 o!]at y;exact(a0 j v c J y).later hl;have:j=θ first:=o!
   subst this;rw[Ci (An _),Gp]at J;rw[sg o!,n1,Gp]at y;simp at J y;subst J y;exact .yf (by simp[cx]) rfl λ_=>⟨i.heap.size,R.2,rfl⟩
   rw[Ci w!]at J;rw[sg w!]at y;refine(a1 _ v c ?_ y).later hl;simpa[n1]using J
  have hC:=U X g1 W1 _ sp ax S;apply (zt hC).mono;rintro e Z ⟨c,v,I,E,rfl,⟨L,hL,T,hQ⟩,sc,rv,x⟩;obtain⟨hg,B,M,A,hb,q1,q2,q3,q4,q5,q6,q7⟩:=sc.lp (θ H) L hL;have A:I.io (θ H)=δ B:=A;have hb:Z.heap[B]?=δ (.loop M):=hb;have eB:B=i.heap.size:=by have:=(x.same (θ H) k! (by rw[show I.gen (θ H)=0 from hg,R.1])).1;rw[A,R.2]at this;injection this
  subst eB;obtain⟨s2,x2⟩:=sc.loopSet hL A hb .exhausted M.pending;have ad:θ H<(E.set (θ H) (.lp {L with state:=.exhausted,pending:=M.pending})).length:=by have:=x.n;simp at this⊢;omega
  obtain⟨s3,x3⟩:=s2.kill ad;rw[X1]at s3 x3;have O:=((xp.trans x).trans x2).trans x3;have st:St X I N env (E.set (θ H) .dead) {a with defers:=mark++a.defers} (Z.putObj i.heap.size (.loop {M with state:=.exhausted,pending:=M.pending})):=⟨s3,λt v m=>⟨(s.env t v m).1,(s.env t v m).2.later ((C.trans O).later X)⟩,s.size⟩
  have df:Vj a w {a with defers:=mark++a.defers} (Z.putObj i.heap.size (.loop {M with state:=.exhausted,pending:=M.pending})):=by refine⟨mark,rfl,ar,λd hd=>?_⟩;obtain⟨D,h1,h2,h3⟩:=V d hd;exact⟨D,h1,h2,O.defs s0 h3⟩
  refine⟨M.pending,_,run_endLoop hb (by rw[q1];exact T),?_⟩;rw[q2]at*;cases hp:L.pending with
  |none=>rw[hp]at hQ st df O;exact⟨I,env,_,hQ,st,C.trans O,df⟩
  |some cd=>rw[hp]at hQ st df O s3;apply wpIn_mono (hQ r X I _ _ st (k.later (C.trans O)));rintro e' a' a7 ⟨h2,env2,H2,q,s',x',d'⟩;exact⟨h2,env2,H2,q,s',(C.trans O).trans x',df.trans s3 (C.trans O) x' d'⟩
 have K:∀(l:Nat)(W:World),(resolve a.eval (rangeCall f l) 0).run P W=.ok {target:=.fn (.func G) g,args:=b++ #[.func (.yield l) #[] #[]]} W:=by intro l W;have y:a.eval (.const (.func (.yield l) #[] #[]))=.func (.yield l) #[] #[]:=rfl;simp[resolve,ap,y,Deferred.ofValue]
 refine wpIn_rangeFunc λfn _=>?_;cases r with
 |none=>
  have C:G8 h H w h H (w.alloc (.deferred (δ []))):=G8.grow rfl rfl rfl (by show _<=(w.heap.push _).size;simp) λk hk=>by show(w.heap.push _)[k]?=_;grind
  have s0:I1 X h H (w.alloc (.deferred (δ []))):=s.sim.grow rfl rfl rfl (by show _<=(w.heap.push _).size;simp) λk hk=>by show(w.heap.push _)[k]?=_;rw[TT,D! o!]
  have hm:=main (w.alloc (.deferred (δ []))) {state:=.ready,pending:=ε,fn,tmps:=a.tmps,params:=z,assign,body,defers:=w.heap.size} [{target:=.collected w.heap.size,args:= #[]}] s0 C rfl rfl rfl rfl rfl rfl k! λd hd=>by simp only[BA]at hd;exact⟨w.heap.size,hd,An _,World.alloc_heap_new w _⟩
  rw[World.size_alloc]at hm;exact⟨_,_,_,_,_,_,_,_,run_enterLoop_outer fn a.tmps z assign body,K _ _,λ_ _=>O!,by simp only[invoke];exact gz hE _ _,(λh=>by cases h),hm⟩
 |some l=>
  obtain⟨x,hx⟩:=k l rfl;have hm:=main w {state:=.ready,pending:=ε,fn,tmps:=a.tmps,params:=z,assign,body,defers:=x.defers} [] s.sim (G8.refl _ _ _) rfl rfl rfl rfl rfl rfl k! λd hd=>by cases hd
  exact⟨_,_,_,_,_,_,_,_,run_enterLoop_inner hx fn a.tmps z assign body,K _ _,λ_ _=>O!,by simp only[invoke];exact gz hE _ _,(λh=>by cases h),hm⟩
end
def isQ:Op->Bool
 |.move _|.assign _|.pick .. |.load .. |.nilCheck _|.binOp .. |.unOp .. |.convert .. |.fieldAddr .. |.field .. |.indexAddr .. |.index .. |.slice .. |.extract .. |.makeFunc .. |.build .. =>ζ
 |.call c=>match c.callee with|.builtin .len=>ζ|.builtin .max=>ζ|.builtin .min=>ζ|_=>η
 |_=>η
abbrev AIl:=FuncId->List Ac->Au->Option (Ac×Au)
abbrev AIm:=Nat->Code->Env->Au->Option (Exit×Env×Au)
def ww(P:Program)(env:Env)(H:Au)(op:Op):Option Ac:=
 match op with
 |.buildSlice t len parts=>match Sr P env t len parts with|some (sz,vs)=>δ (.vs sz vs)|none=>ε
 |op=>Cd P env H op
def dq(op:Op):Bool:=match op with|.buildSlice .. =>ζ|op=>isQ op
def xW(ops:Array Oper)(m:List Nat):Nat->List Nat->List Nat
 |0,_=>[]
 |n+1,left=>
  let rdy:=left.filter λi=>left.all λp=>p==i|| !PM m p i
  let qs:=rdy.filter λi=>match ops[i]? with|some o=>dq o.op|none=>η
  let last:=λi=>left.all λj=>j==i||PM m i j||IJ ops j
  let es:=rdy.filter λi=>!IJ ops i&&last i
  let as:=rdy.filter λi=>IJ ops i&&last i
  match qs,es,as with
  |i::_,_,_=>i::xW ops m n (left.erase i)
  |[],i::_,_=>i::xW ops m n (left.erase i)
  |[],[],i::_=>i::xW ops m n (left.erase i)
  |[],[],[]=>[]
def AAb(ops:Array Oper):List Nat:=xW ops (IR ops.toList []) ops.size (List.range ops.size)
section
variable {P:Program}{call:AIl}{code:AIm}{H H':Au}{v:Ac}{F:List Nat}
theorem kB{N:Nat}(b:ww P f H o.op=δ v):ZX P N o f H (AAf f o.op) v:=by
 unfold ww at b;split at b;rename_i t len a i;split at b;rename_i sz l d;injection b with e;subst e;intro c g h k;refine VQ i (sz:=sz) (vs:=l) ?_ ⟨rfl,rfl⟩;rw[<-d];have j:=fx h;unfold Sr;have:(a.toList.map λp=>BO c p.2)=a.toList.map λp=>BO f p.2:=Mt λp d=>by grind[Op.operands]
 rw[this];cases b;exact XE b
end
def kT(F:Fence)(n0:Nat)(P:Program)(c:Code)(K:Exit->Act->World->Prop)(a:Act)(w:World):Prop:=
 ∀(b:Frame)(k:List Item)(cs:List Frame),b.roundOf=F.round->F.fn b.fn->F.room (θ cs+1+n0)->
  ∃e a' w',K e a' w'/\ArrivesIn (Machine.fenced P F) P (lone (b.atR a (.code c:: .inLoop c::k)) cs w) b k cs e a' w'
section
variable {P:Program}{F:Fence}{n0:Nat}{c:Code}{K:Exit->Act->World->Prop}{a:Act}{w:World}
def yu(h:kT F n0 P c K a w):(Code.loop c).wpIn F n0 P K a w:=by intro b k j f g hr;obtain⟨e,i,m,l,d⟩:=h b k j f g hr;exact⟨e,i,m,l,.of_steps (.one (fenced_calm g hr rfl) stepR_loop) d⟩
def bI(h:c.wpIn F n0 P (Exit.then (λt u=>kT F n0 P c K t u) K) a w):kT F n0 P c K a w:=by
 intro b k s p r hr;obtain⟨e,f,g,m,d⟩:=h b (.inLoop c::k) s p r hr;cases e with
 |normal=>obtain⟨o,n,q,j,i⟩:=m b k s p r hr;exact⟨o,n,q,j,.of_steps (StepsIn.trans d (.one (fenced_calm r hr rfl) stepR_inLoop)) i⟩
 |exit id=>exact⟨_,f,g,m,.pass (x:=.inLoop c) rfl (λ_ _=>.inl k!) d⟩
 |goto l=>exact⟨_,f,g,m,.pass (x:=.inLoop c) rfl (λ_ _=>.inl k!) d⟩
 |ret=>exact⟨_,f,g,m,.pass (x:=.inLoop c) rfl (λ_ _=>.inl k!) d⟩
 |panic v=>exact⟨_,f,g,m,.pass (x:=.inLoop c) rfl (λ_ _=>.inl k!) d⟩
 |outgrown=>exact⟨_,f,g,m,.pass (x:=.inLoop c) rfl (λ_ _=>.inl k!) d⟩
theorem WW(h:kT F n0 P c K a w)(m:∀e a w,K e a w->z e a w):kT F n0 P c z a w:=by intro b k i d j hr;obtain⟨e,l,o,n,g⟩:=h b k i d j hr;grind
end
def Ht(P:Program)(N:Nat)(c:Code)(env:Env)(H:Au)(Q:Exit->Env->Au->Prop):Prop:=
 ∀(r:Option Nat)(X:Nat->Prop)(h:Gh)(a:Act)(w:World),St X h N env H a w->ZY r w->
  kT (FR r) 0 P c (λe a' w'=>∃h' env' H',Q e env' H'/\St X h' N env' H' a' w'/\G8 h H w h' H' w'/\Vj a w a' w') a w
section
variable {P:Program}{N:Nat}{env:Env}{H:Au}{Q:Exit->Env->Au->Prop}
theorem Ht.mono(h:Ht P N c env H Q)(i:∀e b d,Q e b d->B e b d):Ht P N c env H B:=by intro r X g a w s k;apply WW (h r X g a w s k);grind
def Jg.of_loopW(h:Ht P N c env H Q):Jg P N (.loop c) env H Q:=λr X g a w s k=>yu (h r X g a w s k)
def Ht.unroll(h:Jg P N c env H (dy (λb f=>∃env2 d,FU N (θ H) b f env2 d/\Ht P N c env2 d Q) Q)):Ht P N c env H Q:=by
 intro r X g a w s k;refine bI (wpIn_mono (h r X g a w s k) ?_);rintro e a2 t ⟨m,env2,d,q,o,v,j⟩;cases e with
 |normal=>obtain⟨l,F,n,B⟩:=q;obtain⟨z,p,A,C⟩:=n.2 X m a2 t o;have i:=FU.ext rfl n.1 A C v;apply WW (B r X z a2 t p (k.later i));rintro e G I ⟨y,b,f,D,E,u,x⟩;exact⟨y,b,f,D,E,i.trans u,j.trans p.sim i u x⟩
 |_=>exact⟨m,env2,d,q,o,v,j⟩
def sK(P:Program)(N:Nat)(c:Code)(env:Env)(H:Au)(Q:Exit->Env->Au->Prop):Prop:=
 match c with
 |.loop x=>Ht P N x env H Q
 |c=>Jg P N c env H Q
def sK.awp(h:sK P N c env H Q):Jg P N c env H Q:=by unfold sK at h;split at h;exact .of_loopW h;exact h
def EF(hn:∀x,c≠.loop x)(h:Jg P N c env H Q):sK P N c env H Q:=by simp_all[sK]
def sK.mono(h:sK P N c env H Q)(f:∀e a b,Q e a b->B e a b):sK P N c env H B:=by
 cases c with
 |loop x=>exact Ht.mono h f
 |_=>exact Jg.mono h f
def Ht.weak{d:Au}(y:FU N (θ H) env H f d)(h:Ht P N c f d Q):Ht P N c env H Q:=by intro r X g a w s k;obtain⟨m,t,n,o⟩:=y.2 X g a w s;apply WW (h r X m a w t k);rintro e v x ⟨l,b,i,q,p,u,j⟩;exact⟨l,b,i,q,p,(FU.ext rfl y.1 n o (G8.refl g H w)).trans u,j⟩
def sK.weak{a:Au}(b:FU N (θ H) env H f a)(h:sK P N c f a Q):sK P N c env H Q:=by
 cases c with
 |loop x=>exact Ht.weak b h
 |_=>exact Jg.weak b h
def Jg.after(h:Jg P N c env H (λe b f=>∃env2 d,FU N (θ H) b f env2 d/\Q e env2 d)):Jg P N c env H Q:=by intro r X g a w s k;apply wpIn_mono (h r X g a w s k);rintro e j v ⟨m,b,f,⟨env2,d,i,q⟩,t,x,l⟩;obtain⟨n,u,o,p⟩:=i.2 X m j v t;exact⟨n,env2,d,q,u,FU.ext rfl i.1 o p x,l⟩
def Ht.after(h:Ht P N c env H (λe b f=>∃env2 d,FU N (θ H) b f env2 d/\Q e env2 d)):Ht P N c env H Q:=by intro r X g a w s k;apply WW (h r X g a w s k);rintro e j v ⟨m,b,f,⟨env2,d,i,q⟩,t,x,l⟩;obtain⟨n,u,o,p⟩:=i.2 X m j v t;exact⟨n,env2,d,q,u,FU.ext rfl i.1 o p x,l⟩
def sK.after(h:sK P N c env H (λe a d=>∃env2 b,FU N (θ H) a d env2 b/\Q e env2 b)):sK P N c env H Q:=by
 cases c with
 |loop x=>exact Ht.after h
 |_=>exact Jg.after h
end
def DQ(v:Ac)(H:Au):Ac->Au->Prop:=λu H'=>u=v/\H'=H
def Ub(e:Exit)(env:Env)(H:Au):Exit->Env->Au->Prop:=λe1 env1 H1=>e1=e/\env1=env/\H1=H
def callT(ρ:Operand->Ac):Op->Option (Sum (FuncId×List Ac) (Nat×List Ac))
 |.call c=>
  match c.callee with
  |.value f=>
   match ρ f with
   |.fn (.func F) first caps=>δ (.inl (F,first++c.args.toList.map ρ++caps))
   |.yf id=>δ (.inr (id,c.args.toList.map ρ))
   |_=>ε
  |_=>ε
 |_=>ε
def AGt(H:Au):List (Nat×Fk)->Au
 |[]=>H
 |(i,e)::r=>AGt (H.set i e) r
section
variable {X:Nat->Prop}{h:Gh}{H:Au}{w:World}
def I1.regen(s:I1 X h H w){id g g':Nat}{cs:List Ac}(n:H[id]?=δ (Fk.live g cs))(I:g≤g'):
  I1 X (h.at_ id (h.io id) g' (h.cap id)) (H.set id (.live g' cs)) w/\G8 h H w (h.at_ id (h.io id) g' (h.cap id)) (H.set id (.live g' cs)) w:=by
 obtain⟨q,p⟩:=s.live id g cs n;have l:h.gen id=g:=q;have t:id<θ H:=by rcases Ax id (θ H) with z|z;exact z;rw[Cn z]at n;cases n
 rcases p with⟨F,A⟩|⟨B,j,T,G,f,D,L,o,E,C,c⟩;have d:h.io id=ε:=F;rcases Nat.eq_or_lt_of_le I with e|M;subst e;have x:h.at_ id (h.io id) g (h.cap id)=h:=by unfold Gh.at_;cases h;simp only[Gh.mk.injEq];refine⟨funext λi=>?_,funext λi=>?_,funext λi=>?_⟩;split<;>simp_all;split;rename_i r;subst r;exact l.symm;rfl;split<;>simp_all
 have y:H.set id (.live g cs)=H:=by apply I6;intro i;rw[TY];split;rename_i r;subst r;exact n.symm;rfl
 rw[x,y];exact⟨s,G8.refl _ _ _⟩;subst A;obtain⟨m,rfl⟩:∃m,g'=m+1:=⟨g'-1,o!⟩
 have key:∀(v:Gh)(u:Au)(k:Nat),v=h.at_ id ε (g+k) (h.cap id)->u=H.set id (.live (g+k) [])->(I1 X v u w/\G8 h H w v u w)->(I1 X (h.at_ id ε (g+(k+1)) (h.cap id)) (H.set id (.live (g+(k+1)) [])) w/\G8 h H w (h.at_ id ε (g+(k+1)) (h.cap id)) (H.set id (.live (g+(k+1)) [])) w):=by
  intro v u k x y J;subst x y;obtain⟨q1,q2⟩:=J.1.bump (id:=id) (g:=g+k) (cs:=[]) (by simp[t]) (by simp[Gh.at_]);have K:(h.at_ id ε (g+k) (h.cap id)).at_ id ε (g+k+1) ((h.at_ id ε (g+k) (h.cap id)).cap id)=h.at_ id ε (g+(k+1)) (h.cap id):=by unfold Gh.at_;simp only[Gh.mk.injEq];refine⟨funext λi=>?_,funext λi=>?_,funext λi=>?_⟩<;>by_cases r:i=id<;>simp[r,eN]
  rw[K,X1]at q1 q2;exact⟨q1,J.2.trans q2⟩
 have all:∀k,I1 X (h.at_ id ε (g+(k+1)) (h.cap id)) (H.set id (.live (g+(k+1)) [])) w/\G8 h H w (h.at_ id ε (g+(k+1)) (h.cap id)) (H.set id (.live (g+(k+1)) [])) w:=by
  intro k;induction k with
  |zero=>exact s.bump n d
  |succ k N=>exact key _ _ (k+1) rfl rfl N
 have:=all (m-g);rw[show g+(m-g+1)=m+1 by omega]at this;rw[d];exact this;have b:h.io id=δ B:=D;have a:j.size=h.cap id:=o;have:=s.upd (g':=g') (B:=B) (arr:=j) (T:=T) (fz:=G) (w':=w) n I (λ_=>⟨b,a.symm⟩) (.inl b) L (λ_ _ _=>rfl) rfl rfl rfl (An _) ⟨f,E,C,c⟩;rw[a]at this;rw[b];exact this
end
section
variable {P:Program}{N:Nat}{o:Oper}{env:Env}{H:Au}{K:Ac->Au->Prop}
def Bx.regen{id g g' sz off n:Nat}(a:h.gen id=g)(X:Bx (cx M h H j) (.sl id g sz off n) r):
  Bx (cx M (h.at_ id (h.io id) g' (h.cap id)) (H.set id I) j) (.sl id g' sz off n) r:=by
 cases X with
 |sl b i d f=>refine .sl (by simpa[cx]using b) (by simp[cx,Gh.at_]) d λ_=>?_;have:=f a;simpa[cx,Gh.at_]using this
def JV.regen{id g g' sz off n:Nat}{cs:List Ac}{H1:Au}(j:g<=g')(d:H1[id]?=δ (Fk.live g cs))(h:JV P N o env H λv b=>v=.sl id g sz off n/\b=H1)(k:K (.sl id g' sz off n) (H1.set id (.live g' cs))):JV P N o env H K:=by intro r X f a w s Q;apply V6 (h r X f a w s Q);rintro p t ⟨c,v,q,b,i,⟨rfl,rfl⟩,l,e,m⟩;obtain⟨q1,q2⟩:=e.regen (g':=g') d j;exact⟨c,_,_,_,i,k,Bx.regen (e.live id g cs d).1 l,q1,m.trans q2⟩
theorem Rv{sx xx:Operand}{t e:TypeId}{id g g' n sz m:Nat}{cs news:List Ac}(ho:o.op=.call {callee:=.builtin .append,args:= #[sx,xx],argTypes:= #[t,t]})(he:eI P t=δ (ε,e,sz))(S:0<sz)(b5:Rz P e=ζ)
  (hs:BO env sx=.sl id g sz 0 n) (Z:H[id]?=δ (Fk.live g cs)) (hn:θ cs=n*sz) (hx:J6 H sz (BO env xx)=δ (m,news)) (bl:n+m<=16777216)
  (b9:g<g'\/(g'=g/\m=0)) (hk:K (.sl id g' sz 0 (n+m)) (H.set id (.live g' (cs++news)))):JV P N o env H K:=by
 apply C3 (by rw[ho];rfl);intro X h a w s Q;obtain⟨a7,b,hi⟩:=Qd he;obtain⟨i,z,y,bz,hz,b7⟩:=UH b5;have u:=lg hi y;have rs:=Dk s.env sx;rw[hs]at rs;have rx:=Dk s.env xx;obtain⟨ap,a9⟩:=s.sim.live id g cs Z;have b1:h.gen id=g:=ap;have L:id<θ H:=by rcases Ax id (θ H) with U|U;exact U;grind[List.getElem?_eq_none]
 have a6:J6 H sz (.sl id g sz 0 n)=δ (n,cs):=by grind[J6]
 unfold Oper.wp;have bG:(h.io id=ε/\n=0/\a.eval sx=.slice ε 0 0)\/∃B cap,h.io id=δ B/\n<=cap/\cap*sz<=h.cap id/\a.eval sx=.slice (δ ⟨B,0,ε⟩) n cap:=by
  generalize a.eval sx=c at rs;cases rs with
  |sl p q r hc=>rcases hc ap with⟨h1,U,_,h3⟩|⟨B,cap,h1,U,h3,h4⟩;exact .inl ⟨h1,U,h3⟩;exact .inr ⟨B,cap,h1,U,by simpa[cx]using h3,h4⟩
 have ao:∀(l:Option Addr)(cap:Nat),a.eval sx=.slice l n cap→cap<n+m→0<m→
   Oper.upon P o a (λa' V=>∃c v h' H',a'=a.put o.dst c/\K v H'/\Bx (cx X h' H' V) v c/\I1 X h' H' V/\G8 h H w h' H' V) Q ((execOp a.eval o).run P w):=by
  intro l cap A a2 b3;have sd:=s.sim.drew;obtain⟨ax,al,G,a8,O,d,D,_,J⟩:=OX (P:=P) sd (rx.later (G8.drew.later X)) S hx;obtain⟨_,_,_,_,_,_,_,a3,_⟩:=OX (P:=P) s.sim rx S hx;obtain⟨_,_,os,_,_,R,a5,_,b0⟩:=OX (P:=P) sd (rs.later (G8.drew.later X)) S a6;obtain⟨C,hC,E⟩:=qW (ty:=o.type) (base:=l) (n:=n) (cap:=cap) (os:=os) a7 y hz bz a3 (by rw[u,<-A];exact b0) (by rw[u];exact J) a2 bl;rw[Q2 ho (by rw[A];exact E),Oper.upon_value];have hh:Holds (cx X h H w.drew) (cs++news) (os.toArray++G.toArray++Builtin.zeroCells z.cells (C-(n+m))) (0,0):=vn R d a5 D;obtain⟨q1,q2⟩:=sd.upd (g':=g') (B:=w.heap.size) (T:=e) (fz:=(0,0)) (w':={w.drew with heap:=w.drew.heap.push (.cells (os.toArray++G.toArray++Builtin.zeroCells z.cells (C-(n+m))) e)}) Z o! (λbm=>o!)
   (.inr (An _)) (by show(w.heap.push _)[w.heap.size]?=_;simp) (λk hk bm=>by show(w.heap.push _)[k]?=w.heap[k]?;rw[TT,D! bm]) rfl rfl rfl (by show w.heap.size<=(w.heap.push _).size;simp) hh
  refine⟨_,_,_,_,rfl,hk,.sl (by simpa[cx]using L) (by simp[cx,Gh.at_]) ⟨_,_,rfl⟩ λ_=>.inr ⟨w.heap.size,C,by simp[cx,Gh.at_],hC,?_,rfl⟩,q1,G8.drew.trans q2⟩;have e1:θ G=m*sz:=by rw[d.1,O]
  have e2:θ os=n*sz:=by rw[R.1,hn]
  simp only[cx,Gh.at_,if_true,Array.size_append,eJ,Yx,b7,u,e1,e2];have:(C-(n+m))*sz+(n*sz+m*sz)=C*sz:=by rw[<-EI,<-EI];congr 1;omega
  omega
 rcases bG with⟨F,rfl,A⟩|⟨B,cap,F,b8,I,A⟩;rcases Vo m with hm|hm;subst hm;obtain⟨ax,al,G,a8,O,d,D,M,J⟩:=OX (P:=P) s.sim rx S hx;have a4:news=[]:=EZ o!;subst a4;have bN:cs=[]:=EZ o!;subst bN;have b6:G=[]:=EZ d.1;subst b6;have E:=ml (ty:=o.type) (base:=ε) (n:=0) (cap:=0) (w':=w) a7 y M (by rw[u];exact J) o! rfl;rw[Q2 ho (by rw[A];exact E),Oper.upon_value];obtain⟨q1,q2⟩:=s.sim.regen (g':=g') Z o!;rw[F]at q1 q2;rw[DN]at hk;exact⟨_,_,_,_,rfl,hk,.sl (by simpa[cx]using L) (by simp[cx,Gh.at_]) ⟨_,_,rfl⟩ λ_=>.inl ⟨by simp[cx,Gh.at_],rfl,rfl,rfl⟩,q1,q2⟩;exact ao ε 0 A o! hm;rcases Ax cap (n+m)with b2|a1;exact ao _ cap A b2 o!;obtain⟨ax,al,G,a8,O,d,D,M,J⟩:=OX (P:=P) s.sim rx S hx;rcases a9 with⟨bt,_⟩|⟨B',W,T,fz,f,ar,hb,a0,ca,bb,Y⟩;rw[show(cx X h H w).io id=h.io id from rfl,F]at bt;cases bt;rw[show(cx X h H w).io id=h.io id from rfl,F]at ar;injection ar with e0;subst e0;have x:W.size=h.cap id:=a0;have e1:θ G=m*sz:=by rw[d.1,O]
 have b4:n*sz+m*sz<=W.size:=by rw[<-EI,x];exact Ct (Mu _ a1) I
 obtain⟨V,ad,p1,p2,p3,p4,p5,p6,p7,p8,p9⟩:=U4 (P:=P) (off:=n*sz) G 0 W w hb o! bb D;have E:=ml (ty:=o.type) (base:=δ ⟨B,0,ε⟩) (n:=n) (cap:=cap) (w':=V) a7 y M (by rw[u];exact J) a1 (by rw[u];simp only[Of,DT];exact p1);rw[Q2 ho (by rw[A];exact E),Oper.upon_value];have hh:Holds (cx X h H w) (cs++news) ad fz:=by
  refine⟨λj=>if n*sz<=j/\j<n*sz+m*sz then G.getD (j-n*sz) undef else f j,by simp[hn,O];omega,by rw[p3];exact bb,λj v hj=>?_⟩;rw[p4];simp only[Ol,e1];rcases Ax j (θ cs) with U|U;rw[CT U]at hj;rw[D! o!,D! o!];exact Y j v hj;rw[Ci U]at hj;have b':j-θ cs<θ news:=by rcases Ax (j-θ cs) (θ news) with h3|h3;exact h3;rw[Cn h3]at hj;cases hj
  rw[C! o!,C! o!];have hg:G[j-n*sz]?=δ (G[j-n*sz]' o!):=Ar o!;have eg:G.getD (j-n*sz) undef=G[j-n*sz]' o!:=by rw[Ns,hg];rfl
  rw[eg];refine⟨hg,D _ (Jl _),d.2 _ v _ hj ?_⟩;rw[hn];exact hg
 obtain⟨q1,q2⟩:=s.sim.upd (g':=g') (B:=B) (arr:=ad) (T:=T) (fz:=fz) (w':=V) Z o! (λ_=>⟨F,by rw[p3,x]⟩) (.inl F) p2 (λk _ hk=>p5 k hk) p6 p7 p8 (by rw[p9];exact An _) hh;refine⟨_,_,_,_,rfl,hk,.sl (by simpa[cx]using L) (by simp[cx,Gh.at_]) ⟨_,_,rfl⟩ λ_=>.inr ⟨B,cap,by simp[cx,Gh.at_],a1,?_,rfl⟩,q1,q2⟩;simp only[cx,Gh.at_,if_true,p3,DT,x];exact I
theorem dE{h:Operand}{m:Nat}(j:o.op=.call {callee:=.builtin .append,args:= #[g,h],argTypes:= #[b,b]})(i:eI P b=δ (ε,V,n))(t:0<n)(c:Rz P V=ζ)
  (k:BO env g=.nils) (l:J6 H n (BO env h)=δ (m,d)) (a:m<=16777216) (e:K (.sl (θ H) m n 0 m) (H++[.live m d])):JV P N o env H K:=by
 apply JV.regen (id:=θ H) (g:=0) (g':=m) (cs:=d) (Bc _) k! (JV.append_nil j i t c k l a ⟨rfl,rfl⟩);grind
theorem Tm{t:TypeId}{len sz:Nat}{vs:List Ac}(b:o.op=.buildSlice t len q)(c:Sr P env t len q=δ (sz,vs))
  (d:K (.sl (θ H) (θ vs) sz 0 (θ vs)) (H++[.live (θ vs) (vs.flatMap Ac.cells)])):JV P N o env H K:=by
 apply JV.regen (id:=θ H) (g:=0) (g':=θ vs) (cs:=vs.flatMap Ac.cells) (Bc _) k! (dF b c ⟨rfl,rfl⟩);grind
theorem JV.makeSlice{y:Operand}{r:IntKind}(k:o.op=.makeSlice b g y)(j:eI P b=δ (ε,V,n))(c:0<n)(l:Rz P V=ζ)(q:Yw P V=δ d)(e:θ d=n)
  (m:BO env g=.int C i) (p:BO env y=.int r a) (f:0<=i) (h:i<=a) (x:a<=16777216) (u:K (.sl (θ H) i.toNat n 0 i.toNat) (H++[.live i.toNat (ς i.toNat d).flatten])):JV P N o env H K:=by
 refine JV.regen (id:=θ H) (g:=0) (g':=i.toNat) (cs:=(ς i.toNat d).flatten) (H1:=H++[.live 0 (ς i.toNat d).flatten]) (sz:=n) (off:=0) (n:=i.toNat) (Bc _) k! (mA k j c l q e m p f h x ⟨rfl,rfl⟩) q!
end
section
variable {P:Program}{N:Nat}{o:Oper}{env:Env}{H:Au}{K:Ac->Au->Prop}
def mI(s:List UInt8):List Ac:=s.map λb=>.int .u8 (b.toNat:Int)
theorem oI{e:TypeId}(q:o.op=.convert b V g)(F:P.underlying b=δ S)(y:P.underlying V=δ (.slice e))(z:P.underlying e=δ (.int .u8))
  (J:BO env g=.str O) (E:K (.sl (θ H) 0 1 0 (θ O)) (H++[.live 0 (mI O)])):JV P N o env H K:=by
 apply C3 (by rw[q];rfl);intro X h a w st Q;have n:=Dk st.env g;rw[J]at n;generalize r:a.eval g=c at n;cases n with
 |str t G=>
  have l:t.size=θ O:=by rw[<-G];rfl
  have k:(execOp a.eval o).run P w=.ok (.value (.slice (δ ⟨w.heap.size,0,ε⟩) t.size (grownCap w t.size 0 e))) (Lib.bytesWorld w e t):=by have:=Lib.run_convert_string_bytes w b V e t F y z;unfold execOp;rw[q];simp[resolve,r,this]
  unfold Oper.wp;rw[k,Oper.upon_value];have B:=grownCap_ge w t.size 0 e;have m:(Lib.bytesCells w e t).size=grownCap w t.size 0 e:=by grind[Lib.bytesCells,Array.size_append,Array.size_map,Array.size_replicate]
  have L:=st.sim.drew;have I:Lib.bytesWorld w e t={w.drew with heap:=w.drew.heap.push (.cells (Lib.bytesCells w e t) e ((Lib.bytesCells w e t).size,(Lib.bytesCells w e t).size+1))}:=by unfold Lib.bytesWorld World.freeze World.alloc;rw[D! g!];show World.mk _ _ _ _ _=World.mk _ _ _ _ _;congr 1;apply Array.ext_getElem?;intro j;have m:w.drew.heap.size=w.heap.size:=rfl;grind
  rw[I];have C:Holds (cx X h H w.drew) (mI O) (Lib.bytesCells w e t) ((Lib.bytesCells w e t).size,(Lib.bytesCells w e t).size+1):=by
   refine⟨λj=>.int .u8 ((O.getD j 0).toNat:Int),by simp[mI];omega,λi M=>?_,λj v f=>?_⟩;grind;unfold mI at f;rw[CL]at f;cases p:O[j]? with
   |none=>grind
   |some d=>
    rw[p]at f;simp only[Bt,Ao]at f;subst f;have D:j<θ O:=by grind[Nat.lt_or_ge,List.getElem?_eq_none]
    have A:O.getD j 0=d:=by rw[Ns,p];rfl
    refine⟨?_,rfl,?_⟩;grind[Lib.bytesCells,Array.getElem?_append_left];simp only[A];exact .int _ _
  refine⟨_,_,_,_,rfl,E,.sl (by simp[cx]) (by simp[cx,Gh.at_]) ⟨_,_,by rw[l]⟩ λ_=>.inr ⟨w.heap.size,grownCap w t.size 0 e,?_,o!,?_,by rw[l]⟩,L.push _ e _ (mI O) C,G8.drew.trans (G8.push _ _ _)⟩;have:w.drew.heap.size=w.heap.size:=rfl;simp[cx,Gh.at_,this];simp only[cx,Gh.at_,if_true];omega
theorem pj{e:TypeId}(f:o.op=.convert b V g)(h:P.underlying b=δ S)(c:P.underlying V=δ (.slice e))(d:P.underlying e=δ (.int .u8))
  (i:BO env g=.str O) (j:K (.sl (θ H) (θ O) 1 0 (θ O)) (H++[.live (θ O) (mI O)])):JV P N o env H K:=by
 refine JV.regen (id:=θ H) (g:=0) (g':=θ O) (cs:=mI O) (H1:=H++[.live 0 (mI O)]) (sz:=1) (off:=0) (n:=θ O) (Bc _) k! (oI f h c d i ⟨rfl,rfl⟩) q!
end
def FU.virtC{N:Nat}{env:Env}{b g i sz:Nat}(Q:H[b]?=δ (Fk.live g d))(hi:d[i]?=δ .nils):
  FU N (θ H) env H env (H.set b (.live g (d.set i (.sl (θ H) 0 sz 0 0)))++[.live 0 []]):=by
 have J:b<θ H:=by rcases Ax b (θ H) with P|P;exact P;rw[Cn P]at Q;cases Q
 refine⟨k!,λX h a w s=>⟨h.at_ (θ H) ε 0 0,?_,λid ap=>by simp[Gh.at_,Bl ap],?_⟩⟩;have O:=s.sim.virt;have hx:=G8.virt (h:=h) (H:=H) (w:=w);have W:=hx.later X
 have key:∀(j:Nat)(e:Fk),(H.set b (.live g (d.set i (.sl (θ H) 0 sz 0 0)))++[Fk.live 0 []])[j]?=δ e→
   (j≠b/\(H++[Fk.live 0 []])[j]?=δ e)\/(j=b/\e=.live g (d.set i (.sl (θ H) 0 sz 0 0))):=by
  intro j e p;rcases Ax j (θ H) with y|y;rw[CT (by simpa using y),TY]at p;split at p;rename_i G;subst G;injection p with p;exact .inr ⟨rfl,p.symm⟩;rename_i G;exact .inl ⟨λe=>G e.symm,by rw[CT y];exact p⟩;refine .inl ⟨o!,?_⟩;rw[Ci (by simpa using y)]at p;rw[Ci y];simpa using p
 have E:∀B,owned (h.at_ (θ H) ε 0 0) (H.set b (.live g (d.set i (.sl (θ H) 0 sz 0 0)))++[.live 0 []]) B->owned (h.at_ (θ H) ε 0 0) (H++[.live 0 []]) B:=by rintro B ⟨j,e,p,z,o⟩;rcases key j e p with⟨_,q⟩|⟨rfl,rfl⟩;exact⟨j,e,q,z,o⟩;exact⟨j,_,by rw[CT J];exact Q,k!,o⟩
 have C:(cx X (h.at_ (θ H) ε 0 0) (H++[.live 0 []]) w).Later (cx X (h.at_ (θ H) ε 0 0) (H.set b (.live g (d.set i (.sl (θ H) 0 sz 0 0)))++[.live 0 []]) w):={size:=An _,keep:=λ_ _ _ _=>rfl,own:=λB _ ho=>ho.imp _root_.id (E B),n:=by simp[cx],gen:=λ_ _=>An _,same:=λ_ _ _=>⟨rfl,rfl⟩}
 refine⟨⟨λB Y=>⟨(O.out B Y).1,λho=>(O.out B Y).2 (E B ho)⟩,λj g0 ad p=>?_,λj L p=>?_,λj k e e' B q P ax a0 h3 h4=>?_,O.bldKeep λj e p Y=>?_⟩,λt v m=>?_,s.size⟩;rcases key j _ p with⟨_,q⟩|⟨rfl,q⟩;obtain⟨U,hh⟩:=O.live j g0 ad q;refine⟨U,?_⟩;rcases hh with⟨o,h0⟩|⟨B,F,T,fz,f,o,I,x,M,K,l⟩;exact .inl ⟨o,h0⟩;exact .inr ⟨B,F,T,fz,f,o,I,x,M,K,λk v u=>⟨(l k v u).1,(l k v u).2.1,(l k v u).2.2.later C⟩⟩;injection q with h5 h6;subst h5 h6;obtain⟨U,hh⟩:=O.live j g0 d (by rw[CT J];exact Q);refine⟨U,?_⟩;rcases hh with⟨o,h0⟩|⟨B,F,T,fz,f,o,I,x,M,K,l⟩;subst h0;simp at hi;refine .inr ⟨B,F,T,fz,f,o,I,x,by simpa using M,K,λk v u=>?_⟩;rw[TY]at u;split at u;rename_i ar;subst ar;split at u;injection u with u;subst u;obtain⟨p1,Z,p3⟩:=l i _ hi;refine⟨p1,Z,?_⟩;generalize f i=c at p3 Z;cases p3;exact .sl (by simp[cx]) (by simp[cx,Gh.at_]) ⟨_,_,rfl⟩ λ_=>.inl ⟨by simp[cx,Gh.at_],rfl,rfl,rfl⟩;cases u;obtain⟨p1,Z,p3⟩:=l k v u;exact⟨p1,Z,p3.later C⟩;rcases key j _ p with⟨_,q⟩|⟨rfl,q⟩;obtain⟨U,B,r,q1,q2,q3,q4,q5,q6,q7,q8,q9⟩:=O.lp j L q;exact⟨U,B,r,q1,q2,q3,q4,q5,q6,q7,q8,λt v m=>⟨(q9 t v m).1,(q9 t v m).2.later C⟩⟩;cases q;have back:∀{j:Nat}{e:Fk},(H.set b (.live g (d.set i (.sl (θ H) 0 sz 0 0)))++[Fk.live 0 []])[j]?=δ e->e≠.dead->∃e0,(H++[Fk.live 0 []])[j]?=δ e0/\e0≠.dead:=by intro j e p z;rcases key j _ p with⟨_,q⟩|⟨rfl,q⟩;exact⟨e,q,z⟩;exact⟨_,by rw[CT J];exact Q,k!⟩
 obtain⟨A,al,ao⟩:=back q ax;obtain⟨d',R,S⟩:=back P a0;exact O.inj j k _ _ B al R ao S h3 h4;rcases key j _ p with⟨_,q⟩|⟨rfl,q⟩;exact⟨q,rfl,rfl,rfl,λ_ _ _ _ _=>rfl⟩;subst q;cases Y;exact⟨(s.env t v m).1,((s.env t v m).2.later W).later C⟩;rintro B ⟨j,e,p,z,o⟩;rcases Ax j (θ H) with y|y;have D:h.io j=δ B:=by simpa[Gh.at_,Bl y]using o
 by_cases V:j=b;subst V;exact⟨j,_,Q,k!,D⟩;rw[CT (by simpa using y),DW (λe=>V e.symm)]at p;exact⟨j,e,p,z,D⟩;rw[Ci (by simpa using y)]at p;have:j=θ H:=by rcases Nat.eq_or_lt_of_le y with e|P;exact e.symm;rw[Cn w!]at p;cases p
 subst this;simp[Gh.at_]at o
def Bx.nil_vs{x:Cx}(a:0<N)(c:Bx x .nils r):Bx x (.vs N []) r:=by cases c;exact Bx.vs (rows:=[]) (cap:=0) (λ_ _=>undef) (An _) a (λ_ _ h=>by simp at h) (λh=>(h rfl).elim) λ_ _ _ _ h=>by simp at h
def FU.subset{N:Nat}{H:Au}(h:∀q∈W,q∈f):FU N (θ H) f H W H:=⟨An _,λ_ g _ _ s=>⟨g,⟨s.sim,λt v m=>s.env t v (h _ m),s.size⟩,λ_ _=>⟨rfl,rfl,rfl⟩,λ_ h=>h⟩⟩
section
variable {P:Program}
theorem ACC{b:Operand→Ac}(h:callT b T=δ (.inl (p,d))):
  ∃c f first a,T=.call c/\c.callee=.value f/\b f=.fn (.func p) first a/\d=first++c.args.toList.map b++a:=by
 unfold callT at h;grind
section
variable {N:Nat}{o:Oper}{env:Env}{H H':Au}{v:Ac}
def kV{F:FuncId}{vs:List Ac}(h:callT (BO env) o.op=δ (.inl (F,vs)))(d:Enters P F=ζ)(e:Ea P F vs H (DQ v H')):JV P N o env H (DQ v H'):=by obtain⟨c,f,first,b,i,a,g,rfl⟩:=ACC h;exact ph i a g d e
end
end
mutual
theorem Q1{p q:Nat->Bool}(h:∀id,p id=ζ->q id=ζ):∀v:Ac,v.idsAll p=ζ->v.idsAll q=ζ
 |.ptr id g off,k=>h id k
 |.sl id g sz off len,k=>h id k
 |.yf id,k=>h id k
 |.mp id,k=>h id k
 |.itp id m,k=>by simp only[Ac.idsAll,BW]at k⊢;exact⟨h id k.1,h m k.2⟩
 |.vptr cs,k=>JT h cs k
 |.vs sz rows,k=>JT h rows k
 |.fn f a b,k=>by simp only[Ac.idsAll,BW]at k⊢;exact⟨JT h a k.1,JT h b k.2⟩
 |.agg cs,k=>JT h cs k
 |.tup cs,k=>JT h cs k
 |.bool _,_=>rfl
 |.int _ _,_=>rfl
 |.str _,_=>rfl
 |.nilp,_=>rfl
 |.nils,_=>rfl
 |.nilf,_=>rfl
 |.any,_=>rfl
theorem JT{p q:Nat->Bool}(h:∀id,p id=ζ->q id=ζ):∀l:List Ac,Ac.idsAllL p l=ζ->Ac.idsAllL q l=ζ
 |[],_=>rfl
 |v::r,k=>by simp only[Ac.idsAllL,BW]at k⊢;exact⟨Q1 h v k.1,JT h r k.2⟩
end
mutual
theorem AEl(c d:Nat->Nat):∀v:Ac,(v.ren c).ren d=v.ren λid=>d (c id)
 |.ptr id g i=>rfl
 |.sl id g sz i len=>rfl
 |.yf id=>rfl
 |.mp id=>rfl
 |.itp _ _=>rfl
 |.vptr e=>by simp only[Ac.ren,UG c d e]
 |.vs sz h=>by simp only[Ac.ren,UG c d h]
 |.fn f a b=>by simp only[Ac.ren,UG c d a,UG c d b]
 |.agg e=>by simp only[Ac.ren,UG c d e]
 |.tup e=>by simp only[Ac.ren,UG c d e]
 |.bool _=>rfl
 |.int _ _=>rfl
 |.str _=>rfl
 |.nilp=>rfl
 |.nils=>rfl
 |.nilf=>rfl
 |.any=>rfl
theorem UG(a b:Nat->Nat):∀l:List Ac,Ac.renL b (Ac.renL a l)=Ac.renL (λid=>b (a id)) l
 |[]=>rfl
 |v::r=>by simp only[Ac.renL,AEl a b v,UG a b r]
end
mutual
theorem AAC{p q:Nat->Bool}{c:Nat->Nat}(h:∀id,p id=ζ->q (c id)=ζ):∀v:Ac,v.idsAll p=ζ->(v.ren c).idsAll q=ζ
 |.ptr id g off,k=>h id k
 |.sl id g sz off len,k=>h id k
 |.yf id,k=>h id k
 |.mp id,k=>h id k
 |.itp id m,k=>by simp only[Ac.ren,Ac.idsAll,BW]at k⊢;exact⟨h id k.1,h m k.2⟩
 |.vptr cs,k=>OW h cs k
 |.vs sz rows,k=>OW h rows k
 |.fn f a b,k=>by simp only[Ac.ren,Ac.idsAll,BW]at k⊢;exact⟨OW h a k.1,OW h b k.2⟩
 |.agg cs,k=>OW h cs k
 |.tup cs,k=>OW h cs k
 |.bool _,_=>rfl
 |.int _ _,_=>rfl
 |.str _,_=>rfl
 |.nilp,_=>rfl
 |.nils,_=>rfl
 |.nilf,_=>rfl
 |.any,_=>rfl
theorem OW{p q:Nat->Bool}{a:Nat->Nat}(h:∀id,p id=ζ->q (a id)=ζ):∀l:List Ac,Ac.idsAllL p l=ζ->Ac.idsAllL q (Ac.renL a l)=ζ
 |[],_=>rfl
 |v::r,k=>by simp only[Ac.renL,Ac.idsAllL,BW]at k⊢;exact⟨AAC h v k.1,OW h r k.2⟩
end
def Pure(v:Ac):Prop:=v.idsAll (λ_=>η)=ζ
def sT(e:Fk):Prop:=match e with|.live _ cs=>Ac.idsAllL (λ_=>η) cs=ζ|_=>False
def Pure.all(h:Pure s)(p:Nat->Bool):s.idsAll p=ζ:=Q1 (λ_ e=>by cases e) s h
def Pure.ren{v:Ac}(h:Pure v)(ρ:Nat->Nat):v.ren ρ=v:=AAj (p:=λ_=>η) (λ_ e=>by cases e) v h
def sT.all(h:sT I)(p:Nat->Bool):I.idsAll p=ζ:=by
 cases I with
 |live g a=>exact JT (λ_ I=>by cases I) a h
 |_=>cases h
def sT.ren(h:sT I)(ρ:Nat->Nat):I.ren ρ=I:=by
 cases I with
 |live g a=>simp only[Fk.ren];rw[Xh (p:=λ_=>η) (λ_ I=>by cases I) a h]
 |_=>cases h
theorem Ea.sub{P:Program}{K:Ac→Au→Prop}(bs:List Nat){Qc:Ac→Au→Prop}(a:bs.Nodup)(g:∀b∈bs,b<θ H)
  (t:∀b∈bs,((H.getD b .dead).idsAll λid=>decide (id∈bs))=ζ) (k:Ac.idsAllL (λid=>decide (id∈bs)) d=ζ)
  (y:Ea P p (Ac.renL (bs.idxOf ·) d) (ZW H bs) Qc) (A:∀v i,Qc v i->K (v.ren (TB H bs)) (U0 H bs i)):Ea P p d H K:=by
 intro X h w c s o f;refine(y (Xs X h H bs) (Wd h bs) w c (s.sub a t) (by simpa[OR]using o) ?_).mono ?_;intro j v F l z;rw[OR,CL]at l;cases r:d[j]? with
 |none=>grind
 |some u=>rw[r]at l;simp at l;subst l;exact Bx.ren (p:=λid=>decide (id∈bs)) (λid=>xh id) rfl AE3 (f j u F r z) (Ms k r)
 rintro e E ⟨F,v,m,i,rfl,q,D,C,x⟩;have B:θ bs<=θ i:=by have:=x.n;simpa[ZW]using this
 exact⟨F,_,NT h H bs m,U0 H bs i,rfl,A v i q,s.back a g x D,Bx.back a g B C,G8.back a g x⟩
theorem rJ{f:Nat->Nat}:∀(bs:List Nat)(H a:Au),(∀e∈a,sT e)->bM f H bs a=AGt H (bs.zip a)
 |[],H,a,_=>by cases a<;>rfl
 |b::bs,H,[],_=>rfl
 |b::bs,H,e::es,h=>by simp only[bM,List.zip_cons_cons,AGt];rw[(h e k!).ren,rJ bs _ es λc d=>h c (by simp[d])]
theorem Ea.frame{a c H:Au}(bs:List Nat)(y:Ea P p d a (DQ s c))(l:bs.Nodup)(w:θ a=θ bs)(x:θ c=θ bs)
  (m:∀(j b:Nat)(e:Fk),bs[j]?=δ b->a[j]?=δ e->H[b]?=δ e) (o:∀e∈a,sT e) (A:∀e∈c,sT e) (F:Pure s)
  (q:Ac.renL (λj=>bs.getD j 0) d=Z) (z:Ac.idsAllL (λj=>decide (j<θ bs)) d=ζ):Ea P p Z H (DQ s (AGt H (bs.zip c))):=by
 have get:∀b∈bs,∃(j:Nat)(e:Fk),bs[j]?=δ b/\a[j]?=δ e/\H[b]?=δ e:=by
  intro b i;obtain⟨j,n,e⟩:=Vl.1 i;have h:bs[j]?=δ b:=q!
  have f:a[j]?=δ (a[j]' o!):=Ar o!;exact⟨j,_,h,f,m j b _ h f⟩
 have k:∀b∈bs,b<θ H:=q!
 have g:ZW H bs=a:=by
  apply I6;intro j;unfold ZW;rw[CL];cases n:bs[j]? with
  |none=>grind[List.getElem?_eq_none_iff,List.getElem?_eq_none]
  |some b=>
   have r:j<θ bs:=by grind[Nat.lt_or_ge,List.getElem?_eq_none]
   have f:a[j]?=δ (a[j]' o!):=Ar o!;have v:=m j b _ n f;rw[f,Bt,Ns,v,mg,(o _ (Jl _)).ren]
 refine Ea.sub bs (Qc:=DQ s c) l k (λb i=>?_) ?_ ?_ ?_;obtain⟨j,e,_,h,f⟩:=get b i;rw[Ns,f,mg];exact(o e (BN h)).all _;grind[OW,List.getElem?_eq_getElem,List.getElem_mem];rw[g,<-q,UG];grind[Ac.renL,Xh,px,List.getElem?_eq_getElem];rintro u t ⟨rfl,rfl⟩;refine⟨F.ren _,?_⟩;grind[U0,rJ,List.drop_eq_nil_of_le]
structure R3(α:Type)where
 sz:Nat
 f:α->Ac
 pos:0<sz
 len:∀x,(f x).cells.length=sz
 pure:∀x,Pure (f x)
def R3.cl(e:R3 R)(l:List R):List Ac:=(l.map e.f).flatMap Ac.cells
theorem R3.clen{a:Type}(e:R3 a):∀l:List a,(e.cl l).length=θ l*e.sz
 |[]=>by simp[R3.cl]
 |x::l=>by have:=R3.clen e l;simp only[R3.cl,Bf,I7,AY,e.len]at this⊢;grind
def wy(k:IntKind):R3 Int:=⟨1,.int k,g!,λ_=>rfl,λ_=>rfl⟩
abbrev BX:=List UInt8
def ix{α:Type}(l:List α)(i:Int):Option α:=if 0<=i then l[i.toNat]? else ε
def app{α:Type}(l xs:List α):Option (List α):=if θ l+θ xs<=16777216 then δ (l++xs)else ε
theorem AJ0{f:R->Ac}{l:List R}{x:R}(h:ix l i=δ x):0<=i/\(l.map f)[i.toNat]?=δ (f x):=by unfold ix at h;grind
theorem ng{l a r:List R}(h:app l a=δ r):θ l+θ a<=16777216/\r=l++a:=by grind[app]
def AH9(e:R3 R)(l:List R):AA6 e.sz (e.cl l) (l.map e.f):=⟨e.pos,λv b=>by obtain⟨x,_,rfl⟩:=Bs.1 b;exact e.len x,rfl⟩
inductive Step(S R:Type)where
 |next (s:S)
 |done (r:R)
def dm{S R:Type}(body:S->Option (Step S R)):Nat->S->Option R
 |0,_=>ε
 |n+1,s=>
  match body s with
  |some (.next s')=>dm body n s'
  |some (.done r)=>δ r
  |none=>ε
theorem AAJ{body:J->Option (Step J R)}{s:J}{r:R}(h:dm body n s=δ r):dm body (n+1) s=δ r:=by induction n generalizing s<;>grind[dm]
theorem AEF{body:J->Option (Step J R)}{s:J}{r:R}(h:dm body n s=δ r)(a:n<=N):dm body N s=δ r:=by induction a<;>grind[AAJ]
open Classical in
noncomputable def Ai{S R:Type}(body:S->Option (Step S R))(s:S):Option R:=if h:∃r n,dm body n s=δ r then δ h.choose else ε
theorem lQ{body:J->Option (Step J R)}{s:J}{r:R}:Ai body s=δ r↔∃n,dm body n s=δ r:=by
 unfold Ai;constructor;intro h;split at h<;>grind;rintro⟨n,hn⟩;have a:∃r n,dm body n s=δ r:=⟨r,n,hn⟩
 grind[AEF]
theorem HG(body:J→Option (Step J R))(s:J):Ai body s=match body s with
  |some (.next b)=>Ai body b
  |some (.done r)=>δ r
  |none=>ε:=by
 apply Option.ext;intro r;rw[lQ];constructor
 ·rintro⟨n,h⟩;cases n with
  |zero=>cases h
  |succ n=>
   rw[dm]at h;cases a:body s with
   |none=>rw[a]at h;cases h
   |some q=>
    rw[a]at h;cases q with
    |next b=>exact lQ.2 ⟨n,h⟩
    |done r=>exact h
 ·intro h;cases a:body s with
  |none=>rw[a]at h;cases h
  |some q=>
   rw[a]at h;cases q with
   |next b=>obtain⟨n,hn⟩:=lQ.1 h;exact⟨n+1,by rw[dm,a];exact hn⟩
   |done c=>exact⟨1,by rw[dm,a];exact h⟩
def ACZ{body:J->Option (Step J R)}(C:J->R->Prop)(c:∀s b r,body s=δ (.next b)->C b r->C s r)(d:∀s r,body s=δ (.done r)->C s r){s:J}{r:R}(h:Ai body s=δ r):C s r:=by
 obtain⟨n,hn⟩:=lQ.1 h;clear h;induction n generalizing s with
 |zero=>cases hn
 |succ n e=>
  rw[dm]at hn;cases a:body s with
  |none=>rw[a]at hn;cases hn
  |some q=>
   rw[a]at hn;cases q with
   |next b=>exact c s b r a (e hn)
   |done f=>injection hn with hn;subst hn;exact d s f a
theorem bnd{x:Option R}{k:R->Option J}{r:J}(h:x.bind k=δ r):∃a,x=δ a/\k a=δ r:=by cases x<;>grind
abbrev GO(n:Nat)(α:Type):=Fin n->α
def GO.all{n:Nat}{α:Type}(x:α):GO n α:=λ_=>x
def eT(n:Nat)(e:R3 R)(a:GO n R):List Ac:=(List.finRange n).flatMap λi=>(e.f (a i)).cells
def ADT(n:Nat)(e:R3 R)(a:GO n R):(eT n e a).length=n*e.sz:=by
 unfold eT;have:∀l:List (Fin n),(l.flatMap λi=>(e.f (a i)).cells).length=θ l*e.sz:=by
  intro l;induction l with
  |nil=>simp
  |cons x l c=>rw[I7,AY,c,e.len];simp[EI,X3]
 rw[this,List.length_finRange]
def Gk{n:Nat}(a:GO n R)(i:Int):Option R:=if h:0<=i/\i.toNat<n then δ (a ⟨i.toNat,h.2⟩)else ε
def Wi{n:Nat}(a:GO n R)(i:Int)(v:R):GO n R:=λj=>if(j.val:Int)=i then v else a j
theorem oz{a:GO n R}{x:R}(h:Gk a i=δ x):0<=i/\∃k:Fin n,i=(k.val:Int)/\a k=x:=by grind[Gk]
theorem tY(g:R→List J)(sz:Nat)(c:∀x,(g x).length=sz)(l1:List R)(x:R)(l2:List R):
  (l1++x::l2).flatMap g=l1.flatMap g++g x++l2.flatMap g/\(l1.flatMap g).length=θ l1*sz:=by
 induction l1<;>grind
theorem tT(k:Fin n):∃l1 l2,List.finRange n=l1++k::l2/\θ l1=k.val/\k∉l1/\k∉l2:=by
 refine⟨(List.finRange n).take k.val,(List.finRange n).drop (k.val+1),?_,q!,?_,?_⟩;have a:(List.finRange n).drop k.val=k::(List.finRange n).drop (k.val+1):=by rw[TX k!];simp
 rw[<-a,Dr];intro h;obtain⟨i,b,e⟩:=Vl.1 h;grind;intro h;obtain⟨i,b,e⟩:=Vl.1 h;grind
theorem si(e:R3 R)(a:GO n R)(k:Fin n):∃b c,eT n e a=b++(e.f (a k)).cells++c∧θ b=k.val*e.sz∧
  ∀v,eT n e (Wi a k.val v)=b++(e.f v).cells++c:=by
 obtain⟨l1,l2,g,h,m,o⟩:=tT k;unfold eT;rw[g];obtain⟨p,q⟩:=tY (λi=>(e.f (a i)).cells) e.sz (λi=>e.len _) l1 k l2;refine⟨_,_,p,by rw[q,h],λv=>?_⟩;have r:∀j,j≠k->Wi a k.val v j=a j:=by grind[Wi]
 have l:Wi a k.val v k=v:=by grind[Wi]
 rw[(tY (λi=>(e.f (Wi a k.val v i)).cells) e.sz (λi=>e.len _) l1 k l2).1];grind[List.map_congr_left]
section
variable {α:Type}{n:Nat} (e:R3 α) {a:GO n α}{i:Int}{x:α}
theorem ADU(h:Gk a i=δ x)(pre b:List Ac):(pre++eT n e a++b).length=θ pre+n*e.sz+θ b∧θ pre+i.toNat*e.sz+e.sz≤(pre++eT n e a++b).length∧
  ((pre++eT n e a++b).drop (θ pre+i.toNat*e.sz)).take e.sz=(e.f x).cells/\∀v,Wa (pre++eT n e a++b) (θ pre+i.toNat*e.sz) (e.f v).cells=pre++eT n e (Wi a i v)++b:=by
 obtain⟨r,k,rfl,rfl⟩:=oz h;obtain⟨c,d,j,l,m⟩:=si e a k;have o:((k.val:Int)).toNat=k.val:=k!
 have g:=ADT n e a;have q:=e.len (a k);refine⟨q!,?_,?_,λv=>?_⟩;grind;grind;have p:=e.len v;rw[m v,j,o,<-l];have:(pre++(c++(e.f (a k)).cells++d)++b)=(pre++c)++((e.f (a k)).cells++(d++b)):=k!
 rw[this];unfold Wa;rw[<-AY,X2,p,<-q,Xl,kw o!];simp
theorem ADP{off m:Nat}(pre b:List Ac)(h:Gk a i=δ x)(c:off+m<=e.sz):θ pre+i.toNat*e.sz+off+m<=(pre++eT n e a++b).length/\((pre++eT n e a++b).drop (θ pre+i.toNat*e.sz+off)).take m=((e.f x).cells.drop off).take m:=by obtain⟨_,d,g,_⟩:=ADU e h pre b;grind[List.drop_take,List.drop_drop]
end
def sapp(a b:BX):Option BX:=if θ a+θ b<=9223372036854775807 then δ (a++b)else ε
theorem AIA{a b r:BX}(h:sapp a b=δ r):(if θ a+θ b<=9223372036854775807 then δ (Ac.str (a++b))else ε)=δ (.str r):=by grind[sapp]
def R0(s:BX)(lo hi:Int):Option BX:=if 0<=lo/\lo<=hi/\hi<=θ s then δ ((s.drop lo.toNat).take (hi.toNat-lo.toNat))else ε
def W7(s:List R)(lo hi:Int):Option (List R):=if 0<=lo/\lo<=hi/\hi<=θ s then δ ((s.drop lo.toNat).take (hi.toNat-lo.toNat))else ε
def Eu(l:List Int):BX:=l.map λn=>UInt8.ofNat n.toNat
theorem xl:∀l:List Int,u8s (l.map (wy .u8).f)=δ (Eu l)
 |[]=>rfl
 |n::l=>by have:=xl l;simp;simp only[wy]at this⊢;simp only[u8s,this];rfl
def AHq(k:IntKind)(l:List Int):(wy k).cl l=l.map (wy k).f:=by
 unfold R3.cl;induction l with
 |nil=>rfl
 |cons x l a=>simp only[Bf,I7,a];rfl
theorem AEP(l:List Int)(c:kd P V=.str)(d:kd P b=.bytes):
  XD P H b V (.vs 1 (l.map (wy .u8).f))=δ (.str (Eu l)):=by
 simp only[XD,rowsOf];have:(l.map (wy .u8).f).flatMap Ac.cells=l.map (wy .u8).f:=AHq .u8 l;grind[xl]
def AAK{body:J->Option (Step J R)}{C:J->R->Prop}(h:∀s q,body s=δ q->match q with|.next d=>∀o,C d o->C s o|.done o=>C s o){s:J}{o:R}(b:Ai body s=δ o):C s o:=ACZ C (λs _ r a c=>h s _ a r c) (λs _ a=>h s _ a) b
def mk(x:R)(l c:Int):Option (List R):=if 0<=l/\l<=c/\c<=16777216 then δ (ς l.toNat x)else ε
theorem AJ1(e:R3 R)(x:R){r:List R}(h:mk x i a=δ r):(0<=i/\i<=a/\a<=16777216)/\i.toNat=θ r/\(ς i.toNat (e.f x).cells).flatten=e.cl r:=by unfold mk at h;split at h;rename_i b;injection h with h;subst h;unfold R3.cl;induction i.toNat<;>grind;cases h
def S2(s:BX):List Int:=s.map λb=>(b.toNat:Int)
def AJD(s:BX):θ s=(S2 s).length/\mI s=(wy .u8).cl (S2 s):=by
 refine⟨by simp[S2],?_⟩;unfold R3.cl S2 mI;induction s with
 |nil=>rfl
 |cons b r a=>simp only[Bf,a];rfl
def six(s:BX)(i:Int):Option Int:=if 0<=i then(s[i.toNat]?).map λb=>(b.toNat:Int)else ε
theorem AJC{s:BX}(h:six s i=δ a)(t:kd P b=.str):kQ P b (.str s) (.int C i)=δ (.int .u8 a):=by grind[six,kQ]
def tE(e:R3 R){l:List R}{x:R}(h:ix l i=δ x):∃d j,e.cl l=d++(e.f x).cells++j/\θ d=i.toNat*e.sz/\0<=i/\i.toNat<θ l/\l[i.toNat]?=δ x/\∀v,e.cl (l.set i.toNat v)=d++(e.f v).cells++j:=by
 unfold ix at h;split at h
 case isFalse=>cases h
 rename_i k;obtain⟨c,n⟩:=EP.1 h;have m:l=l.take i.toNat++x::l.drop (i.toNat+1):=by rw[<-n,<-TX c,Dr]
 have b:∀v,l.set i.toNat v=l.take i.toNat++v::l.drop (i.toNat+1):=λv=>by rw[List.set_eq_take_append_cons_drop,C! c]
 have a:∀v,e.cl (l.take i.toNat++v::l.drop (i.toNat+1))=e.cl (l.take i.toNat)++(e.f v).cells++e.cl (l.drop (i.toNat+1)):=λv=>by simp[R3.cl]
 refine⟨e.cl (l.take i.toNat),e.cl (l.drop (i.toNat+1)),?_,?_,k,c,h,λv=>by rw[b,a]⟩;conv=>lhs;rw[m]
 exact a x;rw[e.clen,BR,QY (Nat.le_of_lt c)]
def Eo{α:Type}(l:List α)(i:Int)(v:α):List α:=l.set i.toNat v
def og{l:List R}{v:R}(h:θ l=n):(Eo l i v).length=n:=by rw[<-h];exact Xz
section
variable {α:Type} (e:R3 α) {l:List α}{i:Int}{x:α}
theorem AHh(h:ix l i=δ x)(d:N+n<=e.sz):i.toNat*e.sz+N+n<=(e.cl l).length/\((e.cl l).drop (i.toNat*e.sz+N)).take n=((e.f x).cells.drop N).take n:=by obtain⟨j,k,b,c,_⟩:=tE e h;have g:=e.len x;rw[b,<-c];refine⟨q!,?_⟩;rw[A5,Xl,kw o!,B4,S7,Xl,eK,C5,g,show n-(e.sz-N)=0 by omega];simp
end
mutual
def Ac.beq:Ac->Ac->Bool
 |.bool a,.bool b=>a==b
 |.int k n,.int k' n'=>decide (k=k')&&τ (n=n')
 |.str s,.str t=>decide (s=t)
 |.nilp,.nilp=>ζ
 |.nils,.nils=>ζ
 |.nilf,.nilf=>ζ
 |.ptr a b c,.ptr a' b' c'=>decide (a=a')&&(τ (b=b')&&τ (c=c'))
 |.vptr cs,.vptr ds=>Ac.beqL cs ds
 |.vs a cs,.vs b ds=>decide (a=b)&&Ac.beqL cs ds
 |.sl a b c d e,.sl a' b' c' d' e'=>decide (a=a')&&(τ (b=b')&&(τ (c=c')&&(τ (d=d')&&τ (e=e'))))
 |.agg cs,.agg ds=>Ac.beqL cs ds
 |.tup cs,.tup ds=>Ac.beqL cs ds
 |_,_=>η
def Ac.beqL:List Ac->List Ac->Bool
 |[],[]=>ζ
 |a::r,b::s=>Ac.beq a b&&Ac.beqL r s
 |_,_=>η
end
mutual
theorem beq_eq:∀(a b:Ac),Ac.beq a b=ζ->a=b
 |.bool a,b,h=>by cases b<;>simp[Ac.beq]at h;rw[h]
 |.int k n,b,h=>by cases b<;>simp[Ac.beq]at h;rw[h.1,h.2]
 |.str s,b,h=>by cases b<;>simp[Ac.beq]at h;rw[h]
 |.nilp,b,h=>by cases b<;>simp[Ac.beq]at h;rfl
 |.nils,b,h=>by cases b<;>simp[Ac.beq]at h;rfl
 |.nilf,b,h=>by cases b<;>simp[Ac.beq]at h;rfl
 |.ptr _ _ _,b,h=>by cases b<;>simp[Ac.beq]at h;rw[h.1,h.2.1,h.2.2]
 |.vptr cs,b,h=>by cases b<;>simp[Ac.beq]at h;rw[lE cs _ h]
 |.vs a cs,b,h=>by cases b<;>simp[Ac.beq]at h;rw[h.1,lE cs _ h.2]
 |.sl _ _ _ _ _,b,h=>by cases b<;>simp[Ac.beq]at h;rw[h.1,h.2.1,h.2.2.1,h.2.2.2.1,h.2.2.2.2]
 |.agg cs,b,h=>by cases b<;>simp[Ac.beq]at h;rw[lE cs _ h]
 |.tup cs,b,h=>by cases b<;>simp[Ac.beq]at h;rw[lE cs _ h]
 |.fn _ _ _,b,h=>by cases b<;>simp[Ac.beq]at h
 |.yf _,b,h=>by cases b<;>simp[Ac.beq]at h
 |.mp _,b,h=>by cases b<;>simp[Ac.beq]at h
 |.itp _ _,b,h=>by cases b<;>simp[Ac.beq]at h
 |.any,b,h=>by cases b<;>simp[Ac.beq]at h
theorem lE:∀(a b:List Ac),Ac.beqL a b=ζ->a=b
 |[],b,h=>by cases b<;>simp[Ac.beqL]at h;rfl
 |x::r,b,h=>by
  cases b with
  |nil=>simp[Ac.beqL]at h
  |cons y s=>simp only[Ac.beqL,BW]at h;rw[beq_eq x y h.1,lE r s h.2]
end
mutual
inductive Ty where
 |bool
 |int (k:IntKind)
 |str
 |list (t:Ty)
 |arr (n:Nat) (t:Ty)
 |prod (ts:R1)
inductive R1 where
 |one (t:Ty)
 |cons (t:Ty) (ts:R1)
end
mutual
@[reducible] def Ty.D:Ty->Type
 |.bool=>Bool
 |.int _=>Int
 |.str=>List UInt8
 |.list t=>List t.D
 |.arr n t=>GO (n+1) t.D
 |.prod ts=>ts.D
@[reducible] def R1.D:R1->Type
 |.one t=>t.D
 |.cons t ts=>t.D×ts.D
end
mutual
def Ty.sz:Ty->Nat
 |.bool=>1
 |.int _=>1
 |.str=>1
 |.list _=>1
 |.arr n t=>(n+1)*t.sz
 |.prod ts=>ts.sz
def R1.sz:R1->Nat
 |.one t=>t.sz
 |.cons t ts=>t.sz+ts.sz
end
mutual
def Ty.enc:(t:Ty)->t.D->Ac
 |.bool,b=>.bool b
 |.int k,n=>.int k n
 |.str,s=>.str s
 |.list t,l=>.vs t.sz (l.map t.enc)
 |.arr n t,a=>.agg ((List.finRange (n+1)).flatMap λi=>(t.enc (a i)).cells)
 |.prod ts,x=>.agg (ts.cells x)
def R1.cells:(ts:R1)->ts.D->List Ac
 |.one t,x=>(t.enc x).cells
 |.cons t ts,x=>(t.enc x.1).cells++ts.cells x.2
end
mutual
theorem Ty.sz_pos:∀t:Ty,0<t.sz
 |.bool=>g!
 |.int _=>by simp[Ty.sz]
 |.str=>g!
 |.list _=>by simp[Ty.sz]
 |.arr n t=>by simp only[Ty.sz];exact Nat.mul_pos (Nat.succ_pos n) t.sz_pos
 |.prod a=>by simp only[Ty.sz];exact a.sz_pos
theorem R1.sz_pos:∀a:R1,0<a.sz
 |.one t=>by simp only[R1.sz];exact t.sz_pos
 |.cons t a=>by simp only[R1.sz];have:=t.sz_pos;omega
end
mutual
theorem Ty.enc_len:∀(t:Ty)(x:t.D),(t.enc x).cells.length=t.sz
 |.bool,_=>rfl
 |.int _,_=>rfl
 |.str,_=>rfl
 |.list _,_=>rfl
 |.arr n t,a=>by
  show((List.finRange (n+1)).flatMap λi=>(t.enc (a i)).cells).length=(n+1)*t.sz;have:∀l:List (Fin (n+1)),(l.flatMap λi=>(t.enc (a i)).cells).length=θ l*t.sz:=by
   intro l;induction l with
   |nil=>simp
   |cons x l b=>rw[I7,AY,b,t.enc_len];simp[EI,X3]
  rw[this,List.length_finRange]
 |.prod ts,x=>ts.cells_len x
theorem R1.cells_len:∀(a:R1)(x:a.D),(a.cells x).length=a.sz
 |.one t,x=>by simp only[R1.cells,R1.sz];exact t.enc_len x
 |.cons t a,x=>by simp only[R1.cells,R1.sz,AY];rw[t.enc_len,a.cells_len]
end
mutual
theorem Ty.enc_pure:∀(t:Ty)(x:t.D),Pure (t.enc x)
 |.bool,_=>rfl
 |.int _,_=>rfl
 |.str,_=>rfl
 |.list t,l=>by unfold Pure;show Ac.idsAllL _ (l.map t.enc)=ζ;rw[Dt];intro v b;obtain⟨x,_,rfl⟩:=Bs.1 b;exact t.enc_pure x
 |.arr n t,a=>by unfold Pure;show Ac.idsAllL _ ((List.finRange (n+1)).flatMap λi=>(t.enc (a i)).cells)=ζ;rw[Dt];intro v b;obtain⟨i,_,b⟩:=Gl.1 b;exact Uy (t.enc_pure _) v b
 |.prod ts,x=>by unfold Pure;show Ac.idsAllL _ (ts.cells x)=ζ;rw[Dt];exact ts.cells_pure x
theorem R1.cells_pure:∀(b:R1)(x:b.D),∀v∈b.cells x,Pure v
 |.one t,x,v,a=>Uy (t.enc_pure x) v a
 |.cons t b,x,v,a=>by simp only[R1.cells,Ak]at a;rcases a with a|a;exact Uy (t.enc_pure _) v a;exact b.cells_pure _ v a
end
def Ty.E(t:Ty):R3 t.D:=⟨t.sz,t.enc,t.sz_pos,t.enc_len,t.enc_pure⟩
mutual
def Ty.beq:Ty->Ty->Bool
 |.bool,.bool=>ζ
 |.int k,.int k'=>decide (k=k')
 |.str,.str=>ζ
 |.list t,.list t'=>t.beq t'
 |.arr n t,.arr n' t'=>ξ n n'&&t.beq t'
 |.prod ts,.prod ts'=>ts.beq ts'
 |_,_=>η
def R1.beq:R1->R1->Bool
 |.one t,.one t'=>t.beq t'
 |.cons t ts,.cons t' ts'=>t.beq t'&&ts.beq ts'
 |_,_=>η
end
mutual
theorem Ty.beq_eq:∀(t a:Ty),t.beq a=ζ->t=a
 |.bool,a,h=>by cases a<;>simp[Ty.beq]at h;rfl
 |.int k,a,h=>by cases a<;>simp[Ty.beq]at h;rw[h]
 |.str,a,h=>by cases a<;>simp[Ty.beq]at h;rfl
 |.list t,a,h=>by cases a<;>simp[Ty.beq]at h;rw[t.beq_eq _ h]
 |.arr n t,a,h=>by cases a<;>simp[Ty.beq]at h;rw[h.1,t.beq_eq _ h.2]
 |.prod ts,a,h=>by cases a<;>simp[Ty.beq]at h;rw[ts.beq_eq _ h]
theorem R1.beq_eq:∀(t a:R1),t.beq a=ζ->t=a
 |.one t,a,h=>by cases a<;>simp[R1.beq]at h;rw[t.beq_eq _ h]
 |.cons t ts,a,h=>by cases a<;>simp[R1.beq]at h;rw[t.beq_eq _ h.1,ts.beq_eq _ h.2]
end
def Ty.cast{t t':Ty}(h:t.beq t'=ζ)(x:t.D):t'.D:=Ty.beq_eq t t' h▸x
def dG{t a:Ty}(h:t.beq a=ζ)(x:t.D):a.enc (Ty.cast h x)=t.enc x:=by have:=Ty.beq_eq t a h;subst this;rfl
mutual
def Ty.zero:(t:Ty)->t.D
 |.bool=>η
 |.int _=>(0:Int)
 |.str=>([]:List UInt8)
 |.list t=>([]:List t.D)
 |.arr n t=>(GO.all t.zero:GO (n+1) t.D)
 |.prod ts=>ts.zero
def R1.zero:(ts:R1)->ts.D
 |.one t=>t.zero
 |.cons t ts=>(t.zero,ts.zero)
end
inductive Bv where
 |bl (b:Bool)
 |it (k:IntKind) (n:Int)
 |st (s:List UInt8)
 |ls (t:Ty) (l:List t.D)
 |ar (n:Nat) (t:Ty) (a:GO (n+1) t.D)
 |own (id ver:Nat) (t:Ty) (n:Nat)
 |nil
 |raw (v:Ac)
def Bv.w:Bv->Nat
 |.ar n t _=>(n+1)*t.sz
 |_=>1
def Bv.enc:Bv->List Ac
 |.bl b=>[.bool b]
 |.it k n=>[.int k n]
 |.st s=>[.str s]
 |.ls t l=>[.vs t.sz (l.map t.enc)]
 |.ar n t a=>((Ty.arr n t).enc a).cells
 |.own id _ t n=>[.sl id n t.sz 0 n]
 |.nil=>[.nils]
 |.raw v=>[v]
def Bv.one:Bv->Ac
 |.bl b=>.bool b
 |.it k n=>.int k n
 |.st s=>.str s
 |.ls t l=>.vs t.sz (l.map t.enc)
 |.ar n t a=>(Ty.arr n t).enc a
 |.own id _ t n=>.sl id n t.sz 0 n
 |.nil=>.nils
 |.raw v=>v
def lvs(cs:List Bv):List Ac:=cs.flatMap Bv.enc
def Bv.enc_len(x:Bv):θ x.enc=x.w:=by
 cases x with
 |ar n t a=>exact Ty.enc_len (.arr n t) a
 |_=>rfl
inductive TV where
 |c (x:Bv)
 |g (cs:List Bv)
 |aptr (id base n:Nat) (t:Ty) (i:Int) (off:Nat)
 |bptr (id ver:Nat) (t:Ty) (n:Nat) (i:Int) (off:Nat)
 |vw (id ver:Nat) (t:Ty) (n lo m:Nat)
 |vptr (cs:List Bv) (post:List Ac)
 |tup (vs:List TV)
def vwE(id n sz lo m:Nat):Ac:=
 if min m (n-lo)=0 then(if lo=0 then .sl id n sz 0 0 else .vs sz [])else .sl id n sz (lo*sz) (min m (n-lo))
mutual
def TV.enc:TV->Ac
 |.c x=>x.one
 |.g cs=>.agg (lvs cs)
 |.aptr id base _ t i off=>.ptr id 0 (base+i.toNat*t.sz+off)
 |.bptr id _ t n i off=>.ptr id n (i.toNat*t.sz+off)
 |.vw id _ t n lo m=>vwE id n t.sz lo m
 |.vptr cs post=>.vptr (lvs cs++post)
 |.tup vs=>.tup (TV.encL vs)
def TV.encL:List TV->List Ac
 |[]=>[]
 |v::r=>v.enc::TV.encL r
end
def tO:∀l:List TV,TV.encL l=l.map TV.enc
 |[]=>rfl
 |v::r=>by simp only[TV.encL,Bf,tO r]
abbrev BZ:=List (Nat×TV)
inductive LS where
 |ready
 |busy
 |ret
 |exit (x:Nat)
def LS.st:LS->LoopState
 |.ready=>.ready
 |.busy=>.busy
 |_=>.done
def LS.pend:LS->Option Code
 |.ret=>δ .ret
 |.exit x=>δ (.exit x)
 |_=>ε
def LS.beq:LS->LS->Bool
 |.ready,.ready=>ζ
 |.busy,.busy=>ζ
 |.ret,.ret=>ζ
 |.exit x,.exit y=>ξ x y
 |_,_=>η
def LS.beq_eq{a b:LS}(h:a.beq b=ζ):a=b:=by cases a<;>cases b<;>simp only[LS.beq]at h<;>first|rfl|cases h|rw[DA h]
inductive Dv where
 |dead
 |live (ro:Bool) (cs:List Bv)
 |buf (ro:Bool) (t:Ty) (l:List t.D) (n ver:Nat)
 |lp (ro:Bool) (F:FuncId) (n:Nat) (env:BZ) (ps:Array Tmp) (a b:Code) (s:LS)
 |mp (ro:Bool) (k:IntKind) (t:Ty) (es:List (Int×t.D))
abbrev Ap:=List Dv
def Bz(env:BZ):Env:=env.map λp=>(p.1,p.2.enc)
def Dv.enc:Dv->Fk
 |.dead=>.dead
 |.live _ cs=>.live 0 (lvs cs)
 |.buf _ t l n _=>.live n (t.E.cl l)
 |.lp _ _ n env ps a b s=>.lp ⟨n,Bz env,ps,a,b,s.st,s.pend⟩
 |.mp _ k t es=>.mp k (es.map λp=>(p.1,t.enc p.2))
def BJ(H:Ap):Au:=H.map Dv.enc
def VD:TV:=.c (.raw .any)
def BZ.get:BZ->Nat->TV
 |[],_=>VD
 |(k,v)::r,t=>match ξ k t with|true=>v|false=>BZ.get r t
def BZ.del(t:Nat):BZ->BZ
 |[]=>[]
 |(k,v)::r=>match ξ k t with|true=>BZ.del t r|false=>(k,v)::BZ.del t r
def BZ.put(env:BZ)(t:Nat)(v:TV):BZ:=(t,v)::BZ.del t env
def BZ.putO(env:BZ):Option Nat->TV->BZ
 |some t,v=>env.put t v
 |none,_=>env
theorem beq_false(h:N≠n):ξ N n=η:=by grind[Nat.eq_of_beq_eq_true]
theorem UZ(env:BZ)(t:Nat):(Bz env).get t=(env.get t).enc:=by
 induction env with
 |nil=>simp[Bz,Env.get,BZ.get,VD,TV.enc,Bv.one]
 |cons p r a=>grind[Bz,Env.get,BZ.get,Nat.beq_refl,beq_false]
theorem ADs(env:BZ)(t:Nat):Bz (BZ.del t env)=(Bz env).filter λp=>decide (p.1≠t):=by induction env<;>grind[BZ.del,Bz,Nat.beq_refl,beq_false]
def jy(env:BZ)(t:Nat)(v:TV):Bz (env.put t v)=(Bz env).put t v.enc:=by simp only[Env.put,<-ADs];rfl
def Xo(env:BZ)(t:Option Nat)(v:TV):Bz (env.putO t v)=(Bz env).putO t v.enc:=by
 cases t with
 |none=>rfl
 |some t=>exact jy env t v
def ADo:Value->Bv
 |.bool b=>.bl b
 |.int k n=>.it k n
 |.string s=>.st s.data.toList
 |.pointer ε=>.raw .nilp
 |.slice ε 0 0=>.nil
 |.nilFunc=>.raw .nilf
 |_=>.raw .any
def cvT:Value->TV
 |.agg cs=>match cs.toList.all (·.oneCell')with|true=>.g (cs.toList.map ADo)|false=>VD
 |v=>.c (ADo v)
def yN(v:Value):(ADo v).one=qh v:=by
 cases v with
 |pointer p=>cases p<;>rfl
 |slice a l c=>
  cases a with
  |some _=>rfl
  |none=>
   match l,c with
   |0,0=>rfl
   |0,_+1=>rfl
   |_+1,_=>rfl
 |_=>rfl
theorem ADp(v:Value):(ADo v).enc=[qh v]:=by
 cases v with
 |pointer p=>cases p<;>rfl
 |slice a l c=>
  cases a with
  |some _=>rfl
  |none=>
   match l,c with
   |0,0=>rfl
   |0,_+1=>rfl
   |_+1,_=>rfl
 |_=>rfl
theorem AFv(v:Value):(cvT v).enc=ACK v:=by
 cases v with
 |agg b=>
  simp only[cvT,ACK];cases h:b.toList.all (·.oneCell')with
  |false=>simp[VD,TV.enc,Bv.one]
  |true=>simp only[TV.enc,lvs];induction b.toList<;>grind[ADp]
 |pointer p=>exact yN (.pointer p)
 |slice a l c=>exact yN (.slice a l c)
 |_=>rfl
def JW(env:BZ):Operand->TV
 |.tmp t=>env.get t
 |.const v=>cvT v
 |.global _=>VD
 |.func f=>.c (.raw (.fn (.func f) [] []))
theorem LN(env:BZ)(x:Operand):BO (Bz env) x=(JW env x).enc:=by
 cases x with
 |tmp t=>exact UZ env t
 |const v=>exact(AFv v).symm
 |global _=>rfl
 |func f=>rfl
def W8:List Bv->Nat->Option (List Bv×List Bv)
 |ls,0=>δ ([],ls)
 |[],_+1=>ε
 |x::r,n+1=>
  match Nat.ble x.w (n+1)with
  |true=>match W8 r (n+1-x.w)with|some (a,b)=>δ (x::a,b)|none=>ε
  |false=>ε
mutual
def Ty.lvs:(t:Ty)->t.D->List Bv
 |.bool,b=>[.bl b]
 |.int k,n=>[.it k n]
 |.str,s=>[.st s]
 |.list t,l=>[.ls t l]
 |.arr n t,a=>[.ar n t a]
 |.prod ts,x=>ts.lvs x
def R1.lvs:(ts:R1)->ts.D->List Bv
 |.one t,x=>t.lvs x
 |.cons t ts,x=>t.lvs x.1++ts.lvs x.2
end
def Bv.scalar:Bv->Bool
 |.ar .. =>η
 |.raw (.agg _)=>η
 |_=>ζ
def part(P:Program)(t:TypeId)(cs:List Bv)(off:Nat):Option TV:=
 match W8 cs off with
 |some (_,r)=>
  match tI P t with
  |some (ζ,n)=>match W8 r n with|some (a,_)=>δ (.g a)|none=>ε
  |some (η,_)=>match r with|x::_=>(match x.scalar with|true=>δ (.c x)|false=>ε)|[]=>ε
  |none=>ε
 |none=>ε
section
variable {R:Type}
def okT(o:Option TV)(k:TV->Option R):Option R:=
 match o with
 |some v=>k v
 |none=>ε
def ADS(cs:List Bv)(base n:Nat)(t:Ty):Option (GO (n+1) t.D):=
 match W8 cs base with
 |some (_,.ar n' t' a::_)=>if h:(Ty.arr n' t').beq (Ty.arr n t)=ζ then δ (Ty.cast h a)else ε
 |_=>ε
def X7(H:Ap)(id ver:Nat)(t:Ty):Option (List t.D):=
 match H[id]? with
 |some (.buf _ t' l _ ver')=>match ξ ver ver' with|true=>(if h:(Ty.list t').beq (Ty.list t)=ζ then δ (Ty.cast h l)else ε)|false=>ε
 |_=>ε
def W6(H:Ap)(id:Nat):Option (List Bv):=
 match H[id]? with
 |some (.live _ cs)=>δ cs
 |_=>ε
def loadT(P:Program)(H:Ap)(t:TypeId)(v:TV)(k:TV->Option R):Option R:=
 match v with
 |.c (.raw (.ptr id 0 off))=>match W6 H id with|some cs=>okT (part P t cs off) k|none=>ε
 |.vptr cs _=>okT (part P t cs 0) k
 |.aptr id base n te i off=>
  match W6 H id with
  |some cs=>match ADS cs base n te with|some a=>(Gk a i).bind λe=>okT (part P t (te.lvs e) off) k|none=>ε
  |none=>ε
 |.bptr id ver te _ i off=>match X7 H id ver te with|some l=>(ix l i).bind λe=>okT (part P t (te.lvs e) off) k|none=>ε
 |_=>ε
def tvA:Ac->TV
 |.bool b=>.c (.bl b)
 |.int k n=>.c (.it k n)
 |.str s=>.c (.st s)
 |v=>.c (.raw v)
def okA(o:Option Ac)(k:TV->Option R):Option R:=
 match o with
 |some v=>k (tvA v)
 |none=>ε
def eqT(as bs:List Bv):Bool:=ux (lvs as) (lvs bs)
def AHi(P:Program)(op:BinOp)(t:TypeId)(x y:TV)(k:TV->Option R):Option R:=
 match x,y with
 |.c (.it kx a),.c (.it ky b)=>
  match op with
  |.shl=>cond (τ (b<0)) ε (k (.c (.it kx (kx.wrap (a*2^min b.toNat kx.bits)))))
  |.shr=>cond (τ (b<0)) ε (k (.c (.it kx (a.fdiv (2^min b.toNat kx.bits)))))
  |.quo=>if kx=ky then cond (b==0) ε (k (.c (.it kx (kx.wrap (a.tdiv b)))))else ε
  |.rem=>if kx=ky then cond (b==0) ε (k (.c (.it kx (a.tmod b))))else ε
  |op=>if kx=ky then okA (pM op kx a b) k else ε
 |.c (.bl a),.c (.bl b)=>
  match op with
  |.eql=>if kd P t=.bool then k (.c (.bl (a==b)))else ε
  |.neq=>if kd P t=.bool then k (.c (.bl (!(a==b))))else ε
  |_=>ε
 |.c (.st a),.c (.st b)=>
  match op with
  |.add=>(sapp a b).bind λs=>k (.c (.st s))
  |op=>okA (wh op a b) k
 |.g as,.g bs=>
  match ADf P t with
  |some ks=>
   if typed ks (lvs as)=ζ/\typed ks (lvs bs)=ζ then
    match op with
    |.eql=>k (.c (.bl (eqT as bs)))
    |.neq=>k (.c (.bl (!eqT as bs)))
    |_=>ε
   else ε
  |none=>ε
 |_,_=>ε
def unT(op:UnOp)(v:TV)(k:TV->Option R):Option R:=
 match v with
 |.c x=>okA (unV op x.one) k
 |_=>ε
def ADl(P:Program)(H:Ap)(src dst:TypeId)(v:TV)(k:TV->Option R):Option R:=
 match v with
 |.c (.ls (.int .u8) l)=>if kd P dst=.str/\kd P src=.bytes then k (.c (.st (Eu l)))else ε
 |.c (.own id ver (.int .u8) _)=>if kd P dst=.str/\kd P src=.bytes then(match X7 H id ver (.int .u8)with|some l=>k (.c (.st (Eu l)))|none=>ε)else ε
 |.c (.it kk n)=>okA (XD P [] src dst (.int kk n)) k
 |.c (.st s)=>okA (XD P [] src dst (.str s)) k
 |_=>ε
def nE(P:Program)(H:Ap)(s f:Nat)(v:TV)(k:TV->Option R):Option R:=
 match fI P s f with
 |some (off,_,n)=>
  match ξ n 0 with
  |true=>ε
  |false=>
   match v with
   |.c (.raw (.ptr id 0 o))=>match W6 H id with|some _=>k (.c (.raw (.ptr id 0 (o+off))))|none=>ε
   |.vptr cs post=>match W8 cs off with|some (_,r)=>k (.vptr r post)|none=>ε
   |.aptr id base n te i o=>match W6 H id with|some _=>k (.aptr id base n te i (o+off))|none=>ε
   |.bptr id ver te n i o=>match X7 H id ver te with|some _=>k (.bptr id ver te n i (o+off))|none=>ε
   |_=>ε
 |none=>ε
def zz(P:Program)(s f:Nat)(v:TV)(k:TV->Option R):Option R:=
 match fI P s f,v with
 |some (off,t,_),.g cs=>okT (part P t cs off) k
 |_,_=>ε
def nI(P:Program)(H:Ap)(t:TypeId)(v i:TV)(k:TV->Option R):Option R:=
 match i with
 |.c (.it _ i)=>
  match eI P t with
  |some (δ len,_,sz)=>
   match v with
   |.c (.raw (.ptr id 0 off))=>
    match W6 H id with
    |some cs=>
     match W8 cs off with
     |some (_,.ar n te a::_)=>if len=n+1/\sz=te.sz then(Gk a i).bind λ_=>k (.aptr id off n te i 0)else ε
     |_=>ε
    |none=>ε
   |.vptr (.ar n te a::r) post=>if len=n+1/\sz=te.sz then(Gk a i).bind λe=>k (.vptr (te.lvs e) ((((Ty.arr n te).enc a).cells.drop (i.toNat*te.sz+te.sz))++(lvs r++post)))else ε
   |_=>ε
  |some (ε,_,sz)=>
   match v with
   |.c (.ls te l)=>if sz=te.sz then(ix l i).bind λe=>k (.vptr (te.lvs e) [])else ε
   |.c (.own id ver te n)=>match X7 H id ver te with|some l=>(if sz=te.sz then(ix l i).bind λ_=>k (.bptr id ver te n i 0)else ε)|none=>ε
   |.vw id ver te n lo m=>match X7 H id ver te with|some l=>(if sz=te.sz then(ix ((l.drop lo).take m) i).bind λ_=>k (.bptr id ver te n ((lo:Int)+i) 0)else ε)|none=>ε
   |_=>ε
  |none=>ε
 |_=>ε
def wl(P:Program)(e:TypeId)(sz:Nat)(cs:List Bv)(i:Int)(k:TV->Option R):Nat->Nat->Option R
 |0,_=>ε
 |m+1,j=>cond (τ (i=Int.ofNat j)) (okT (part P e cs (j*sz)) k) (wl P e sz cs i k m (j+1))
def AAD(P:Program)(t:TypeId)(v i:TV)(k:TV->Option R):Option R:=
 match i with
 |.c (.it _ i)=>
  match v with
  |.g [.ar n te a]=>
   match eI P t with
   |some (δ len,e,sz)=>if len=n+1/\sz=te.sz then(Gk a i).bind λx=>okT (part P e (te.lvs x) 0) k else ε
   |_=>ε
  |.g cs=>
   match eI P t with
   |some (δ len,e,sz)=>match Nat.ble len 16 with|true=>wl P e sz cs i k len 0|false=>ε
   |_=>ε
  |.c (.st s)=>if kd P t=.str then(six s i).bind λb=>k (.c (.it .u8 b))else ε
  |_=>ε
 |_=>ε
def yF(d:Int):Option TV->Option Int
 |none=>δ d
 |some (.c (.it _ n))=>δ n
 |_=>ε
def AAs(P:Program)(H:Ap)(t:TypeId)(v:TV)(lo hi mx:Option TV)(k:TV->Option R):Option R:=
 match mx with
 |some _=>ε
 |none=>
  match v with
  |.c (.st s)=>
   match yF 0 lo,yF (θ s) hi with
   |some l,δ h=>if kd P t=.str then(R0 s l h).bind λx=>k (.c (.st x))else ε
   |_,_=>ε
  |.c (.ls te xs)=>
   match yF 0 lo,yF (θ xs) hi,eI P t with
   |some l,δ h,δ (ε,_,sz)=>if sz=te.sz then(W7 xs l h).bind λx=>k (.c (.ls te x))else ε
   |_,_,_=>ε
  |.c (.own id ver te n)=>
   match X7 H id ver te with
   |some xs=>
    match yF 0 lo,yF (θ xs) hi,eI P t with
    |some l,δ h,δ (ε,_,sz)=>if sz=te.sz then(W7 xs l h).bind λ_=>k (.vw id ver te n l.toNat (h.toNat-l.toNat))else ε
    |_,_,_=>ε
   |none=>ε
  |_=>ε
def AH3(P:Program)(H:Ap)(t:TypeId)(v:TV)(k:TV->Option R):Option R:=
 match P.underlying t,v with
 |some .string,.c (.st s)=>k (.c (.it .i64 (θ s)))
 |some (.array n _),_=>k (.c (.it .i64 n))
 |some (.slice _),.c (.ls _ l)=>k (.c (.it .i64 (θ l)))
 |some (.slice _),.c (.own id ver te n)=>match X7 H id ver te with|some _=>k (.c (.it .i64 n))|none=>ε
 |some (.slice _),.c .nil=>k (.c (.it .i64 0))
 |some (.slice _),.vw id ver te _ lo m=>match X7 H id ver te with|some l=>k (.c (.it .i64 ((l.drop lo).take m).length))|none=>ε
 |_,_=>ε
def mmT(mx:Bool)(x y:TV)(k:TV->Option R):Option R:=
 match x,y with
 |.c (.it kx a),.c (.it _ b)=>k (.c (.it kx (if mx then(if b>a then b else a)else(if b<a then b else a))))
 |_,_=>ε
def AH4(x y z:TV)(k:TV->Option R):Option R:=
 match x,y,z with
 |.c (.it kx a),.c (.it _ b),.c (.it _ c)=>k (.c (.it kx (if c<(if b<a then b else a)then c else(if b<a then b else a))))
 |_,_,_=>ε
def TV.words:TV->Option (List Bv)
 |.c x=>match x.scalar&&x.one.solid with|true=>δ [x]|false=>ε
 |.g cs=>δ cs
 |_=>ε
mutual
def Ty.zlvs:(t:Ty)->List Bv
 |.bool=>[.bl η]
 |.int k=>[.it k 0]
 |.str=>[.st []]
 |.list _=>[.nil]
 |.arr n t=>[.ar n t (GO.all t.zero)]
 |.prod ts=>ts.zlvs
def R1.zlvs:R1->List Bv
 |.one t=>t.zlvs
 |.cons t ts=>t.zlvs++ts.zlvs
end
mutual
def AAz(P:Program):Nat->TypeId->Option Ty
 |0,_=>ε
 |d+1,t=>
  match P.underlying t with
  |some .bool=>δ .bool
  |some (.int k)=>δ (.int k)
  |some .string=>δ .str
  |some (.slice e)=>(AAz P d e).map Ty.list
  |some (.array (n+1) e)=>(AAz P d e).map (Ty.arr n)
  |some (.struct fs)=>(AHL P d fs.toList).map Ty.prod
  |_=>ε
def AHL(P:Program):Nat->List Field->Option R1
 |0,_=>ε
 |_+1,[]=>ε
 |d+1,[f]=>(AAz P d f.type).map R1.one
 |d+1,f::r=>match AAz P d f.type,AHL P d r with|some t,δ ts=>δ (.cons t ts)|_,_=>ε
end
def vr:Ac->Bv
 |.bool b=>.bl b
 |.int k n=>.it k n
 |.str s=>.st s
 |v=>.raw v
def um(P:Program)(t:TypeId):Option (List Bv):=
 match Yw P t with
 |some z=>
  match AAz P 1000 t with
  |some ty=>match Ac.beqL z (lvs ty.zlvs)with|true=>δ ty.zlvs|false=>δ (z.map vr)
  |none=>δ (z.map vr)
 |none=>ε
def ACu(cs:List Bv)(off:Nat)(vs:List Bv)(n:Nat):Option (List Bv):=
 match W8 cs off with
 |some (a,r)=>match W8 r n with|some (_,b)=>δ (a++(vs++b))|none=>ε
 |none=>ε
def AFD:List Bv->Nat
 |[]=>0
 |x::r=>x.w+AFD r
def yU(p:Zt):List Bv->List (Nat×TV)->Option (List Bv)
 |cs,[]=>δ cs
 |cs,(i,v)::r=>
  match p.at_ i,v.words with
  |some (off,size),δ ws=>
   match ξ (AFD ws) size with
   |true=>match ACu cs off ws size with|some cs'=>yU p cs' r|none=>ε
   |false=>ε
  |_,_=>ε
def zr(P:Program)(t:TypeId)(parts:List (Nat×TV)):Option TV:=
 match um P t,uX P t with
 |some z,δ p=>(yU p z parts).map TV.g
 |_,_=>ε
def rY:List TV->Option (List Ac)
 |[]=>δ []
 |.c x::r=>match x.scalar,rY r with|true,δ l=>δ (x.one::l)|_,_=>ε
 |_=>ε
def quT(P:Program)(env:BZ)(H:Ap)(op:Op)(k:TV->Option R):Option R:=
 match op with
 |.move x|.assign x=>k (JW env x)
 |.pick c a b=>match JW env c with|.c (.bl t)=>cond t (k (JW env a)) (k (JW env b))|_=>ε
 |.load t a=>loadT P H t (JW env a) k
 |.nilCheck x=>
  match JW env x with
  |.c (.raw (.ptr id 0 off))=>match W6 H id with|some _=>k (.c (.raw (.ptr id 0 off)))|none=>ε
  |.c (.raw (.fn (.func f) a b))=>k (.c (.raw (.fn (.func f) a b)))
  |.vptr cs post=>k (.vptr cs post)
  |.aptr id base n te i off=>match W6 H id with|some _=>k (.aptr id base n te i off)|none=>ε
  |.bptr id ver te n i off=>match X7 H id ver te with|some _=>k (.bptr id ver te n i off)|none=>ε
  |_=>ε
 |.binOp op t x y _=>AHi P op t (JW env x) (JW env y) k
 |.unOp op _ x=>unT op (JW env x) k
 |.convert s d x=>ADl P H s d (JW env x) k
 |.fieldAddr s x f=>nE P H s f (JW env x) k
 |.field s x f=>zz P s f (JW env x) k
 |.indexAddr t x i=>nI P H t (JW env x) (JW env i) k
 |.index t x i=>AAD P t (JW env x) (JW env i) k
 |.slice t x lo hi mx=>AAs P H t (JW env x) (lo.map (JW env)) (hi.map (JW env)) (mx.map (JW env)) k
 |.extract x i=>match JW env x with|.tup vs=>(match vs[i]? with|some v=>k v|none=>ε)|_=>ε
 |.makeFunc f a b=>match rY (a.toList.map (JW env)),rY (b.toList.map (JW env))with|some l,δ m=>k (.c (.raw (.fn f l m)))|_,_=>ε
 |.build t parts=>okT (zr P t (parts.toList.map λp=>(p.1,JW env p.2))) k
 |.call {callee:=.builtin .len,args:=⟨[x]⟩,argTypes:=⟨[t]⟩}=>AH3 P H t (JW env x) k
 |.call {callee:=.builtin .max,args:=⟨[x,y]⟩,.. }=>mmT ζ (JW env x) (JW env y) k
 |.call {callee:=.builtin .min,args:=⟨[x,y]⟩,.. }=>mmT η (JW env x) (JW env y) k
 |.call {callee:=.builtin .min,args:=⟨[x,y,z]⟩,.. }=>AH4 (JW env x) (JW env y) (JW env z) k
 |_=>ε
end
end Go.Ab
