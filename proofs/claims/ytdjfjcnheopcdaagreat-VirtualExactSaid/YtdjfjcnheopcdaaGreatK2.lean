/- Texts of wip, joined and shortened by wip/tools/pack.py; nothing is assumed. -/
import Derived.Test.YtdjfjcnheopcdaaGreatK1
import Derived.Laws.MakeOwn
import Derived.RangeFuncNested
import Derived.Lib.ConvBytes
import Derived.Laws.AppendOwn
noncomputable section
set_option linter.all false
namespace Go.Ab
variable {N n:Nat}{R J:Type}{o:Oper}{b V:TypeId}{d Z:List AZ}{f W:Env}{c:Code}{g:Operand}{L:Array Bool}{H:Ax}{j:World}{k:List Nat}{m:Option Nat}{p:FuncId}{i a:Int}{q:Array (Nat×Operand)}{r:Value}{s:AZ}{t:Act}{P:Program}{y:Array Oper}{z:Exit->Act->World->Prop}{h:Gh}{B:Exit->Env->Ax->Prop}{C:IntKind}{I:FZ}{M:Nat→Prop}{O:List UInt8}{S:TypeDesc}{T:Op}{Y:Call}
section
variable {X:Nat->Prop} {h:Gh} {H:Ax} {w:World} {N:Nat} {env env2:Env}
def Fz.trans{g:Nat}{l m n:Env}{i j k:Ax}(a:Fz N g l i m j)(b:Fz N g m j n k):Fz N g l i n k:=⟨b.1,λX h d w s=>by obtain⟨o,u,e,r⟩:=a.2 X h d w s;obtain⟨p,v,f,t⟩:=b.2 X o d w u;exact⟨p,v,λid c=>⟨(f id c).1.trans (e id c).1,(f id c).2.1.trans (e id c).2.1,(f id c).2.2.trans (e id c).2.2⟩,λB q=>r B (t B q)⟩⟩
def Fz.of_le{n0 j:Nat}{e:Ax}(a:Fz N j f H W e)(h:n0<=j):Fz N n0 f H W e:=⟨DH h a.1,λX g b w s=>by obtain⟨l,n,k,m⟩:=a.2 X g b w s;exact⟨l,n,λid c=>k id (DM c h),m⟩⟩
def Fz.virt{t sz:Nat}(n:env.get t= .nils):Fz N H.length env H (env.put t (.sl H.length 0 sz 0 0)) (H++[.live 0 []]):=by
 refine⟨k!,λX g d w s=>⟨g.at_ H.length none 0 0,⟨s.sim.virt,?_,s.size⟩,λid f=>by simp[Gh.at_,Be f],λB l=>?_⟩⟩;have r:(t,AZ.nils)∈env:=by rcases Nj (env:=env) (t:=t)with e|m;rw[n]at e;cases e;rw[n]at m;exact m
 have x:=HC.virt (h:=g) (H:=H) (w:=w);have a:=s.env.later (x.later X);intro u v m;unfold Env.put at m;rcases Av.1 m with e|m;injection e with o p;subst o p;obtain⟨q,k⟩:=s.env _ _ r;refine⟨q,?_⟩;generalize d.tmps.getD u undef=c at k;cases k;exact .sl (by simp[cx]) (by simp[cx,Gh.at_]) ⟨_,_,rfl⟩ λ_=>.inl ⟨by simp[cx,Gh.at_],rfl,rfl,rfl⟩;exact a u v (BM.1 m).1;rcases(HC.virt (h:=g) (H:=H) (w:=w)).fresh B l with h|h;exact h;obtain⟨id,e,a,j,b⟩:=l;rcases Ij a with⟨i,a⟩|⟨rfl,rfl⟩;exact⟨id,e,a,j,by simpa[Gh.at_,Be i]using b⟩;simp[Gh.at_]at b
end
def xf(sz:Nat)(cs:List AZ)(rows:List AZ):Prop:=0<sz/\(∀e∈rows,e.cells.length=sz)/\rows.flatMap AZ.cells=cs
theorem kj{sz:Nat}: ∀{a:List AZ},(∀e∈a,e.cells.length=sz)-> ∀(j:Nat) (e:AZ) (i:Nat) (v:AZ),a[j]? =some e->e.cells[i]? =some v->(a.flatMap AZ.cells)[j*sz+i]? =some v
 |e0::r,h,j,e,i,v,hj,hi=>by
  have b:=h e0 k!;simp;cases j with
  |zero=>grind
  |succ j=>rw[Ch q!,b,show(j+1)*sz+i-sz=j*sz+i from by grind];exact kj (λe c=>h e (Cd _ c)) j e i v q! hi
def Bp.froze{id g sz n:Nat}{y:Cx}(s:Ix M h H j)(P:H[id]? =some (FZ.live g d))(hr:xf sz d Z)(hn:Z.length=n)
  (R:(cx M h H j).Later y) (I:y.w=j) (w: ∀B,h.io id=some B-> ¬y.O B) (X:Bp (cx M h H j) (.sl id g sz 0 n) r):Bp y (.vs sz Z) r:=by
 obtain⟨x,k,rfl⟩:=hr;obtain⟨t,o⟩:=s.live id g _ P;cases X with
 |sl p q Y N=>
  rcases N t with⟨F,U,_,rfl⟩|⟨B,cap,F,m,C,rfl⟩;have:Z=[]:=EP o!;subst this;exact Bp.vs (rows:=[]) (cap:=0) (λ_ _=>undef) (Aq _) x (λ_ _ h=>by simp at h) (λh=>(h rfl).elim) λ_ _ _ _ h=>by simp at h
  rcases o with⟨E,_⟩|⟨z,J,T,W,f,l,G,A,S,Q,b⟩;rw[E]at F;cases F;have:z=B:=by rw[F]at l;injection l with e;exact e.symm
  subst this;subst hn;refine .vs (λa i=>f (a*sz+i)) m x (λa e u=>k e (BP u)) (λV=>⟨z,0,rfl,w z F,?_,λa e i v u D=>?_⟩) λa e i v u D=>?_;rw[I];exact O5 G;obtain⟨K,L,_⟩:=b _ v (kj k a e i v u D);rw[EL,I,PJ (w:=j) G];exact⟨K,L⟩;exact(b _ v (kj k a e i v u D)).2.2.later R
section
variable {X:Nat->Prop} {h:Gh} {H:Ax} {w:World}
theorem bZ(b:(H.take N)[n]? =some I):n<N/\H[n]? =some I:=q!
def dt{n0 B:Nat}(d:owned h (H.take n0) B):owned h H B:=by obtain⟨id,e,c,b,a⟩:=d;exact⟨id,e,(bZ c).2,b,a⟩
def Bp.trunc(hn:N<=H.length)(a:Bp (cx X h H w) s r)(d:(s.idsAll λid=>decide (id<N))=true):Bp (cx X h (H.take N) w) s r:=by have:=Bp.ren (x:=cx X h H w) (y:=cx X h (H.take N) w) (ρ:=λi=>i) (p:=λid=>decide (id<N)) (λi e _=>⟨by simp[cx]at*;omega,rfl,rfl,rfl⟩) rfl (λB b=>by rcases b with b|b;exact .inl b;exact .inr (dt b)) a d;rwa [xM (p:=λid=>decide (id<N)) (λ_ _=>rfl) s d]at this
theorem Ix.trunc(s:Ix X h H w)(hn:N<=H.length)(E: ∀e∈H.take N,(e.idsAll λid=>decide (id<N))=true):Ix X h (H.take N) w:=by refine⟨λB D=>⟨(s.out B D).1,λO=>(s.out B D).2 (dt O)⟩,λid g G c=>?_,λid L c=>?_,λid A e I B i k=>s.inj id A e I B (bZ i).2 (bZ k).2,s.bldKeep λid e c _=>⟨(bZ c).2,rfl,rfl,rfl,λ_ _ _ _ _=>rfl⟩⟩;obtain⟨x,n⟩:=s.live id g G (bZ c).2;refine⟨x,?_⟩;rcases n with⟨z,rfl⟩|⟨B,p,T,J,f,d,a,l,y,u,b⟩;exact .inl ⟨z,rfl⟩;refine .inr ⟨B,p,T,J,f,d,a,l,y,u,λj v F=>?_⟩;obtain⟨i,k,q⟩:=b j v F;exact⟨i,k,q.trunc hn (MZ (by simpa[FZ.idsAll]using E _ (BP c)) F)⟩;obtain⟨x,B,r,d,a,i,k,q,K,M,o,C⟩:=s.lp id L (bZ c).2;refine⟨x,B,r,d,a,i,k,q,K,M,o,λt v m=>⟨(C t v m).1,(C t v m).2.trunc hn ?_⟩⟩;have P:=E _ (BP c);grind[FZ.idsAll]
end
def IE:List Oper->List Nat->List Nat
 |[],acc=>acc
 |o::r,acc=>IE r (acc++[o.after.toList.foldl (λs e=>if Region.binds .any e=true then s|||2^e.on|||acc.getD e.on 0 else s) 0])
def O3(m:List Nat)(i j:Nat):Bool:=(m.getD j 0).testBit i
def rY{b:List Nat}{i:Nat}: ∀(l:List Edge) (s:Nat),(l.foldl (λs e=>if Region.binds .any e=true then s|||2^e.on|||b.getD e.on 0 else s) s).testBit i=true→
  s.testBit i=true\/ ∃e∈l,Region.binds .any e=true/\(e.on=i\/(b.getD e.on 0).testBit i=true)
 |[],s,h=>.inl h
 |e::l,s,h=>by simp only[WV]at h;rcases rY l _ h with a|⟨f,d,c,g⟩;split at a;rename_i c;simp only[Nat.testBit_or,WT,Nat.testBit_two_pow]at a;rcases a with(a|a)|a;exact .inl a;exact .inr ⟨e,k!,c,.inl (by simpa using a)⟩;exact .inr ⟨e,k!,c,.inr a⟩;exact .inl a;exact .inr ⟨f,Cd _ d,c,g⟩
theorem WY: ∀(l:List Oper) (a:List Nat),(∀k,k<a.length→(IE l a)[k]? =a[k]?)∧
  ∀(p i:Nat) (o:Oper),l[p]? =some o->O3 (IE l a) i (a.length+p)=true-> ∃e∈o.after.toList,Region.binds .any e=true/\(e.on=i\/(e.on<a.length+p/\O3 (IE l a) i e.on=true))
 |[],a=>⟨λ_ _=>rfl,λp i o h=>by simp at h⟩
 |o::l,a=>by
  simp only[IE];generalize g:o.after.toList.foldl (λs e=>if Region.binds .any e=true then s|||2^e.on|||a.getD e.on 0 else s) 0=x;obtain⟨m,c⟩:=WY l (a++[x]);refine⟨λk r=>?_,λp i j t b=>?_⟩;grind;cases p with
  |zero=>
   have f:(IE l (a++[x])).getD a.length 0=x:=q!
   simp only[O3,P0]at b;rw[f,<-g]at b;rcases rY _ _ b with d|⟨e,q,n,d⟩;grind;grind[O3]
  |succ p=>have:=c p i j q! q!;rw[show(a++[x]).length+p=a.length+(p+1)from by simp;omega]at this;exact this
section
variable {ops:Array Oper}
def sZ(ops:Array Oper)(L:Array Bool):Prop:= ∀(j:Nat) (o:Oper),ops[j]? =some o->L.getD j false=true-> ∀e∈o.after,Region.binds .any e=true->L.getD e.on false=true
def bW{L:Array Bool}(k:sZ ops L){i:Nat}: ∀(n j:Nat) (o:Oper),j<n->ops[j]? =some o->(∀e∈o.after,Region.binds .any e=true->L.getD e.on false=true)->O3 (IE ops.toList []) i j=true->L.getD i false=true
 |0,_,_,h,_,_,_=>o!
 |n+1,j,o,hj,ho,hp,hm=>by
  obtain⟨e,r,q,h⟩:=(WY ops.toList []).2 j i o (by simpa using ho) (by simpa using hm);have a:=hp e (by simpa using r) q;rcases h with rfl|⟨g,c⟩;exact a;have l:e.on<j:=by simpa using g
  cases b:ops[e.on]? with
  |none=>have:O3 (IE ops.toList []) i e.on=true:=c;obtain⟨s,_⟩:=Zv.1 ho;rw[uY]at b;omega
  |some m=>exact bW k n e.on m o! b (λp f d=>k e.on m b a p f d) c
def tmpsOf(o:Oper):List Nat:=o.op.operands.toList.filterMap λ| .tmp t=>some t|_=>none
def iz(P:Program)(N:Nat)(o:Oper)(env:Env)(H:Ax)(rd:List Nat)(v:AZ):Prop:=
 ∀(env':Env) (H':Ax),(∀t∈tmpsOf o,env'.get t=env.get t)->(∀id∈rd,H'[id]? =H[id]?)->JC P N o env' H' λu H''=>u=v/\H''=H'
def Eff(P:Program)(N:Nat)(o:Oper)(env:Env)(H:Ax)(F:List Nat)(K:AZ->Ax->Prop):Prop:=
 (∀env':Env,(∀t∈tmpsOf o,env'.get t=env.get t)->JC P N o env' H K)/\ ∀v H',K v H'-> ∀id,id<H.length->id∉F->H'[id]? =H[id]?
def H6(ops:Array Oper)(j:Nat):Bool:=
 match ops[j]? with
 |some o=>match o.op with| .alloc _=>true|_=>false
 |none=>false
def RA(P:Program)(N:Nat)(ops:Array Oper):List Nat->List (Nat×List Nat)->Env->Ax->(Env->Ax->Prop)->Prop
 |[],_,env,H,Q=>Q env H
 |i::r,pend,env,H,Q=>
  match ops[i]? with
  |none=>False
  |some o=>
   Wd ops o.guard env
    ((H6 ops i=false/\ ∃v rd,iz P N o env H rd v/\(∀id∈rd,id<H.length)/\RA P N ops r ((i,rd)::pend) (env.putO o.dst v) H Q)\/
     (H6 ops i=false/\ ∃F,(∀j∈r,O3 (IE ops.toList []) i j=true\/H6 ops j=true)/\(∀p∈pend,O3 (IE ops.toList []) p.1 i=true\/ ∀id∈p.2,id∉F)/\
      ∃K,Eff P N o env H F K/\(∀v H',K v H'->H.length<=H'.length)/\ ∀v H',K v H'->RA P N ops r pend (env.putO o.dst v) H' Q)\/
     ∃t z,o.op= .alloc t/\XZ P t=some z/\(∀j∈r,O3 (IE ops.toList []) i j=true\/H6 ops j=true)/\RA P N ops r pend (env.putO o.dst (.ptr H.length 0 0)) (H++[.live 0 z]) Q)
    (H6 ops i=false/\RA P N ops r ((i,[])::pend) (env.putO o.dst (.tup [])) H Q)
def Ux(P:Program)(ops:Array Oper):Bool:=ops.toList.all λo=>match o.op with| .alloc t=>(XZ P t).isSome&&o.guard.isNone|_=>true
def UK(ops:Array Oper)(i:Nat):Option Nat:=(ops[i]?).bind (·.dst)
def yT(ops:Array Oper)(N:Nat)(l:List Nat):Bool:=
 let m:=IE ops.toList []
 let n:=ops.size
 Ko N ops.toList&&
 (decide l.Nodup&&((List.range n).all λi=>l.contains i)&&l.all (λi=>decide (i<n)))&&
 ((List.range n).all λi=>match ops[i]? with
  |some o=>(o.after.toList.all λe=>!Region.binds .any e||decide (e.on<i))&&
    (match o.guard with|some (j,_)=>O3 m j i&&decide (j<n)&&(UK ops j).isSome|none=>true)&&
    (match o.dst with
     |some d=>(List.range n).all λj=>decide (j=i)||(match ops[j]? with
       |some o'=>!decide (o'.dst=some d)&&(!(tmpsOf o').contains d||O3 m i j||O3 m j i)
       |none=>true)
     |none=>true)
  |none=>true)&&
 (l.zipIdx.all λ(i,p)=>l.zipIdx.all λ(j,q)=>!decide (p<q)|| !O3 m j i)
theorem F8(env:Env)(t u:Nat)(v:AZ):(env.put t v).get u=if u=t then v else env.get u:=by unfold Env.put;simp only[Env.get];by_cases h:t=u;grind;rw[if_neg h,if_neg (λe=>h e.symm)];induction env<;>grind[Env.get]
def KN(env:Env):Prop:= ∀t v,(t,v)∈env->env.get t=v
theorem KN.put(h:KN f)(t:Nat)(v:AZ):KN (f.put t v):=by
 intro u x m;rw[F8];rcases Av.1 m with e|m;grind;obtain⟨a,b⟩:=BM.1 m;have:u≠t:=q!
 rw[if_neg this];exact h u x a
def KN.putO(h:KN f)(t:Option Nat)(v:AZ):KN (f.putO t v):=by
 cases t with
 |none=>exact h
 |some t=>exact h.put t v
theorem ai: ∀{env:Env},(env.map (·.1)).Nodup->KN env
 |[],_=>λ_ _ h=>by cases h
 |(k,w)::r,h=>by
  simp at h;intro t v m;simp only[Env.get];rcases Av.1 m with e|m;grind;have:k≠t:=q!
  rw[if_neg this];exact ai h.2 t v m
end
structure Vr(ops:Array Oper)(N:Nat)(l:List Nat):Prop where
 dsts:Ko N ops.toList=true
 nodup:l.Nodup
 all: ∀i,i<ops.size->i∈l
 lt: ∀i∈l,i<ops.size
 back: ∀(i:Nat) (o:Oper),ops[i]? =some o-> ∀e∈o.after,Region.binds .any e=true->e.on<i
 guard: ∀(i:Nat) (o:Oper) (j:Nat) (b:Bool),ops[i]? =some o->o.guard=some (j,b)->O3 (IE ops.toList []) j i=true/\j<ops.size/\ ∃d,UK ops j=some d
 uniq: ∀(i j d:Nat),UK ops i=some d->UK ops j=some d->i=j
 haz: ∀(i j d:Nat) (o:Oper),UK ops i=some d->ops[j]? =some o->d∈tmpsOf o->i≠j->O3 (IE ops.toList []) i j=true\/O3 (IE ops.toList []) j i=true
 ord: ∀(l1 l2:List Nat),l=l1++l2-> ∀i∈l1,∀j∈l2,O3 (IE ops.toList []) j i=false
theorem Wq(h:UK y N=some n): ∃o,y[N]? =some o/\o.dst=some n:=by grind[UK]
theorem Ur{i:Nat}(h:y[i]? =some o):i<y.size:=q!
theorem xL(h:yT y N k=true):Vr y N k:=by
 unfold yT at h;simp only[BU]at h;obtain⟨⟨⟨x,⟨g,M⟩,z⟩,A⟩,B⟩:=h;have a: ∀(i:Nat) (o:Oper),y[i]? =some o->_:=λi o f=>by have:=F3.1 A i (Hi.2 (Ur f));rw[f]at this;simp only[BU]at this;exact this
 refine⟨x,by simpa using g,λi c=>?_,λi c=>by simpa using List.all_eq_true.1 z i c,λi o f e E C=>?_,λi o j b f F=>?_,λi j d c l=>?_,λi j d o c l n G=>?_,λl1 l2 w i c j l=>?_⟩;simp_all;have:=F3.1 (a i o f).1.1 e (by simpa using E);simpa[C]using this;have:=(a i o f).1.2;rw[F]at this;simp only[BU,decide_eq_true_eq]at this;exact⟨this.1.1,this.1.2,bo.1 this.2⟩;obtain⟨o,f,n⟩:=Wq c;obtain⟨O,m,r⟩:=Wq l;have:=(a i o f).2;rw[n]at this;have:=F3.1 this j (Hi.2 (Ur m));rw[m]at this;simp only[r,decide_true,Cm,Bool.false_and,Bool.or_false,decide_eq_true_eq]at this;exact this.symm;obtain⟨L,u,s⟩:=Wq c;have:=(a i L u).2;rw[s]at this;have:=F3.1 this j (Hi.2 (Ur l));rw[l]at this;have D:(tmpsOf o).contains d=true:=by simpa using n
 simp only[D,Cm,Bool.false_or,WT,decide_eq_true_eq,BU]at this;rcases this with h|⟨_,h⟩;omega;exact h;obtain⟨p,H⟩:=Dm c;obtain⟨q,I⟩:=Dm l;have v:p<l1.length:=q!
 have J:(i,p)∈k.zipIdx:=by rw[oe];rw[w,CO v];exact H
 have K:(j,l1.length+q)∈k.zipIdx:=by rw[oe];rw[w,Ch o!];simpa using I
 have:=F3.1 (F3.1 B _ J) _ K;have t:p<l1.length+q:=o!
 simpa[t]using this
section
variable {P:Program} {N:Nat} {ops:Array Oper} {l:List Nat} {Q:Env->Ax->Prop} {env0:Env} {X:Nat->Prop} {h0:Gh} {H0:Ax} {w0:World} {ds0:List Deferred}
def Opd(ops:Array Oper)(env0:Env)(v:Nat->AZ)(i:Nat)(o:Oper)(ei:Env):Prop:=
 ∀t∈tmpsOf o,(∀k,k≠i->UK ops k=some t->O3 (IE ops.toList []) k i=true->ei.get t=v k)/\
  ((∀k,k≠i->UK ops k=some t->O3 (IE ops.toList []) k i=false)->ei.get t=env0.get t)
def TJ(v:Nat->AZ)(o:Oper)(r:Bool):Prop:=
 match o.guard with
 |none=>r=true
 |some (j,want)=>(∃b,v j= .bool b/\r=(b==want))\/(v j= .tup []/\r=false)
def XR(X:Nat->Prop)(early:Nat->Option Nat)(B:Nat):Prop:=X B\/ ∃i,early i=some B
structure Inv(P:Program)(N:Nat)(ops:Array Oper)(l:List Nat)(Q:Env→Ax→Prop)(env0:Env)(X:Nat→Prop)(h0:Gh)(H0:Ax)(w0:World)(ds0:List Deferred)
  (l1 l2:List Nat) (v:Nat->AZ) (pend:List (Nat×List Nat)) (env:Env) (H:Ax) (h:Gh) (early:Nat->Option Nat) (L:Array Bool) (a:Act) (w:World):Prop where
 split:l=l1++l2
 ra:RA P N ops l2 pend env H Q
 kn:KN env
 keys: ∀t u,(t,u)∈env->t<N
 env1: ∀k∈l1,∀t,UK ops k=some t->env.get t=v k
 env2: ∀t,(∀k∈l1,UK ops k≠some t)->env.get t=env0.get t
 sim:Ix (XR X early) h H w
 nodefer:a.defers=ds0
 size:a.tmps.size=N
 slot1: ∀k t,L.getD k false=true->early k=none->UK ops k=some t->Bp (cx (XR X early) h H w) (v k) (a.tmps.getD t undef)
 slot2: ∀t,(∀k,L.getD k false=true->UK ops k≠some t)->Bp (cx (XR X early) h H w) (env0.get t) (a.tmps.getD t undef)
 sub: ∀i,L.getD i false=true->early i=none->i∈l1
 lsz:L.size=ops.size
 closed:sZ ops L
 pendq: ∀i∈l1,L.getD i false=false-> ∃o,ops[i]? =some o/\H6 ops i=false/\((TJ v o false/\v i= .tup [])\/
  (TJ v o true/\ ∃rd ei,(i,rd)∈pend/\(∀id∈rd,id<H.length)/\KN ei/\(∀t u,(t,u)∈ei->t<N)/\Opd ops env0 v i o ei/\iz P N o ei H rd (v i)))
 ext:HC h0 H0 w0 h H w
 early1: ∀i B,early i=some B->i∈l2/\L.getD i false=true/\w0.heap.size<=B/\B<w.heap.size/\ ∃(o:Oper) (t:TypeId) (z:List AZ) (arr:Array Value),ops[i]? =some o/\o.op= .alloc t/\XZ P t=some z/\
  w.heap[B]? =some (.cells arr t (0,0))/\Bp (cx (XR X early) h H w) (.agg z) (.agg arr)/\ ∀d,o.dst=some d->a.tmps.getD d undef= .pointer (some ⟨B,0,none⟩)
 early2: ∀i j B,early i=some B->early j=some B->i=j
def look(o:Oper)(ei:Env):Env:=ei.filter λp=>(tmpsOf o).contains p.1
theorem vP(o:Oper)(a:Env): ∀t∈tmpsOf o,(look o a).get t=a.get t:=by unfold look;induction a<;>grind[Env.get]
variable {l1 l2:List Nat} {v:Nat->AZ} {pend:List (Nat×List Nat)} {env:Env} {H:Ax} {h:Gh} {early:Nat->Option Nat} {L:Array Bool} {a:Act} {w:World}
def Inv.opd(ok:Vr ops N l)(I:Inv P N ops l Q env0 X h0 H0 w0 ds0 l1 l2 v pend env H h early L a w)(m:l2=n::k)(s:ops[n]? =some o):Opd ops env0 v n o env:=by
 intro t u;have r:n∉l1:=by intro b;have:=ok.nodup;rw[I.split,m]at this;exact(Py.1 this).2.2 n b n k! rfl
 refine⟨λi q c g=>?_,λp=>?_⟩;refine I.env1 i ?_ t c;obtain⟨x,f,_⟩:=Wq c;have b:=ok.all i (Ur f);rw[I.split,Ao]at b;rcases b with b|b;exact b;rw[m]at b;rcases Av.1 b with e|b;exact(q e).elim;have:=ok.ord (l1++[n]) k (by rw[I.split,m];simp) n k! i b;rw[g]at this;cases this;refine I.env2 t λi b c=>?_;have d:i≠n:=λe=>r (e▸b);rcases ok.haz i n t o c s u d with j|j;rw[p i d c]at j;cases j;have:=ok.ord l1 l2 I.split i b n (by rw[m];simp);rw[j]at this;cases this
def Inv.look(ok:Vr ops N l)(I:Inv P N ops l Q env0 X h0 H0 w0 ds0 l1 l2 v pend env H h early L a w)(y:ops[n]? =some o)(p:L.getD n false=false)
  (J: ∀e∈o.after,Region.binds .any e=true->L.getD e.on false=true) (x: ∀k,O3 (IE ops.toList []) k n=true->early k=none)  (kn:KN f) (G: ∀t u,(t,u)∈f->t<N) (i:Opd ops env0 v n o f):NZ (cx (XR X early) h H w) (look o f) a:=by
 intro t u m;obtain⟨B,K⟩:=BM.1 m;have z:t∈tmpsOf o:=by simpa using K
 refine⟨by rw[I.size];exact G t u B,?_⟩;rw[<-kn t u B];obtain⟨D,E⟩:=i t z;by_cases A: ∃k,k≠n/\UK ops k=some t/\O3 (IE ops.toList []) k n=true;obtain⟨k,b,d,c⟩:=A;rw[D k b d c];exact I.slot1 k t (bW I.closed (n+1) n o o! y J c) (x k c) d;have g: ∀k,k≠n->UK ops k=some t->O3 (IE ops.toList []) k n=false:=by
  intro k b d;cases s:O3 (IE ops.toList []) k n with
  |false=>rfl
  |true=>exact(A ⟨k,b,d,s⟩).elim
 rw[E g];refine I.slot2 t λk q d=>?_;by_cases b:k=n;subst b;rw[p]at q;cases q;rcases ok.haz k n t o d y z b with r|r;rw[g k b d]at r;cases r;obtain⟨C,j,_⟩:=Wq d;have:=bW I.closed (k+1) k C o! j (λe F s=>I.closed k C j q e F s) r;rw[p]at this;cases this
theorem Inv.wanted(ok:Vr ops N l)(I:Inv P N ops l Q env0 X h0 H0 w0 ds0 l1 l2 v pend env H h early L a w)(z:ops[n]? =some o)(t: ∀k,O3 (IE ops.toList []) k n=true→early k=none)
  (D: ∀e∈o.after,Region.binds .any e=true->L.getD e.on false=true) {r:Bool} (x:TJ v o r):Region.wanted o (yielded ops a.tmps)=r:=by
 unfold TJ at x;unfold Region.wanted;cases y:o.guard with
 |none=>grind
 |some p=>
  obtain⟨j,i⟩:=p;rw[y]at x;obtain⟨f,G,d,q⟩:=ok.guard n o j i z y;have s:=bW I.closed (n+1) n o o! z D f;have hr:=I.slot1 j d s (t j f) q;have B:d<a.tmps.size:=by obtain⟨F,C,A⟩:=Wq q;have:=F3.1 ok.dsts F q!;grind[I.size]
  rcases x with⟨b,u,rfl⟩|⟨u,rfl⟩
  case inr=>
   rw[u]at hr;obtain⟨m,g⟩: ∃m,a.tmps.getD d undef= .tuple m:=by generalize a.tmps.getD d undef=c at hr;cases hr;grind
   have E:yielded ops a.tmps j=none:=by unfold yielded;rw[show(ops[j]?).bind (·.dst)=some d from q];simp_all
   grind
  rw[u]at hr;have g:a.tmps.getD d undef= .bool b:=by generalize a.tmps.getD d undef=c at hr;cases hr;rfl
  have E:yielded ops a.tmps j=some b:=by unfold yielded;rw[show(ops[j]?).bind (·.dst)=some d from q];simp_all
  grind
def Inv.noEarly(ok:Vr ops N l)(I:Inv P N ops l Q env0 X h0 H0 w0 ds0 l1 l2 v pend env H h early L a w)(d:n∈l1\/ ∃r,l2=n::r): ∀k,O3 (IE ops.toList []) k n=true->k≠n->early k=none:=by
 intro k c f;cases g:early k with
 |none=>rfl
 |some B=>have b:=(I.early1 k B g).1;rcases d with d|⟨r,rfl⟩;have:=ok.ord l1 l2 I.split n d k b;rw[c]at this;cases this;rcases Av.1 b with e|b;exact(f e).elim;have:=ok.ord (l1++[n]) r (by rw[I.split];simp) n k! k b;rw[c]at this;cases this
theorem G4{i:Nat}(a:i<L.size)(j:Nat):(L.setIfInBounds i true).getD j false=if j=i then true else L.getD j false:=by rw[P3,P3];grind
theorem Rt(b: ∀a,m=some a->a<t.tmps.size)(a:Nat):(t.put m r).tmps.getD a undef=if m=some a then r else t.tmps.getD a undef:=by
 cases m with
 |none=>simp[Act.put]
 |some m=>simp only[Act.put];rw[P3,P3];grind
theorem jf(f:sZ ops L)(h:N<L.size)(l:ops[N]? =some o)(m: ∀e∈o.after,Region.binds .any e=true->L.getD e.on false=true):sZ ops (L.setIfInBounds N true):=by intro j k c a e g d;rw[G4 h]at a⊢;by_cases b:j=N;grind;rw[if_neg b]at a;rw[f j k c a e g d];simp
end
section
variable {P:Program} {N:Nat} {ops:Array Oper} {l:List Nat} {Q:Env->Ax->Prop} {env0:Env} {X:Nat->Prop} {h0:Gh} {H0:Ax} {w0:World} {ds0:List Deferred}
variable {l1 l2:List Nat} {v:Nat->AZ} {pend:List (Nat×List Nat)} {env:Env} {H:Ax} {h:Gh} {early:Nat->Option Nat} {L:Array Bool} {a:Act} {w:World}
theorem mM(ok:Vr ops N l)(a:ops[n]? =some o): ∀t,o.dst=some t->t<N:=by have:=F3.1 ok.dsts o q!;grind
theorem Fv(a:ops[N]? =some o):UK ops N=o.dst:=by grind[UK]
def Inv.done(ok:Vr ops N l)(I:Inv P N ops l Q env0 X h0 H0 w0 ds0 l1 l2 v pend env H h early L a w){i:Nat}(p:ops[i]? =some o)(r:i∈l1)(ad:L.getD i false=false)
  (hp: ∀e∈o.after,Region.binds .any e=true->L.getD e.on false=true) {c:Value} {A:Gh}  (sim:Ix (XR X early) A H j) (x:HC h H w A H j) (hv:Bp (cx (XR X early) A H j) (v i) c):
  Inv P N ops l Q env0 X h0 H0 w0 ds0 l1 l2 v pend env H A early (L.setIfInBounds i true) (a.put o.dst c) j:=by
 have n:i<L.size:=by rw[I.lsz];exact Ur p
 have F: ∀t,o.dst=some t->t<a.tmps.size:=λt ht=>by rw[I.size];exact mM ok p t ht
 have O:=x.later (XR X early);have s:i∉l2:=by intro hm;have:=ok.nodup;rw[I.split]at this;exact(Py.1 this).2.2 i r i hm rfl
 refine{split:=I.split,ra:=I.ra,kn:=I.kn,keys:=I.keys,env1:=I.env1,env2:=I.env2,sim:=sim,nodefer:=?_,size:=(XS _ _ _).trans I.size,slot1:=λk t m M f=>?_,slot2:=λt y=>?_,sub:=λC G J=>?_,lsz:=by rw[lf];exact I.lsz,closed:=jf I.closed n p hp,pendq:=λk K g=>?_,ext:=I.ext.trans x,early1:=λk B m=>?_,early2:=I.early2};rw[show(a.put o.dst c).defers=a.defers by cases o.dst<;>rfl];exact I.nodefer;rw[Rt F];rw[G4 n]at m;by_cases b:k=i;subst b;rw[Fv p]at f;rw[if_pos f];exact hv;rw[if_neg b]at m;rw[if_neg (λe=>b (ok.uniq k i t f (by rw[Fv p];exact e)))];exact(I.slot1 k t m M f).later O;rw[Rt F];have R:o.dst≠some t:=by have:=y i (by rw[G4 n,if_pos rfl]);rwa [Fv p]at this
 rw[if_neg R];refine(I.slot2 t λk m=>y k ?_).later O;rw[G4 n];split;rfl;exact m;rw[G4 n]at G;by_cases u:C=i;subst u;exact r;rw[if_neg u]at G;exact I.sub C G J;rw[G4 n]at g;by_cases b:k=i;subst b;simp at g;rw[if_neg b]at g;exact I.pendq k K g;obtain⟨S,V,W,T,o',t,z,D,U,Y,Z,e8,e9,E⟩:=I.early1 k B m;have b:k≠i:=λe=>s (e▸S);refine⟨S,by rw[G4 n,if_neg b];exact V,W,DM T x.size,o',t,z,D,U,Y,Z,?_,e9.later O,λd q=>?_⟩;exact(x.keep B T (I.sim.out B (.inr ⟨k,m⟩)).2).trans e8;rw[Rt F,if_neg (λe=>b (ok.uniq k i d (by rw[Fv U];exact q) (by rw[Fv p];exact e)))];exact E d q
def Inv.next(ok:Vr ops N l)(I:Inv P N ops l Q env0 X h0 H0 w0 ds0 l1 l2 v pend env H h early L a w){i:Nat}(hl:l2=i::k)(V:ops[i]? =some o){pend':List (Nat×List Nat)}
  (G:H6 ops i=false) (bz:RA P N ops k pend' (env.putO o.dst s) H Q) (bt: ∀p∈pend,p∈pend')
  (hq:(TJ v o false/\s= .tup [])\/(TJ v o true/\ ∃rd,(i,rd)∈pend'/\(∀id∈rd,id<H.length)/\iz P N o env H rd s)):
  ∃T,Inv P N ops l Q env0 X h0 H0 w0 ds0 (l1++[i]) k T pend' (env.putO o.dst s) H h early L a w:=by
 have a2:=I.opd ok hl V;have a0:=ok.nodup;rw[I.split,hl]at a0;have Z:i∉l1:=λhm=>(Py.1 a0).2.2 i hm i k! rfl;have ar:early i=none:=by
  cases he:early i with
  |none=>rfl
  |some B=>obtain⟨_,_,_,_,o',t,z,b0,e5,e6,_⟩:=I.early1 i B he;unfold H6 at G;rw[e5]at G;simp only[e6]at G;cases G
 have bN:L.getD i false=false:=by
  cases R:L.getD i false with
  |false=>rfl
  |true=>exact(Z (I.sub i R ar)).elim
 let T:Nat->AZ:=λr=>if r=i then s else v r;have F: ∀r,r≠i->T r=v r:=λr g=>by simp[T,g]
 have a3:T i=s:=by simp[T]
 have U: ∀t,(env.putO o.dst s).get t=if o.dst=some t then s else env.get t:=by
  intro t;cases o.dst with
  |none=>simp[Env.putO]
  |some d=>simp only[Env.putO,F8,Am];by_cases h:d=t;subst h;simp;rw[if_neg h,if_neg (λe=>h e.symm)]
 have al:O3 (IE ops.toList []) i i=true->False:=by
  intro R;obtain⟨e,he,b1,K⟩:=(WY ops.toList []).2 i i o (by simpa using V) (by simpa using R);have ao: ∀(n j r:Nat),j<n->O3 (IE ops.toList []) r j=true->r<j:=by
   intro n;induction n with
   |zero=>intro j r h;omega
   |succ n ih=>
    intro j r hj R;cases ad:ops[j]? with
    |none=>
     have bG:ops.size<=j:=uY.1 ad;have ax: ∀(l:List Oper) (O:List Nat),(IE l O).length=O.length+l.length:=by
      intro l;induction l with
      |nil=>intro O;rfl
      |cons o l ih=>intro O;simp only[IE,ih];simp;omega
     have:(IE ops.toList []).getD j 0=0:=by rw[QX,Cn (by rw[ax];simpa using bG)];rfl
     unfold O3 at R;rw[this]at R;simp at R
    |some oj=>obtain⟨e,he,a5,A⟩:=(WY ops.toList []).2 j r oj (by simpa using ad) (by simpa using R);have b2:=ok.back j oj ad e (by simpa using he) a5;rcases A with A|⟨A,h3⟩;omega;have:=ih e.on r o! h3;omega
  have:=ao (i+1) i i o! R;omega
 have a4: ∀{r:Nat} {y:Oper} {ei:Env},r∈l1->ops[r]? =some y->Opd ops env0 v r y ei->Opd ops env0 T r y ei:=by intro r y ei a7 S bl t ht;obtain⟨c1,c2⟩:=bl t ht;refine⟨λq hq M C=>?_,c2⟩;rw[c1 q hq M C,F];rintro rfl;have:=ok.ord l1 l2 I.split r a7 q (by rw[hl];simp);rw[C]at this;cases this
 have f: ∀{o':Oper} {b:Bool},(∀j c,o'.guard=some (j,c)->j≠i)->TJ v o' b->TJ T o' b:=by
  intro o' b bb hw;unfold TJ at hw⊢;cases Y:o'.guard with
  |none=>rw[Y]at hw;exact hw
  |some p=>obtain⟨j,c⟩:=p;rw[Y]at hw;simp only at hw⊢;rw[F j (bb j c Y)];exact hw
 refine⟨T,{split:=by rw[I.split,hl];simp,ra:=bz,kn:=I.kn.putO _ _,keys:=λt x m=>?_,env1:=λr g t M=>?_,env2:=λt a1=>?_,sim:=I.sim,nodefer:=I.nodefer,size:=I.size,slot1:=λr t g a9 M=>?_,slot2:=I.slot2,sub:=λj hj a6=>Gc _ (I.sub j hj a6),lsz:=I.lsz,closed:=I.closed,pendq:=λr g a'=>?_,ext:=I.ext,early1:=λr B g=>?_,early2:=I.early2}⟩;cases J:o.dst with
 |none=>rw[J]at m;exact I.keys t x m
 |some d=>rw[J]at m;simp only[Env.putO,Env.put]at m;rcases Av.1 m with e|m;injection e with e1 _;subst e1;exact mM ok V t J;exact I.keys t x (BM.1 m).1
 rw[U];rcases Ao.1 g with g|g;have D:r≠i:=λe=>Z (e▸g);rw[F r D,if_neg (λe=>D (ok.uniq r i t M (by rw[Fv V];exact e)))];exact I.env1 r g t M;have:r=i:=by simpa using g
 subst this;rw[Fv V]at M;rw[if_pos M,a3];rw[U];have K:o.dst≠some t:=by have:=a1 i k!;rwa [Fv V]at this
 rw[if_neg K];exact I.env2 t λr g=>a1 r (Gc _ g);have D:r≠i:=by rintro rfl;rw[bN]at g;cases g
 rw[F r D];exact I.slot1 r t g a9 M;rcases Ao.1 g with E|E;have D:r≠i:=λe=>Z (e▸E);obtain⟨y,S,a8,W⟩:=I.pendq r E a';have u: ∀j c,y.guard=some (j,c)->j≠i:=by rintro j c Y rfl;have:=(ok.guard r y j c S Y).1;have A:=ok.ord l1 l2 I.split r E j (by rw[hl];simp);rw[this]at A;cases A
 refine⟨y,S,a8,?_⟩;rw[F r D];rcases W with⟨K,A⟩|⟨K,rd,ei,A,h3,h4,h5,h6,h7⟩;exact .inl ⟨f u K,A⟩;exact .inr ⟨f u K,rd,ei,bt _ A,h3,h4,h5,a4 E S h6,h7⟩;have:r=i:=by simpa using E
 subst this;have u: ∀j c,o.guard=some (j,c)->j≠r:=by rintro j c Y rfl;exact al (ok.guard j o j c V Y).1
 refine⟨o,V,G,?_⟩;rw[a3];rcases hq with⟨K,A⟩|⟨K,rd,A,h3,h4⟩;exact .inl ⟨f u K,A⟩;refine .inr ⟨f u K,rd,env,A,h3,I.kn,I.keys,λt ht=>?_,h4⟩;obtain⟨c1,c2⟩:=a2 t ht;exact⟨λq hq M C=>by rw[c1 q hq M C,F q hq],c2⟩;obtain⟨e1,e2⟩:=I.early1 r B g;rw[hl]at e1;rcases Av.1 e1 with e|e1;rw[e,ar]at g;cases g;exact⟨e1,e2⟩
def Inv.guardW(ok:Vr ops N l)(I:Inv P N ops l Q env0 X h0 H0 w0 ds0 l1 l2 v pend env H h early L a w)(G:l2=n::k)(D:ops[n]? =some o){A B:Prop}(c:Wd ops o.guard env A B):
  (TJ v o true/\A)\/(TJ v o false/\B):=by
 unfold Wd at c;unfold TJ;cases t:o.guard with
 |none=>rw[t]at c;exact .inl ⟨rfl,c⟩
 |some p=>
  obtain⟨j,g⟩:=p;rw[t]at c;simp only at c⊢;obtain⟨f,S,d,K⟩:=ok.guard n o j g D t;have F:j∈l1:=by
   have m:=ok.all j S;rw[I.split,Ao]at m;rcases m with m|m;exact m;rw[G]at m;rcases Av.1 m with e|m;subst e;have J:=ok.back;exfalso;have C:=I.opd ok G D;obtain⟨e,M,R,V⟩:=(WY ops.toList []).2 j j o (by simpa using D) (by simpa using f);have x: ∀(r q i:Nat),q<r->q<=j->O3 (IE ops.toList []) i q=true->i<q:=by
    intro r;induction r with
    |zero=>intro q i h;omega
    |succ r U=>
     intro q i W T u;have y:q<ops.size:=by have:=Ur D;omega
     obtain⟨e,M,E,C⟩:=(WY ops.toList []).2 q i ops[q] (by simp[y]) (by simpa using u);have J:=ok.back q ops[q] (by simp[y]) e (by simpa using M) E;rcases C with C|⟨C,O⟩;omega;have:=U e.on i o! o! O;omega
   have:=x (j+1) j j o! (Aq _) f;omega;have:=ok.ord (l1++[n]) k (by rw[I.split,G];simp) n k! j m;rw[f]at this;cases this
  have z:VM ops env j=v j:=by unfold VM;rw[show(ops[j]?).bind (·.dst)=some d from K];exact I.env1 j F d K
  rw[z]at c;split at c;rename_i b u;by_cases s:b=g;exact .inl ⟨.inl ⟨b,u,by simp[s]⟩,c.1 s⟩;exact .inr ⟨.inl ⟨b,u,by simp[s]⟩,c.2 (by cases b<;>cases g<;>simp_all)⟩;rename_i u;exact .inr ⟨.inr ⟨u,trivial⟩,c⟩;exact c.elim
end
section
variable {P:Program} {N:Nat} {ops:Array Oper} {l:List Nat} {Q:Env->Ax->Prop} {env0:Env} {X:Nat->Prop} {h0:Gh} {H0:Ax} {w0:World} {ds0:List Deferred}
theorem VO(a:ops[N]? =some o):H6 ops N=true↔ ∃t,o.op= .alloc t:=by grind[H6]
theorem bq(h:Ux P ops=true)(i:ops[N]? =some o)(a:o.op= .alloc b):(∃z,XZ P b=some z)/\o.guard=none:=by have:=F3.1 h o (by rw[Array.mem_toList_iff];exact rD i);rw[a]at this;simp at this;grind[Option.isSome_iff_exists]
def Inv.adopt(ok:Vr ops N l)(ha:Ux P ops=true)(hX: ∀B,X B→B<w0.heap.size){l1:List Nat}{v:Nat→AZ}{a8:List (Nat×List Nat)}{env:Env}{H:Ax}{h:Gh}{early:Nat→Option Nat}{L:Array Bool}{a:Act}{w:World}
  {i:Nat} {r:List Nat} (I:Inv P N ops l Q env0 X h0 H0 w0 ds0 l1 (i::r) v a8 env H h early L a w) {B:Nat} (hB:early i=some B):
  ∃v' ad H' h' c,Inv P N ops l Q env0 X h0 H0 w0 ds0 (l1++[i]) r v' a8 ad H' h' c L a w:=by
 obtain⟨e1,e2,e3,e4,o,t,z,U,R,ar,hz,b1,ca,bG⟩:=I.early1 i B hB;have ct:H6 ops i=true:=(VO R).2 ⟨t,ar⟩;have hg:=(bq ha R ar).2;have a3:=I.ra;simp only[RA,R,hg,Wd,ct,Bool.true_eq_false,false_and,false_or]at a3;obtain⟨M,z',a6,ce,_,a3⟩:=a3;rw[ar]at a6;injection a6 with et;subst et;rw[hz]at ce;injection ce with ez;subst ez;have b':=ok.nodup;rw[I.split]at b';have b5:i∉l1:=λhm=>(Py.1 b').2.2 i hm i k! rfl;let u:AZ:=.ptr H.length 0 0;let v':Nat->AZ:=λk=>if k=i then u else v k;have a0: ∀k,k≠i->v' k=v k:=λk O=>by simp[v',O]
 have cc:v' i=u:=by simp[v']
 let c:Nat->Option Nat:=λk=>if k=i then none else early k;have W: ∀k C,c k=some C->k≠i/\early k=some C:=by intro k C O;simp only[c]at O;split at O;cases O;exact⟨v!,O⟩
 have a4: ∀t,(env.putO o.dst u).get t=if o.dst=some t then u else env.get t:=by
  intro t;cases o.dst with
  |none=>simp[Env.putO]
  |some d=>simp only[Env.putO,F8,Am];by_cases h:d=t;subst h;simp;rw[if_neg h,if_neg (λe=>h e.symm)]
 have ci: ∀{k:Nat} {K:Oper} {ei:Env},k∈l1->ops[k]? =some K->Opd ops env0 v k K ei->Opd ops env0 v' k K ei:=by intro k K ei bb a2 ar t ht;obtain⟨c1,c2⟩:=ar t ht;refine⟨λq hq hd a7=>?_,c2⟩;rw[c1 q hq hd a7,a0];rintro rfl;have:=ok.ord l1 (q::r) I.split k bb q k!;rw[a7]at this;cases this
 have T: ∀{o':Oper} {b:Bool},(∀j D,o'.guard=some (j,D)->j≠i)->TJ v o' b->TJ v' o' b:=by
  intro o' b bz hw;unfold TJ at hw⊢;cases hg:o'.guard with
  |none=>rw[hg]at hw;exact hw
  |some p=>obtain⟨j,D⟩:=p;rw[hg]at hw;simp only at hw⊢;rw[a0 j (bz j D hg)];exact hw
 have ax: ∀C,owned (h.at_ H.length (some B) 0 U.size) (H++[.live 0 z]) C->owned h H C\/C=B:=by rintro C ⟨id,e,he,bz,S⟩;rcases Ij he with⟨s,he⟩|⟨rfl,rfl⟩;exact .inl ⟨id,e,he,bz,by simpa[Gh.at_,Be s]using S⟩;simp[Gh.at_]at S;exact .inr S.symm
 have hl:(cx (XR X early) h H w).Later (cx (XR X c) (h.at_ H.length (some B) 0 U.size) (H++[.live 0 z]) w):=by refine⟨Aq _,λ_ _ _ _=>rfl,λC _ hO=>?_,by simp[cx],λid A=>by simp only[cx]at A;simp[cx,Gh.at_,Be A],λid A _=>by simp only[cx]at A;simp[cx,Gh.at_,Be A]⟩;rcases hO with(hO|⟨k,O⟩)|hO;exact .inl (.inl hO);exact .inl (.inr ⟨k,(W k C O).2⟩);rcases ax C hO with hO|rfl;exact .inr hO;exact .inl (.inr ⟨i,hB⟩)
 have b9: ¬owned h H B:=(I.sim.out B (.inr ⟨i,hB⟩)).2;have cb:Ix (XR X c) (h.at_ H.length (some B) 0 U.size) (H++[.live 0 z]) w:=by
  refine⟨λC V=>?_,λid g cs he=>?_,λid L' he=>?_,λid cG e e' C h1 h2 b7 b8 h3 h4=>?_,I.sim.bldKeep λid e he hB=>?_⟩;have cd:XR X early C:=by rcases V with V|⟨k,O⟩;exact .inl V;exact .inr ⟨k,(W k C O).2⟩
  refine⟨(I.sim.out C cd).1,λR=>?_⟩;rcases ax C R with R|rfl;exact(I.sim.out C cd).2 R;rcases V with V|⟨k,O⟩;have:=hX C V;omega;obtain⟨k1,k2⟩:=W k C O;exact k1 (I.early2 k i C k2 hB);rcases Ij he with⟨s,ao⟩|⟨rfl,e⟩;obtain⟨hg,b3⟩:=I.sim.live id g cs ao;refine⟨by simpa[cx,Gh.at_,Be s]using hg,?_⟩;rcases b3 with⟨hn,rfl⟩|⟨B1,Z,T',co,f,S,hb,b2,bt,a',E⟩;exact .inl ⟨by simpa[cx,Gh.at_,Be s]using hn,rfl⟩;refine .inr ⟨B1,Z,T',co,f,by simpa[cx,Gh.at_,Be s]using S,hb,by simpa[cx,Gh.at_,Be s]using b2,bt,a',λj v hj=>?_⟩;obtain⟨p1,p2,p3⟩:=E j v hj;exact⟨p1,p2,p3.later hl⟩;injection e with e1 e2;subst e1 e2;obtain⟨f,bt,a',E⟩:=Pf (ca.later hl);exact⟨by simp[cx,Gh.at_],.inr ⟨B,U,t,(0,0),f,by simp[cx,Gh.at_],b1,by simp[cx,Gh.at_],bt,a',E⟩⟩;rcases Ij he with⟨s,ao⟩|⟨rfl,e⟩;obtain⟨hg,B1,r1,S,hb,p1,p2,p3,p4,p5,p6,p7⟩:=I.sim.lp id L' ao;exact⟨by simpa[cx,Gh.at_,Be s]using hg,B1,r1,by simpa[cx,Gh.at_,Be s]using S,hb,p1,p2,p3,p4,p5,p6,λt v m=>⟨(p7 t v m).1,(p7 t v m).2.later hl⟩⟩;cases e;rcases Ij h1 with⟨cf,bN⟩|⟨rfl,_⟩<;>rcases Ij h2 with⟨ch,b0⟩|⟨rfl,_⟩;exact I.sim.inj _ _ _ _ C bN b0 b7 b8 (by simpa[Gh.at_,Be cf]using h3) (by simpa[Gh.at_,Be ch]using h4);simp[Gh.at_]at h4;subst h4;exact(b9 ⟨id,e,bN,b7,by simpa[Gh.at_,Be cf]using h3⟩).elim;simp[Gh.at_]at h3;subst h3;exact(b9 ⟨cG,e',b0,b8,by simpa[Gh.at_,Be ch]using h4⟩).elim;rfl;rcases Ij he with⟨s,ao⟩|⟨rfl,e⟩;exact⟨ao,by simp[Gh.at_,Be s],by simp[Gh.at_,Be s],by simp[Gh.at_,Be s],λ_ _ _ _ _=>rfl⟩;subst e;cases hB
 have b4:HC h0 H0 w0 (h.at_ H.length (some B) 0 U.size) (H++[.live 0 z]) w:=by have x:=I.ext;refine⟨x.os,x.tape,x.output,x.size,x.keep,by have:=x.n;simp;omega,λid A=>?_,λid A e=>?_,λC R=>?_,x.loops⟩;have s:id<H.length:=DM A x.n;simpa[Gh.at_,Be s]using x.gen id A;have s:id<H.length:=DM A x.n;have:=x.same id A (by simpa[Gh.at_,Be s]using e);simpa[Gh.at_,Be s]using this;rcases ax C R with R|rfl;exact x.fresh C R;exact .inr e3
 refine⟨v',env.putO o.dst u,H++[.live 0 z],h.at_ H.length (some B) 0 U.size,c,?_⟩;refine{split:=by rw[I.split];simp,ra:=a3,kn:=I.kn.putO _ _,keys:=λM y m=>?_,env1:=λk G M F=>?_,env2:=λM a1=>?_,sim:=cb,nodefer:=I.nodefer,size:=I.size,slot1:=λk M G cB F=>?_,slot2:=λM a1=>(I.slot2 M a1).later hl,sub:=λj hj cv=>?_,lsz:=I.lsz,closed:=I.closed,pendq:=λk bb bl=>?_,ext:=b4,early1:=λk C O=>?_,early2:=λk j C h1 h2=>I.early2 k j C (W k C h1).2 (W j C h2).2};cases al:o.dst with
 |none=>rw[al]at m;exact I.keys M y m
 |some d=>rw[al]at m;simp only[Env.putO,Env.put]at m;rcases Av.1 m with e|m;injection e with e1 _;subst e1;exact mM ok R M al;exact I.keys M y (BM.1 m).1
 rw[a4];rcases Ao.1 G with G|G;have J:k≠i:=λe=>b5 (e▸G);rw[a0 k J,if_neg (λe=>J (ok.uniq k i M F (by rw[Fv R];exact e)))];exact I.env1 k G M F;have:k=i:=by simpa using G
 subst this;rw[Fv R]at F;rw[if_pos F,cc];rw[a4];have h1:o.dst≠some M:=by have:=a1 i k!;rwa [Fv R]at this
 rw[if_neg h1];exact I.env2 M λk O=>a1 k (Gc _ O);by_cases J:k=i;subst J;rw[Fv R]at F;rw[cc,bG M F];exact .ptr (by simp[cx]) (by simp[cx,Gh.at_]) rfl λ_=>⟨B,by simp[cx,Gh.at_],rfl⟩
 rw[a0 k J];exact(I.slot1 k M G (by simpa[c,J]using cB) F).later hl;by_cases b6:j=i;subst b6;simp;exact Gc _ (I.sub j hj (by simpa[c,b6]using cv));rcases Ao.1 bb with Y|Y;have J:k≠i:=λe=>b5 (e▸Y);obtain⟨K,a2,cA,a9⟩:=I.pendq k Y bl;have a5: ∀j D,K.guard=some (j,D)->j≠i:=by rintro j D hg rfl;have:=(ok.guard k K j D a2 hg).1;have h2:=ok.ord l1 (j::r) I.split k Y j k!;rw[this]at h2;cases h2
 refine⟨K,a2,cA,?_⟩;rw[a0 k J];rcases a9 with⟨h1,h2⟩|⟨h1,rd,ei,h2,h3,h4,h5,h6,h7⟩;exact .inl ⟨T a5 h1,h2⟩;refine .inr ⟨T a5 h1,rd,ei,h2,λid A=>by have:=h3 id A;simp;omega,h4,h5,ci Y a2 h6,λad ck he hh=>h7 ad ck he λid A=>?_⟩;rw[hh id A,CO (h3 id A)];have:k=i:=by simpa using Y
 subst this;rw[e2]at bl;cases bl;obtain⟨k1,k2⟩:=W k C O;obtain⟨f1,f2,f3,f4,o',M,z',Z,f5,f6,f7,f8,f9,cm⟩:=I.early1 k C k2;rcases Av.1 f1 with e|f1;exact(k1 e).elim;exact⟨f1,f2,f3,f4,o',M,z',Z,f5,f6,f7,f8,f9.later hl,cm⟩
def Mid(P:Program)(N:Nat)(ops:Array Oper)(l:List Nat)(Q:Env->Ax->Prop)(env0:Env)(X:Nat->Prop)(h0:Gh)(H0:Ax)(w0:World)(ds0:List Deferred)(L:Array Bool)(a:Act)(w:World):Prop:=
 ∃l1 l2 v pend env H h early,Inv P N ops l Q env0 X h0 H0 w0 ds0 l1 l2 v pend env H h early L a w
def Td(ok:Vr ops N l)(T:Ux P ops=true)(S: ∀B,X B→B<w0.heap.size){L:Array Bool}{a:Act}{w:World}{i:Nat}{o:Oper}(C:ops[i]? =some o)(g:H6 ops i=false)(s: ∀e∈o.after,Region.binds .any e=true→L.getD e.on false=true):
  ∀(l2 l1:List Nat) (v:Nat->AZ) (b:List (Nat×List Nat)) (env:Env) (H:Ax) (h:Gh) (early:Nat->Option Nat),Inv P N ops l Q env0 X h0 H0 w0 ds0 l1 l2 v b env H h early L a w->∃l1 l2 v b env H h early,Inv P N ops l Q env0 X h0 H0 w0 ds0 l1 l2 v b env H h early L a w/\(i∈l1\/ ∃r,l2=i::r/\TJ v o true/\∃F,(∀j∈r,O3 (IE ops.toList []) i j=true\/H6 ops j=true)/\(∀p∈b,O3 (IE ops.toList []) p.1 i=true\/ ∀id∈p.2,id∉F)/\∃K,Eff P N o env H F K/\(∀v y,K v y->H.length<=y.length)/\ ∀v y,K v y->RA P N ops r b (env.putO o.dst v) y Q)
 |[],l1,v,b,env,H,h,early,I=>by have k:=ok.all i (Ur C);rw[I.split,Db]at k;exact⟨l1,[],v,b,env,H,h,early,I,.inl k⟩
 |q::r,l1,v,b,env,H,h,early,I=>by
  by_cases G:i∈l1;exact⟨l1,q::r,v,b,env,H,h,early,I,.inl G⟩
  ·cases E:early q with
   |some B=>obtain⟨O,ax,y,h',m,D⟩:=I.adopt ok T S E;exact Td ok T S C g s r _ O _ _ y h' m D
   |none=>
    have M:=I.ra;have ao:q<ops.size:=ok.lt q (by rw[I.split];simp);have c:ops[q]? =some (ops[q]):=by simp[ao]
    generalize a0:ops[q]=oq at c;have x:(∀j∈r,O3 (IE ops.toList []) q j=true\/H6 ops j=true)->i=q:=by intro f;have k:=ok.all i (Ur C);rw[I.split,Ao]at k;rcases k with k|k;exact(G k).elim;rcases Av.1 k with e|k;exact e;rcases f i k with R|R;have hd:=bW I.closed (i+1) i o o! C s R;have al:=I.sub q hd E;have J:=ok.nodup;rw[I.split]at J;exact((Py.1 J).2.2 q al q k! rfl).elim;rw[g]at R;cases R
    simp only[RA,c]at M;rcases I.guardW ok rfl c M with⟨U,(⟨n,u,rd,hQ,ar,d⟩|⟨n,F,f,V,K,W,Y,Z⟩|⟨t,z,ad,hz,f,d⟩)⟩|⟨U,n,d⟩
    ·obtain⟨O,D⟩:=I.next ok rfl c (pend':=(q,rd)::b) n d (λp s=>Cd _ s) (.inr ⟨U,rd,k!,ar,hQ⟩)
     exact Td ok T S C g s r _ O _ _ H h early D
    have A:=x f;subst A;rw[C]at c;injection c with e;subst e;exact⟨l1,i::r,v,b,env,H,h,early,I,.inr ⟨r,rfl,U,F,f,V,K,W,Y,Z⟩⟩;have A:=x f;subst A;have:=(VO c).2 ⟨t,ad⟩;rw[g]at this;cases this
    ·obtain⟨O,D⟩:=I.next ok rfl c (pend':=(q,[])::b) n d (λp s=>Cd _ s) (.inl ⟨U,rfl⟩)
     exact Td ok T S C g s r _ O _ _ H h early D
def Uv{K b:Act->World->Prop}(h:Oper.wpIn (FR m) 0 P o t j K z)(d: ∀t j,K t j->b t j):Oper.wpIn (FR m) 0 P o t j b z:=Oper.wpIn_mono d h
def Inv.make(ok:Vr ops N l)(ha:Ux P ops=true){l1 l2:List Nat}{v:Nat→AZ}{K:List (Nat×List Nat)}{env:Env}{H:Ax}{h:Gh}{early:Nat→Option Nat}{L:Array Bool}{a:Act}{w:World}{Q0:Exit→Act→World→Prop}{ro:Option Nat}
  (I:Inv P N ops l Q env0 X h0 H0 w0 ds0 l1 l2 v K env H h early L a w) {i:Nat} {o:Oper} {t:TypeId} (u:ops[i]? =some o) (y:o.op= .alloc t) (a7:L.getD i false=false)
  (hp: ∀e∈o.after,Region.binds .any e=true->L.getD e.on false=true):
  Oper.wpIn (FR ro) 0 P o a w (λa' C=> ∃b,Inv P N ops l Q env0 X h0 H0 w0 ds0 l1 l2 v K env H h b (L.setIfInBounds i true) a' C) Q0:=by
 obtain⟨⟨z,hz⟩,hg⟩:=bq ha u y;have bl:H6 ops i=true:=(VO u).2 ⟨t,y⟩;obtain⟨b5,zv,hi,b0,rz⟩:=bd (cx (XR X early) h H w) hz;have a5:(execOp a.eval o).run P w= .ok (.value (.pointer (some ⟨w.heap.size,0,none⟩))) {w with heap:=w.heap.push (.cells zv.cells t)}:=by unfold execOp;rw[y];simp[Instr.alloc,zeroValue,typeInfo,hi,b0,newVar,newRow]
 refine⟨λ_ _=>trivial,?_⟩;rw[Oper.semAt_eq _ _ _ (λc hc=>by rw[y]at hc;cases hc),a5,Oper.uponIn_value];let b:Nat->Option Nat:=λk=>if k=i then some w.heap.size else early k;generalize s:({w with heap:=w.heap.push (.cells zv.cells t)}:World)=C;have b4:C.heap.size=w.heap.size+1:=by rw[<-s];simp
 have q: ∀k,k<w.heap.size->C.heap[k]? =w.heap[k]? :=λk r=>by rw[<-s];simp[SX,Be r]
 have bN:C.heap[w.heap.size]? =some (.cells zv.cells t):=by rw[<-s];simp
 have U:C.os=w.os:=by rw[<-s]
 have V:C.tape=w.tape:=by rw[<-s]
 have A:C.output=w.output:=by rw[<-s]
 have ar:i∉l1:=by intro hm;obtain⟨o',b3,ax,_⟩:=I.pendq i hm a7;rw[bl]at ax;cases ax
 have bz:i∈l2:=by have:=ok.all i (Ur u);rw[I.split,Ao]at this;exact this.resolve_left ar
 have b1:early i=none:=by
  cases G:early i with
  |none=>rfl
  |some B=>have:=(I.early1 i B G).2.1;rw[a7]at this;cases this
 have a9:=I.sim.grow U V A o! q;have b2:=(HC.grow (h:=h) (H:=H) U V A o! q).later (XR X early);have J: ∀B,owned h H B->B<w.heap.size:=by rintro B ⟨id,e,G,S,x⟩;exact I.sim.io_at G S x
 have a8: ∀B,XR X b B->XR X early B\/B=w.heap.size:=by rintro B (O|⟨k,r⟩);exact .inl (.inl O);simp only[b]at r;split at r;injection r with e;exact .inr e.symm;exact .inl (.inr ⟨k,r⟩)
 have W:(cx (XR X early) h H w).Later (cx (XR X b) h H C):=by refine⟨by simp only[cx];omega,λB O _=>jE (q B O),λB O Z=>?_,Aq _,λ_ _=>Aq _,λ_ _ _=>⟨rfl,rfl⟩⟩;rcases Z with Z|Z;rcases a8 B Z with D|rfl;exact .inl D;simp only[cx]at O;omega;exact .inr Z
 have a6:Ix (XR X b) h H C:=by refine⟨λB O=>?_,λid g cs G=>?_,λid L' G=>?_,I.sim.inj,I.sim.bldKeep λid e G _=>⟨G,rfl,rfl,rfl,λB o _ R _=>q B (O5 R)⟩⟩;rcases a8 B O with D|rfl;exact a9.out B D;exact⟨o!,λu=>by have:=J _ u;omega⟩;obtain⟨hg,ao⟩:=I.sim.live id g cs G;refine⟨hg,?_⟩;rcases ao with⟨hn,rfl⟩|⟨B,M,T,fz,f,x,R,ad,bG,bt,E⟩;exact .inl ⟨hn,rfl⟩;refine .inr ⟨B,M,T,fz,f,x,(q B (O5 R)).trans R,ad,bG,bt,λj v hj=>?_⟩;obtain⟨p1,p2,p3⟩:=E j v hj;exact⟨p1,p2,p3.later W⟩;obtain⟨hg,B1,r1,x,R,p1,p2,p3,p4,p5,p6,p7⟩:=I.sim.lp id L' G;exact⟨hg,B1,r1,x,(q B1 (O5 R)).trans R,p1,p2,p3,p4,p5,p6,λt v m=>⟨(p7 t v m).1,(p7 t v m).2.later W⟩⟩
 have p:i<L.size:=by rw[I.lsz];exact Ur u
 have hd: ∀t,o.dst=some t->t<a.tmps.size:=λt ht=>by rw[I.size];exact mM ok u t ht
 refine⟨b,?_⟩;refine{split:=I.split,ra:=I.ra,kn:=I.kn,keys:=I.keys,env1:=I.env1,env2:=I.env2,sim:=a6,nodefer:=?_,size:=(XS _ _ _).trans I.size,slot1:=λk t r a3 al=>?_,slot2:=λt J=>?_,sub:=λj hj a0=>?_,lsz:=by rw[lf];exact I.lsz,closed:=jf I.closed p u hp,pendq:=λk a2 a4=>?_,ext:=I.ext.trans (HC.grow U V A o! q),early1:=λk B r=>?_,early2:=λj k B D Y=>?_};rw[show(a.put o.dst _).defers=a.defers by cases o.dst<;>rfl];exact I.nodefer;have n:k≠i:=by rintro rfl;simp[b]at a3
 rw[G4 p,if_neg n]at r;rw[Rt hd,if_neg (λe=>n (ok.uniq k i t al (by rw[Fv u];exact e)))];exact(I.slot1 k t r (by simpa[b,n]using a3) al).later W;rw[Rt hd];have S:o.dst≠some t:=by have:=J i (by rw[G4 p,if_pos rfl]);rwa [Fv u]at this
 rw[if_neg S];refine(I.slot2 t λk r=>J k ?_).later W;rw[G4 p];split;rfl;exact r;have a1:j≠i:=by rintro rfl;simp[b]at a0
 rw[G4 p,if_neg a1]at hj;exact I.sub j hj (by simpa[b,a1]using a0);have n:k≠i:=λe=>ar (e▸a2);rw[G4 p,if_neg n]at a4;exact I.pendq k a2 a4;by_cases n:k=i;subst n;simp only[b,if_true]at r;injection r with e;subst e;refine⟨bz,by rw[G4 p,if_pos rfl],I.ext.size,o!,o,t,z,zv.cells,u,y,hz,bN,rz.later W,λd F=>?_⟩;rw[Rt hd,if_pos F];simp only[b,if_neg n]at r;obtain⟨e1,e2,e3,e4,o',t',z',M,e5,e6,e7,e8,e9,bb⟩:=I.early1 k B r;refine⟨e1,by rw[G4 p,if_neg n];exact e2,e3,o!,o',t',z',M,e5,e6,e7,(q B e4).trans e8,e9.later W,λd F=>?_⟩;rw[Rt hd,if_neg (λe=>n (ok.uniq k i d (by rw[Fv e5];exact F) (by rw[Fv u];exact e)))];exact bb d F;simp only[b]at D Y;split at D<;>split at Y;simp_all;injection D with e;have:=(I.early1 k B Y).2.2.2.1;omega;injection Y with e;have:=(I.early1 j B D).2.2.2.1;omega;exact I.early2 j k B D Y
def Mid.step(ok:Vr ops N l)(ha:Ux P ops=true)(hX: ∀B,X B→B<w0.heap.size){L:Array Bool}{a:Act}{w:World}{Q0:Exit→Act→World→Prop}{ro:Option Nat}(M:Mid P N ops l Q env0 X h0 H0 w0 ds0 L a w){i:Nat}{o:Oper}(n:ops[i]? =some o)(E:L.getD i false=false)
  (Y: ∀e∈o.after,Region.binds .any e=true->L.getD e.on false=true):wpOpIn (FR ro) 0 P ops Q0 i (Mid P N ops l Q env0 X h0 H0 w0 ds0 (L.setIfInBounds i true)) a w:=by
 cases a4:H6 ops i with
 |true=>
  obtain⟨t,bb⟩:=(VO n).1 a4;have hg:=(bq ha n bb).2;obtain⟨l1,l2,v,s,env,H,h,early,I⟩:=M;unfold wpOpIn;rw[n];simp only;have J:Region.wanted o (yielded ops a.tmps)=true:=by unfold Region.wanted;rw[hg]
  rw[J];simp only[if_true];refine(Uv (I.make ok ha n bb E Y) ?_);rintro a' w' ⟨al,I'⟩;exact⟨l1,l2,v,s,env,H,h,al,I'⟩
 |false=>
 obtain⟨l1,l2,v,s,env,H,h,early,I⟩:=M;obtain⟨l1,l2,v,s,env,H,h,early,I,A⟩:=Td ok ha hX n a4 Y l2 l1 v s env H h early I;have G: ∀k,O3 (IE ops.toList []) k i=true->early k=none:=by
  intro k D;by_cases f:k=i;subst f;cases he:early k with
  |none=>rfl
  |some B=>have:=(I.early1 k B he).2.1;rw[E]at this;cases this
  refine I.noEarly ok ?_ k D f;rcases A with h1|⟨r,h1,_⟩;exact .inl h1;exact .inr ⟨r,h1⟩
 unfold wpOpIn;rw[n];simp only;rcases A with a0|⟨r,rfl,J,F,b9,bN,K,a2,b0,b1⟩
 ·obtain⟨o',a8,_,b8⟩:=I.pendq i a0 E;rw[n]at a8;injection a8 with e;subst e;rcases b8 with⟨J,ao⟩|⟨J,rd,ei,_,_,kn,T,W,hQ⟩
  ·rw[I.wanted ok n G Y J];simp only[PG,if_false];exact⟨λ_ _=>trivial,l1,l2,v,s,env,H,h,early,I.done ok n a0 E Y I.sim (HC.refl _ _ _) (by rw[ao];exact .tup rfl λ_ _ _ h=>by cases h)⟩
  ·rw[I.wanted ok n G Y J];simp only[if_true];refine(Uv (hQ (look o ei) H (vP o ei) (λ_ _=>rfl) ro (XR X early) h a w ⟨I.sim,I.look ok n E Y G kn T W,I.size⟩ Q0) ?_);rintro a' w' ⟨c,u,h',H',rfl,⟨rfl,rfl⟩,hv,sim,x⟩;exact⟨l1,l2,v,s,env,_,h',early,I.done ok n a0 E Y sim x hv⟩
 rw[I.wanted ok n G Y J];simp only[if_true];have W:=I.opd ok rfl n;refine(Uv (a2.1 (look o env) (vP o env) ro (XR X early) h a w ⟨I.sim,I.look ok n E Y G I.kn I.keys W,I.size⟩ Q0) ?_);rintro a' w' ⟨c,u,h',H',rfl,T,hv,sim,x⟩;have a7:=ok.nodup;rw[I.split]at a7;have b3:i∉l1:=λhm=>(Py.1 a7).2.2 i hm i k! rfl;have hi:i<L.size:=by rw[I.lsz];exact Ur n
 have hl:=x.later (XR X early);let v':Nat->AZ:=λk=>if k=i then u else v k;have Z: ∀k,k≠i->v' k=v k:=λk T=>by simp[v',T]
 have ao:v' i=u:=by simp[v']
 have hd: ∀t,o.dst=some t->t<a.tmps.size:=λt ht=>by rw[I.size];exact mM ok n t ht
 have ar: ∀t,(env.putO o.dst u).get t=if o.dst=some t then u else env.get t:=by
  intro t;cases o.dst with
  |none=>simp[Env.putO]
  |some d=>simp only[Env.putO,F8,Am];by_cases h:d=t;subst h;simp;rw[if_neg h,if_neg (λe=>h e.symm)]
 refine⟨l1++[i],r,v',s,env.putO o.dst u,H',h',early,?_⟩;refine{split:=by rw[I.split];simp,ra:=b1 u H' T,kn:=I.kn.putO _ _,keys:=λt y m=>?_,env1:=λk g t C=>?_,env2:=λt V=>?_,sim:=sim,nodefer:=?_,size:=(XS _ _ _).trans I.size,slot1:=λk t g b7 C=>?_,slot2:=λt V=>?_,sub:=λj hj b4=>?_,lsz:=by rw[lf];exact I.lsz,closed:=jf I.closed hi n Y,pendq:=λk b5 U=>?_,ext:=I.ext.trans x,early1:=λk B g=>?_,early2:=I.early2};cases R:o.dst with
 |none=>rw[R]at m;exact I.keys t y m
 |some d=>rw[R]at m;simp only[Env.putO,Env.put]at m;rcases Av.1 m with e|m;injection e with e1 _;subst e1;exact mM ok n t R;exact I.keys t y (BM.1 m).1
 rw[ar];rcases Ao.1 g with g|g;have f:k≠i:=λe=>b3 (e▸g);rw[Z k f,if_neg (λe=>f (ok.uniq k i t C (by rw[Fv n];exact e)))];exact I.env1 k g t C;have:k=i:=by simpa using g
 subst this;rw[Fv n]at C;rw[if_pos C,ao];rw[ar];have h1:o.dst≠some t:=by have:=V i k!;rwa [Fv n]at this
 rw[if_neg h1];exact I.env2 t λk T=>V k (Gc _ T);rw[show(a.put o.dst c).defers=a.defers by cases o.dst<;>rfl];exact I.nodefer;rw[Rt hd];rw[G4 hi]at g;by_cases f:k=i;subst f;rw[Fv n]at C;rw[if_pos C,ao];exact hv;rw[if_neg f]at g;rw[if_neg (λe=>f (ok.uniq k i t C (by rw[Fv n];exact e))),Z k f];exact(I.slot1 k t g b7 C).later hl;rw[Rt hd];have G:o.dst≠some t:=by have:=V i (by rw[G4 hi,if_pos rfl]);rwa [Fv n]at this
 rw[if_neg G];refine(I.slot2 t λk T=>V k ?_).later hl;rw[G4 hi];split;rfl;exact T;rw[G4 hi]at hj;by_cases a5:j=i;subst a5;simp;rw[if_neg a5]at hj;exact Gc _ (I.sub j hj b4);rw[G4 hi]at U;by_cases f:k=i;subst f;simp at U;rw[if_neg f]at U;have a6:k∈l1:=by rcases Ao.1 b5 with h|h;exact h;exact(f (by simpa using h)).elim
 obtain⟨ad,a9,b6,A⟩:=I.pendq k a6 U;have ax:O3 (IE ops.toList []) i k=false:=ok.ord l1 (i::r) I.split k a6 i k!;have O: ∀{b:Bool},TJ v ad b->TJ v' ad b:=by
  intro b J;unfold TJ at J⊢;cases hg:ad.guard with
  |none=>rw[hg]at J;exact J
  |some p=>
   obtain⟨j,bl⟩:=p;rw[hg]at J;simp only at J⊢;have:j≠i:=by rintro rfl;have:=(ok.guard k ad j bl a9 hg).1;rw[ax]at this;cases this
   rw[Z j this];exact J
 refine⟨ad,a9,b6,?_⟩;rw[Z k f];rcases A with⟨q1,q2⟩|⟨q1,rd,ei,q2,q3,q4,q5,q6,q7⟩;exact .inl ⟨O q1,q2⟩;refine .inr ⟨O q1,rd,ei,q2,λid S=>DM (q3 id S) (b0 u H' T),q4,q5,λt ht=>?_,λa1 bt he hh=>q7 a1 bt he λid S=>?_⟩;obtain⟨c1,c2⟩:=q6 t ht;refine⟨λq hq b2 D=>?_,c2⟩;rw[c1 q hq b2 D,Z];rintro rfl;rw[ax]at D;cases D;rw[hh id S];apply a2.2 u H' T id (q3 id S);rcases bN (k,rd) q2 with h1|h1;have:=bW I.closed (i+1) i o o! n Y h1;simp only at this;rw[U]at this;cases this;exact h1 id S;obtain⟨e1,e2,e3,e4,o',t,z,bz,e5,e6,e7,e8,e9,bG⟩:=I.early1 k B g;have f:k≠i:=by rintro rfl;rw[E]at e2;cases e2
 refine⟨(Av.1 e1).resolve_left f,by rw[G4 hi,if_neg f];exact e2,e3,DM e4 x.size,o',t,z,bz,e5,e6,e7,?_,e9.later hl,λd a3=>?_⟩;exact(x.keep B e4 (I.sim.out B (.inr ⟨k,g⟩)).2).trans e8;rw[Rt hd,if_neg (λe=>f (ok.uniq k i d (by rw[Fv e5];exact a3) (by rw[Fv n];exact e)))];exact bG d a3
theorem Inv.end_(ok:Vr ops N l)(s:Ux P ops=true)(p: ∀B,X B→B<w0.heap.size){L:Array Bool}{a:Act}{w:World}(e: ∀i,i<ops.size→L.getD i false=true):
  ∀(l2 l1:List Nat) (v:Nat->AZ) (c:List (Nat×List Nat)) (env:Env) (H:Ax) (h:Gh) (early:Nat->Option Nat),Inv P N ops l Q env0 X h0 H0 w0 ds0 l1 l2 v c env H h early L a w->
  ∃o b g,Q b g/\St X o N b g a w/\HC h0 H0 w0 o g w/\a.defers=ds0
 |q::r,l1,v,c,env,H,h,early,I=>by
  cases j:early q with
  |some B=>obtain⟨G,b,g,o,d,y⟩:=I.adopt ok s p j;exact Inv.end_ ok s p e r _ G _ _ g o d y
  |none=>have J:=I.sub q (e q (ok.lt q (by rw[I.split];simp))) j;have E:=ok.nodup;grind[I.split]
 |[],l1,v,c,env,H,h,early,I=>by
  have D: ∀k,early k=none:=by
   intro k;cases C:early k with
   |none=>rfl
   |some B=>have:=(I.early1 k B C).1;cases this
  have n:XR X early=X:=by funext B;apply propext;constructor;rintro(z|⟨k,x⟩);exact z;grind;exact .inl
  have f:=I.sim;rw[n]at f;refine⟨h,env,H,I.ra,⟨f,λt u m=>⟨by rw[I.size];exact I.keys t u m,?_⟩,I.size⟩,I.ext,I.nodefer⟩;rw[<-n,<-I.kn t u m];by_cases F: ∃k∈l1,UK ops k=some t;have⟨k,x,A⟩:=F;rw[I.env1 k x t A];grind[Wq,I.slot1,Ur];grind[I.env2,I.slot2,I.sub]
def Mid.end_(ok:Vr ops N l)(x:Ux P ops=true)(u: ∀B,X B→B<w0.heap.size){w:World}(M:Mid P N ops l Q env0 X h0 H0 w0 ds0 L t w)(hr:Region.ready .any ops L=[]):
  ∃o b g,Q b g/\St X o N b g t w/\HC h0 H0 w0 o g w/\t.defers=ds0:=by
 obtain⟨l1,l2,v,f,env,H,h,early,I⟩:=M;have c: ∀(n i:Nat),i<n->i<ops.size->L.getD i false=true:=by
  intro n;induction n with
  |zero=>intro i h;omega
  |succ n z=>
   intro i q d;cases p:L.getD i false with
   |true=>rfl
   |false=>
    have m:i<L.size:=by rw[I.lsz];exact d
    have j:L.getD i true=false:=by rw[P3,L8 m]at p⊢;simpa using p
    have a:ops[i]? =some (ops[i]):=by simp[d]
    have s:i∈Region.ready .any ops L:=by rw[mem_ready];refine⟨j,_,a,λe y k=>?_⟩;have r:=ok.back i _ a e y k;exact z e.on o! o!
    rw[hr]at s;cases s
 exact Inv.end_ ok x u (λi q=>c (i+1) i o! q) l2 l1 v f env H h early I
theorem rW{p q:Nat->Bool}(h: ∀j,q j=true->p j=true): ∀l:List Nat,(l.filter q).length<=(l.filter p).length
 |[]=>k!
 |y::r=>by have a:=rW h r;grind
theorem filter_lt{p:Nat->Bool}{i:Nat}{q:Nat->Bool}(b: ∀j,q j=(p j&& !decide (j=i))): ∀(l:List Nat),i∈l->p i=true->(l.filter q).length<(l.filter p).length
 |x::r,h,hp=>by
  have d:=rW (p:=p) (q:=q) (λj a=>by rw[b]at a;simp at a;exact a.1) r;by_cases e:x=i;grind;have c:i∈r:=q!
  have f:=filter_lt b r c hp;grind
theorem Mid.any(ok:Vr ops N l)(k:Ux P ops=true)(g: ∀B,X B→B<w0.heap.size){f:Exit→Act→World→Prop}{ro:Option Nat}(e: ∀L a w,Mid P N ops l Q env0 X h0 H0 w0 ds0 L a w→Region.ready .any ops L=[]→f .normal a w):
  ∀(b:Nat) (L:Array Bool) (a:Act) (w:World),((List.range ops.size).filter λi=>!L.getD i false).length<=b->Mid P N ops l Q env0 X h0 H0 w0 ds0 L a w->wpAnyIn (FR ro) 0 P .any ops f b L a w
 |0,L,a,w,hf,M=>by
  have hr:Region.ready .any ops L=[]:=by
   cases u:Region.ready .any ops L with
   |nil=>rfl
   |cons i r=>
    have d:i∈Region.ready .any ops L:=q!
    rw[mem_ready]at d;have:i∈(List.range ops.size).filter λi=>!L.getD i false:=q!
    grind
  exact⟨hr,e L a w M hr⟩
 |b+1,L,a,w,hf,M=>by
  refine⟨λhr=>e L a w M hr,λi d=>?_⟩;rw[mem_ready]at d;have⟨x,o,m,t⟩:=d;have c:L.getD i false=false:=q!
  refine wpOpIn_mono (λs v n=>Mid.any ok k g e b _ s v ?_ n) (Mid.step ok k g M m c t);have:=filter_lt (p:=λi=>!L.getD i false) (i:=i) (q:=λj=>!(L.setIfInBounds i true).getD j false) (λj=>by rw[G4 q!];by_cases h:j=i<;>simp[h]) (List.range ops.size) (Hi.2 (Ur m)) (by simp[c]);omega
def fy{K:Exit→Env→Ax→Prop}(C:P.follows .mixedOrders=true)(l:List Nat)(q:yT ops N l=true)(r:Ux P ops=true)(p:(f.map (·.1)).Nodup)
  (h:RA P N ops l [] f H (K .normal)):Mb P N (.region n ops true) f H K:=by
 intro ro X g a w s _;have ok:=xL q;have b: ∀i,(Array.replicate ops.size false).getD i false=false:=by intro i;rw[P3];by_cases d:i<ops.size;simp[d];simp[d]
 have E:({w with drawn:=w.drawn+1}:World)=w.drew:=rfl;apply wpIn_region_any C;rw[E];refine Mid.any (Q:=K .normal) (env0:=f) (X:=X) (h0:=g) (H0:=H) (w0:=w) (ds0:=a.defers) ok r (λB c=>(s.sim.out B c).1) (λL I O M hr=>?_) ops.size _ a w.drew ?_ ?_;obtain⟨A,S,y,D,F,G,z⟩:=M.end_ ok r (λB c=>(s.sim.out B c).1) hr;exact⟨A,S,y,D,F,G,.same z⟩;exact DH (Fe _ _) k!;have x:=HC.drew (h:=g) (H:=H) (w:=w);have R:XR X (λ_=>none)=X:=by funext B;apply propext;constructor;rintro(c|⟨k,e⟩);exact c;cases e;exact .inl
 refine⟨[],l,λ_=>.any,[],f,H,g,λ_=>none,?_⟩;refine{split:=rfl,ra:=h,kn:=ai p,keys:=(λt u m=>by have:=(s.env t u m).1;rw[s.size]at this;exact this),env1:=(λk e=>by cases e),env2:=λt _=>rfl,sim:=(by rw[R];exact s.sim.drew),nodefer:=rfl,size:=s.size,slot1:=(λk t e _=>by rw[b]at e;cases e),slot2:=λt _=>(by rw[R];exact(fx s.env t).later (x.later X)),sub:=(λi d=>by rw[b]at d;cases d),lsz:=k!,closed:=(λj o J v=>by rw[b]at v;cases v),pendq:=(λi d=>by cases d),ext:=x,early1:=(λi B c=>by cases c),early2:=(λi j B c=>by cases c)}
end
def mc:AZ->List Nat
 | .ptr id _ _=>[id]
 | .sl id _ _ _ _=>[id]
 |_=>[]
def zi(env:Env)(op:Op):List Nat:=op.operands.toList.flatMap λx=>mc (BL env x)
theorem dE(h: ∀t∈tmpsOf o,W.get t=f.get t): ∀x∈o.op.operands,BL W x=BL f x:=by
 intro x b;cases x with
 |tmp t=>apply h t;unfold tmpsOf;rw[OS];exact⟨.tmp t,q!,rfl⟩
 |_=>rfl
def px{l:List Operand}(h: ∀x∈l,BL W x=BL f x):l.map (BL W)=l.map (BL f):=Me h
theorem sN(h: ∀x∈T.operands,BL W x=BL f x):Cb P W H T=Cb P f H T:=by
 cases T with
 |move x=>grind[Cb,Op.operands]
 |assign x=>grind[Cb,Op.operands]
 |pick c a b=>grind[Cb,Op.operands]
 |load t a=>grind[Cb,Op.operands]
 |nilCheck x=>grind[Cb,Op.operands]
 |binOp T t x y E=>grind[Cb,Op.operands]
 |unOp T t x=>grind[Cb,Op.operands]
 |convert s d x=>grind[Cb,Op.operands]
 |fieldAddr s x e=>grind[Cb,Op.operands]
 |field s x e=>grind[Cb,Op.operands]
 |indexAddr t x i=>grind[Cb,Op.operands]
 |index t x i=>grind[Cb,Op.operands]
 |extract x i=>grind[Cb,Op.operands]
 |slice t x u o v=>
  have C:u.map (BL W)=u.map (BL f):=by cases u with|none=>rfl|some y=>simp[h y (by simp[Op.operands])]
  have B:o.map (BL W)=o.map (BL f):=by cases o with|none=>rfl|some y=>simp[h y (by simp[Op.operands])]
  have D:v.map (BL W)=v.map (BL f):=by cases v with|none=>rfl|some y=>simp[h y (by simp[Op.operands])]
  grind[Cb,Op.operands]
 |makeFunc e a b=>simp only[Cb];rw[px λx j=>h x (by simp only[Op.operands];exact Array.mem_append_left _ (by simpa using j)),px λx j=>h x (by simp only[Op.operands];exact Array.mem_append_right _ (by simpa using j))]
 |build t g=>
  simp only[Cb];have:(g.toList.map λp=>(p.1,BL W p.2))=g.toList.map λp=>(p.1,BL f p.2):=Me λp w=>by rw[h p.2 (by simp only[Op.operands,List.mem_toArray,Bh];exact⟨p,w,rfl⟩)]
  rw[this]
 |call c=>
  obtain⟨n,args,k⟩:=c;simp only[Op.operands,Call.operands]at h;cases n with
  |value e=>simp[Cb]
  |invoke r m=>simp[Cb]
  |builtin b=>
   obtain⟨args⟩:=args;obtain⟨k⟩:=k;match args with
   |[]=>simp[Cb]
   |[x]=>
    have j:=h x k!;cases b<;>simp[Cb];match k with
    |[]=>rfl
    |[t]=>simp[j]
    |_::_::_=>rfl
   |[x,y]=>have j:=h x k!;have q:=h y k!;cases b<;>simp[Cb,j,q]
   |[x,y,z]=>have j:=h x k!;have q:=h y k!;have A:=h z k!;cases b<;>simp[Cb,j,q,A]
   |_::_::_::_::_=>cases b<;>rfl
 |_=>rfl
section
variable {P:Program} {H H':Ax}
theorem YS(h:H'[N]? =H[N]?):SP H' N n=SP H N n:=by grind[SP]
theorem vf(h: ∀id∈mc s,H'[id]? =H[id]?):PZ H' s n=PZ H s n:=by cases s<;>simp only[PZ];rw[h _ (by simp[mc])]
theorem qQ(h: ∀id∈mc s,H'[id]? =H[id]?):shift H' n s=shift H n s:=by cases s<;>simp only[shift];grind[YS,mc]
def zR(h: ∀id∈mc s,H'[id]? =H[id]?):pn P H' b s=pn P H b s:=rfl
theorem xI(h: ∀id∈zi f T,H'[id]? =H[id]?):Cb P f H' T=Cb P f H T:=by
 have j: ∀x∈T.operands,∀id∈mc (BL f x),H'[id]? =H[id]? :=λx j id n=>h id (by unfold zi;rw[Hh];exact⟨x,by simpa using j,n⟩);cases T with
 |load t a=>grind[Op.operands,Cb,eJ,vf]
 |nilCheck x=>grind[Op.operands,Cb,YS,mc]
 |convert s d x=>
  have g:=j x (by simp[Op.operands]);have hr:rowsOf H' (BL f x)=rowsOf H (BL f x):=by generalize BL f x=v at g;cases v<;>simp only[rowsOf];grind[mc]
  simp only[Cb,Vv];grind[BL]
 |fieldAddr s x k=>grind[Op.operands,Cb,Un,qQ]
 |indexAddr t x i=>have g:=j x (by simp[Op.operands]);simp only[Cb,Us];split<;>grind[qQ,YS,mc]
 |slice t x p o q=>have g:=j x (by simp[Op.operands]);simp only[Cb];generalize BL f x=v at g;cases v<;>simp only[gY];rw[YS (g _ (by simp[mc]))]
 |call c=>
  obtain⟨l,args,e⟩:=c;simp only[Op.operands,Call.operands]at j;cases l with
  |value k=>simp[Cb]
  |invoke r m=>simp[Cb]
  |builtin b=>
   obtain⟨args⟩:=args;obtain⟨e⟩:=e;match args with
   |[]=>simp[Cb]
   |[x]=>
    have g:=j x k!;cases b<;>simp only[Cb];match e with
    |[]=>rfl
    |[t]=>simp only;exact zR g
    |_::_::_=>rfl
   |[x,y]=>cases b<;>simp[Cb]
   |[x,y,z]=>cases b<;>simp[Cb]
   |_::_::_::_::_=>cases b<;>rfl
 |_=>simp only[Cb]
def Vw{v:AZ}(e:Cb P f H o.op=some v):iz P N o f H (zi f o.op) v:=by intro a b c d;refine Dj (v:=v) ?_ ⟨rfl,rfl⟩;rw[sN (dE c),xI d];exact e
end
section
variable {P:Program} {N:Nat} {o:Oper} {env:Env} {H:Ax} {K:AZ->Ax->Prop}
theorem mQ
  (A:o.op= .call Y) (m:Y.callee= .value g) (G:BL env g= .fn (.func p) d Z) (D:Enters P p=true)
  (E:EJ P p (kU env Y d Z) H K):JC P N o env H K:=by
 apply C2 (by rw[A];rfl);intro X h a w s Q;have k:=DA s.env g;rw[G]at k
 obtain⟨b,e,r,t,C,I,J⟩: ∃b e,a.eval g= .func (.func p) b e∧b.size=d.length∧e.size=Z.length∧
   (∀(j:Nat) (v:AZ) (Y:Value),d[j]? =some v->b[j]? =some Y->Bp (cx X h H w) v Y)/\(∀(j:Nat) (v:AZ) (Y:Value),Z[j]? =some v->e[j]? =some Y->Bp (cx X h H w) v Y):=by
  generalize a.eval g=cf at k;cases k<;>grind
 have q:(execOp a.eval o).run P w= .ok (.enter p (b++Y.args.map a.eval++e)) w:=by unfold execOp;rw[A];simp only[resolve,m,r,Deferred.ofValue,Sem.run_bind,Sem.run_pure,Result.andThen_ok,invoke,WN D]
 unfold Oper.wp;rw[q];simp only[Oper.upon_enter];have i: ∀(j:Nat) (v:AZ) (c:Value),(kU env Y d Z)[j]? =some v->(b++Y.args.map a.eval++e)[j]? =some c->Bp (cx X h H w) v c:=by
  intro j v c l n;unfold kU at l;rcases Aw j (d.length+Y.args.size)with y|u;rw[CO w!]at l;rw[U3 w!]at n;rcases Aw j d.length with z|f
  grind;rw[Ch f,CD]at l;rw[oh o!,Wl,t]at n;cases B:Y.args[j-d.length]? with
  |none=>grind
  |some x=>rw[B]at n;rw[Nd,B]at l;simp only[Bl,Am]at l n;subst l n;exact DA s.env x
  grind
 refine(E X h w _ s.sim ?_ i).mono ?_;simp[kU,t,C];grind
def Rw(P:Program)(env:Env)(t:TypeId)(len:Nat)(parts:Array (Nat×Operand)):Option (Nat×List AZ):=
 match eI P t with
 |some (none,e,sz)=>
  let vs:=parts.toList.map λp=>BL env p.2
  if 0<sz/\RI P e=true/\parts.toList.map (·.1)=List.range len/\(vs.all λv=>v.solid&&decide (v.cells.length=sz))=true/\len<=4096/\sz<=4096 then some (sz,vs)else none
 |_=>none
theorem UL{len sz:Nat}{vs:List AZ}(c:o.op= .buildSlice b len q)(d:Rw P env b len q=some (sz,vs))(t:K (.vs sz vs) H):JC P N o env H K:=by grind[Rw,JC.buildSlice]
theorem ak{t:TypeId}{len sz:Nat}{f:Array (Nat×Operand)}{T:List AZ}(ho:o.op= .buildSlice t len f)(r:Rw P env t len f=some (sz,T))
  (hk:K (.sl H.length 0 sz 0 T.length) (H++[.live 0 (T.flatMap AZ.cells)])):JC P N o env H K:=by
 unfold Rw at r;split at r
 case h_2=>cases r
 rename_i e y he;simp only at r;split at r
 case isFalse=>cases r
 rename_i L;obtain⟨a7,a5,F,bb,O⟩:=L;simp only[Am,Du]at r;obtain⟨rfl,a'⟩:=r;have ar: ∀v∈T,v.solid=true/\v.cells.length=y:=λv S=>by grind[List.all_eq_true]
 apply C2 (by rw[ho];rfl);intro X h a w s Q;obtain⟨ax,b,hi⟩:=P7 he;obtain⟨i,z,G,_,hz,bl⟩:=TE a5;have B:=iS hi G;have hl:T.length=len:=by have k:=congrArg List.length F;grind[List.length]
 let A:List Value:=f.toList.map λp=>a.eval p.2;have V:A.length=len:=by grind[List.length]
 have R: ∀(j:Nat) (v:AZ) (c:Value),T[j]? =some v->A[j]? =some c->Bp (cx X h H w) (.agg v.cells) (.agg c.cells)/\v.cells.length=y:=by
  intro j v c S L;have Z:=ar v (BP S);refine⟨?_,Z.2⟩;subst a';simp only[A,CD]at S L;cases r:f.toList[j]? with
  |none=>rw[r]at S;cases S
  |some p=>rw[r]at S L;simp only[Bl,Am]at S L;subst S L;exact VT (DA s.env p.2) Z.1
 have J: ∀c∈A,c.cells.size=y:=by
  intro c L;obtain⟨j,g⟩:=Dm L;have Y:j<T.length:=by grind[Nat.lt_or_ge,List.getElem?_eq_none]
  obtain⟨k,n⟩:=R j _ c (Au Y) g;cases k<;>grind
 have a0:(f.map λ(q:Nat×Operand)=>(q.1,a.eval q.2)).toList=(A.zipIdx 0).map λx=>(x.2,x.1):=by
  apply H7;intro j;simp only[Array.toList_map,CD,List.getElem?_zipIdx,EL,A];cases r:f.toList[j]? with
  |none=>rfl
  |some p=>
   have k:(f.toList.map (·.1))[j]? =some p.1:=by rw[CD,r];rfl
   rw[F]at k;have Y:j<len:=by rcases Aw j len with n|n;exact n;rw[Cn (by simpa using n)]at k;cases k
   rw[QY Y]at k;simp only[Am]at k;simp[k]
 have C: ∀l:List Value,(∀c∈l,c.cells.size=y)->(l.flatMap λc=>c.cells.toList).length=l.length*y:=by
  intro l;induction l with
  |nil=>simp
  |cons c l ih=>intro hl;simp only[Iq,Ag,Dk,hl c k!,ih (λd M=>hl d (Cd _ M)),Bo,FN];omega
 have W:(A.flatMap λc=>c.cells.toList).length=len*y:=by rw[C A J,V]
 have I: ∃D:Array Value,(execOp a.eval o).run P w= .ok (.value (.slice (some ⟨w.heap.size,0,none⟩) len len)) {w with heap:=w.heap.push (.cells D e)}/\D.toList=A.flatMap λc=>c.cells.toList:=by
  unfold execOp;rw[ho];by_cases h0:len=0;subst h0;have:A=[]:=EP V;refine⟨#[],?_,by rw[this];rfl⟩;have r:f= #[]:=by have k:=congrArg List.length F;simp at k;exact k
  simp[Instr.buildSlice,run_underlying ax,K7 hi,r,Instr.fill,newRow,show Array.range 0= #[]from rfl];refine⟨(A.flatMap λc=>c.cells.toList).toArray,?_,rfl⟩;have al: ¬len*i.size=0:=by rw[B];exact Nat.mul_ne_zero h0 o!
  have a6: ¬len*i.size>2^24:=by rw[B];have:=jW O.1 O.2;omega
  have hf:=Go.Great.fill_whole (s:=y) a7 A ((Array.range (len*i.size)).map (z.cells[· %z.cells.size]!)) J (by simp[V,B]);have:=run_buildSlice (P:=P) w t e len (f.map λ(q:Nat×Operand)=>(q.1,a.eval q.2)) _ i z ax G hz a6 al (by rw[a0,B]at*;exact hf);simp only[Sem.run_bind];rw[show(f.map λx=>match x with|(i,x)=>(i,a.eval x))=(f.map λ(q:Nat×Operand)=>(q.1,a.eval q.2))from rfl,this];rfl
 obtain⟨D,I,ad⟩:=I;unfold Oper.wp;rw[I,Oper.upon_value]
 have U: ∀(l:List AZ) (m:List Value),m.length=l.length→(∀(j:Nat) (v:AZ) (c:Value),l[j]? =some v→m[j]? =some c→Bp (cx X h H w) (.agg v.cells) (.agg c.cells))→
   Bp (cx X h H w) (.agg (l.flatMap AZ.cells)) (.agg (m.flatMap λc=>c.cells.toList).toArray):=by
  intro l;induction l with
  |nil=>intro m Z _;have:m=[]:=EP (by simpa using Z);subst this;exact .agg rfl (λj c g=>by simp at g) λj v c g=>by simp at g
  |cons v l ih=>
   intro m Z hr;cases m with
   |nil=>simp at Z
   |cons c m=>
    have r0:=hr 0 v c rfl rfl;have r1:=ih m (by simpa using Z) λj v' c' k n=>hr (j+1) v' c' (by simpa using k) (by simpa using n);cases r0 with
    |agg ao a2 a8=>
     cases r1 with
     |agg a4 a3 a9=>
      have e2:(m.flatMap λc=>c.cells.toList).length=(l.flatMap AZ.cells).length:=by simpa using a4
      refine .agg (by simp[e2,ao]) (λj d g=>?_) λj u d g M=>?_;simp only[Iq,Zx]at g;rcases Aw j c.cells.size with n|n;rw[CO (by simpa using n)]at g;exact a2 j d (by simpa using g);rw[Ch (by simpa using n)]at g;exact a3 _ d (by simpa using g);simp only[Iq,Zx]at g M;rcases Aw j c.cells.size with n|n;rw[CO (by simpa using n)]at M;rw[CO o!]at g;exact a8 j u d g (by simpa using M);rw[Ch (by simpa using n)]at M;rw[Ch o!]at g;rw[Dk,ao]at M;exact a9 _ u d g (by simpa using M)
 have a1:=U T A o! λj v c k n=>(R j v c k n).1;have E:D=(A.flatMap λc=>c.cells.toList).toArray:=by rw[<-ad]
 have hh:=Pf a1;rw[<-E]at hh;refine⟨_,_,_,_,rfl,hk,.sl (by simp[cx]) (by simp[cx,Gh.at_]) ⟨_,_,by rw[hl]⟩ λ_=>.inr ⟨w.heap.size,len,by simp[cx,Gh.at_],o!,?_,by rw[hl]⟩,s.sim.push D e (0,0) _ hh,HC.push _ _ _⟩;simp only[cx,Gh.at_,if_true,E,bi,W];omega
theorem ia{y:Operand}{U:IntKind}{sz:Nat}(ho:o.op= .makeSlice b g y)(he:eI P b=some (none,V,sz))(ax:0<sz)(M:RI P V=true)(hz:XZ P V=some d)(R:d.length=sz)
  (hx:BL env g= .int C i) (hy:BL env y= .int U a) (h0:0<=i) (h1:i<=a) (h2:a<=16777216) (hk:K (.sl H.length 0 sz 0 i.toNat) (H++[.live 0 (List.replicate i.toNat d).flatten])):JC P N o env H K:=by
 apply C2 (by rw[ho];rfl);intro X h c w s Q;obtain⟨O,x,hi⟩:=P7 he;obtain⟨t,zv,l,ad,T,S⟩:=TE M;have k:=iS hi l;obtain⟨n,e,ao,a0,D⟩:=bd (cx X h H w) hz;have:n=t:=by grind[Option.some.inj]
 subst this;have:e=zv:=by grind[Option.some.inj]
 subst this;have W:=DA s.env g;have Y:=DA s.env y;rw[hx]at W;rw[hy]at Y;have ex:c.eval g= .int C i:=by generalize c.eval g=q at W;cases W;rfl
 have ey:c.eval y= .int U a:=by generalize c.eval y=q at Y;cases Y;rfl
 have F:(n.bytes:Int)*a<=281474976710656:=by have:(n.bytes:Int)*a<=1048576*16777216:=Int.mul_le_mul o! h2 o! o!;omega
 have Z:=run_make (P:=P) w b V n e O l T C U i a h0 h1 F o!;have G:(execOp c.eval o).run P w= .ok (.value (.slice (some ⟨w.heap.size,0,none⟩) i.toNat a.toNat)) (w.alloc (.cells (madeCells e.cells (a.toNat*n.size)) V)):=by unfold execOp;grind[Sem.run_bind,Result.andThen_ok,Sem.run_pure]
 unfold Oper.wp;rw[G,Oper.upon_value];have p:e.cells.size=sz:=by rw[S,k]
 have hh:Holds (cx X h H w) (List.replicate i.toNat d).flatten (madeCells e.cells (a.toNat*n.size)) (0,0):=by
  have I:(List.replicate i.toNat d).flatten.length=i.toNat*sz:=by simp[R]
  have A:i.toNat*sz<=a.toNat*n.size:=by rw[k];exact OV _ o!
  have B: ∀(m j:Nat),j<m*sz->(List.replicate m d).flatten[j]? =d[j%sz]? :=by
   intro m;induction m with
   |zero=>intro j E;omega
   |succ m ih=>intro j E;rw[jS,mA];rcases Aw j sz with ar|al;grind[List.getElem?_append_left,Nat.mod_eq_of_lt];grind[List.getElem?_append_right,Nat.add_mul,Nat.mod_eq_sub_mod]
  refine⟨λj=>e.cells.getD (j%sz) undef,by rw[I,size_madeCells];exact A,λ_ _=>k!,λj v E=>?_⟩;have z:j<i.toNat*sz:=by grind[Nat.lt_or_ge,List.getElem?_eq_none]
  rw[B _ _ z]at E;have u:j%sz<e.cells.size:=by grind[Nat.mod_lt]
  have f:e.cells[j%sz]? =some (e.cells[j%sz]'u):=L8 u;have J:e.cells.getD (j%sz) undef=e.cells[j%sz]'u:=by rw[P3,f];rfl
  have r:(madeCells e.cells (a.toNat*n.size))[j]? =some (e.cells[j%sz]'u):=by
   unfold madeCells;rw[Wl,Array.getElem?_range,if_pos (DM z A)];have L:j%e.cells.size<e.cells.size:=by rw[p];rw[p]at u;exact u
   rw[Bl,getElem!_pos e.cells _ L];simp only[p]
  simp only[J];cases D with
  |agg q1 q2 q3=>exact⟨r,q2 _ _ f,q3 _ _ _ E f⟩
 refine⟨_,_,_,_,rfl,hk,.sl (by simp[cx]) (by simp[cx,Gh.at_]) ⟨_,_,rfl⟩ λ_=>.inr ⟨w.heap.size,a.toNat,by simp[cx,Gh.at_],o!,?_,rfl⟩,s.sim.push _ V (0,0) _ hh,HC.push _ _ _⟩;simp[cx,Gh.at_,size_madeCells,k]
end
section
variable {X:Nat->Prop} {h:Gh} {H:Ax} {w:World}
def Ix.loopSet(s:Ix X h H w){L:iy}{r:Loop}(g:H[N]? =some (.lp L))(f:h.io N=some n)(C:w.heap[n]? =some (.loop r))(st:LoopState)(p:Option Code):
  Ix X h (H.set N (.lp {L with state:=st,pending:=p})) (w.putObj n (.loop {r with state:=st,pending:=p}))/\HC h H w h (H.set N (.lp {L with state:=st,pending:=p})) (w.putObj n (.loop {r with state:=st,pending:=p})):=by
 have d:N<H.length:=by rcases Aw N H.length with c|c;exact c;rw[Cn c]at g;cases g
 have D:HC h H w h (H.set N (.lp {L with state:=st,pending:=p})) (w.putObj n (.loop {r with state:=st,pending:=p})):=by refine⟨rfl,rfl,rfl,k!,λk M hn=>?_,k!,λ_ _=>Aq _,λ_ _ _=>⟨rfl,rfl⟩,λk T=>?_,λk y O=>?_⟩;refine World.putObj_heap_other λe=>?_;subst e;exact hn ⟨N,_,g,k!,f⟩;obtain⟨i,e,l,j,c⟩:=T;rcases JB d l with⟨G,b⟩|⟨rfl,_⟩;exact .inl ⟨i,e,b,j,c⟩;exact .inl ⟨i,_,g,k!,c⟩;by_cases e:k=n;subst e;exact⟨_,World.putObj_heap_same (oI C)⟩;exact⟨y,by rw[World.putObj_heap_other e,O]⟩
 refine⟨s.of_ext D (λi e l j=>?_) (λi P z A k l c u x B o=>?_),D⟩;rcases JB d l with⟨G,b⟩|⟨rfl,rfl⟩;refine .inl ⟨b,rfl,rfl,rfl,λE a=>World.putObj_heap_other λe=>?_⟩;subst e;exact G (s.inj i N _ _ E b g j k! a f);obtain⟨K,E,S,a,q,l,c,B,o,I,J,F⟩:=s.lp i L g;rw[show(cx X h H w).io i=h.io i from rfl,f]at a;injection a with e;subst e;rw[show(cx X h H w).w.heap=w.heap from rfl,C]at q;injection q with e;injection e with e;subst e;refine .inr (.inr ⟨_,rfl,K,n,_,f,World.putObj_heap_same (oI C),rfl,rfl,B,o,I,J,λt v m=>⟨(F t v m).1,(F t v m).2.later (D.later X)⟩⟩);rcases JB d l with⟨Q,z⟩|⟨rfl,_⟩<;>rcases JB d c with⟨R,A⟩|⟨rfl,_⟩;exact s.inj _ _ _ _ k z A u x B o;exact s.inj _ _ _ _ k z g u k! B o;exact s.inj _ _ _ _ k g A k! x B o;rfl
def Ix.kill(s:Ix X h H w)(a:N<H.length):Ix X h (H.set N .dead) w/\HC h H w h (H.set N .dead) w:=by
 have n:HC h H w h (H.set N .dead) w:=by refine⟨rfl,rfl,rfl,Aq _,λk r hn=>rfl,k!,λ_ _=>Aq _,λ_ _ _=>⟨rfl,rfl⟩,λk t=>?_,λk y u=>⟨y,u⟩⟩;obtain⟨i,e,d,b,j⟩:=t;rcases JB a d with⟨q,c⟩|⟨rfl,rfl⟩;exact .inl ⟨i,e,c,b,j⟩;exact(b rfl).elim
 refine⟨s.of_ext n (λi e d b=>?_) (λi x l m k d j f g o p=>?_),n⟩;rcases JB a d with⟨q,c⟩|⟨rfl,rfl⟩;exact .inl ⟨c,rfl,rfl,rfl,λv _=>rfl⟩;exact(b rfl).elim;rcases JB a d with⟨z,l⟩|⟨rfl,rfl⟩;rcases JB a j with⟨A,m⟩|⟨rfl,rfl⟩;exact s.inj _ _ _ _ k l m f g o p;exact(g rfl).elim;exact(f rfl).elim
end
def Qi:Env->List Tmp->List AZ->Env
 |env,t::ts,v::vs=>Qi (env.put t v) ts vs
 |env,_,_=>env
theorem jK{x:Cx}: ∀(d:List Tmp) (e:List AZ) (b:List Value) (env:Env) (a:Act),(∀t∈d,t<a.tmps.size)→b.length=e.length→
  (∀(j:Nat) (v:AZ) (c:Value),e[j]? =some v->b[j]? =some c->Bp x v c)->NZ x env a->
  NZ x (Qi env d e) {a with tmps:=(d.zip b).foldl (λ(tmps:Array Value) (q:Tmp×Value)=>tmps.setIfInBounds q.1 q.2) a.tmps}
 |[],e,b,env,a,_,_,_,h=>by simpa[Qi]using h
 |t::d,[],b,env,a,_,hl,_,h=>by have:b=[]:=EP q!;subst this;simpa[Qi]using h
 |t::d,v::e,c::b,env,a,ht,hl,hr,h=>by
  have f:=h.put (ht t k!) (hr 0 v c rfl rfl);exact jK d e b (env.put t v) (a.put (some t) c) (λu i=>by rw[XS];exact ht u (Cd _ i)) q!
   (λj k g f l=>hr (j+1) k g q! q!) f
def gE: ∀(l:List (Tmp×Value)) (a:Array Value),(l.foldl (λ(tmps:Array Value) (q:Tmp×Value)=>tmps.setIfInBounds q.1 q.2) a).size=a.size
 |[],a=>rfl
 |q::l,a=>by rw[WV,gE l];simp
def ABu(id:Nat)(K:AZ->Ax->Prop):Exit->Env->Ax->Prop
 | .normal,_,H=> ∃L,H[id]? =some (.lp L)/\K (.bool true) (H.set id (.lp {L with state:=.ready,pending:=none}))
 | .ret,_,H=> ∃L,H[id]? =some (.lp L)/\K (.bool false) (H.set id (.lp {L with state:=.done,pending:=some .ret}))
 | .exit k,_,H=> ∃L,H[id]? =some (.lp L)/\K (.bool false) (H.set id (.lp {L with state:=.done,pending:=some (.exit k)}))
 |_,_,_=>False
section
variable {P:Program} {N:Nat} {o:Oper} {env:Env} {H:Ax} {K:AZ->Ax->Prop}
theorem JC.yield{L:iy}(ho:o.op= .call Y)(O:Y.callee= .value g)(hf:BL env g= .yf n)(he:H[n]? =some (.lp L))
  (hn:Y.args.size=L.params.size) (a6:(L.params.toList.all λt=>decide (t<L.n))=true)
  (hw:Mb P L.n L.assign (Qi L.env L.params.toList (Y.args.toList.map (BL env))) H λe env1 H1=>e= .normal/\ ∃A,H1[n]? =some (.lp A)/\A.state= .ready/\Mb P L.n L.body env1 (H1.set n (.lp {A with state:=.busy})) (ABu n K)):JC P N o env H K:=by
 intro ro X h a w s Q;obtain⟨hg,B,r,F,hb,h1,h2,h3,h4,h5,h6,h7⟩:=s.sim.lp n L he;have F:h.io n=some B:=F;have hb:w.heap[B]? =some (.loop r):=hb;have G:=DA s.env g;rw[hf]at G;have al:a.eval g= .func (.yield B) #[] #[]:=by generalize a.eval g=cf at G;cases G<;>grind
 have c:(execOp a.eval o).run P w= .ok (.round B r.fn ((r.params.zip (Y.args.map a.eval)).foldl (λtmps (t,a)=>tmps.setIfInBounds t a) r.tmps) r.assign r.body) w:=by unfold execOp;rw[ho];simp only[resolve,O,al,Deferred.ofValue,Sem.run_bind,Sem.run_pure,Result.andThen_ok,invoke];rw[show(#[]++Y.args.map a.eval:Array Value)=Y.args.map a.eval by simp];exact run_yield hb (by rw[Array.size_map,hn,h3])
 refine⟨λ_ _=>trivial,?_⟩;rw[Oper.semAt_eq _ _ _ (λY hc=>by rw[ho]at hc;cases hc),c,Oper.uponIn_round];refine⟨(λh=>by cases h),?_⟩;let R:Ending->World->Prop:=λe I=> ∃Y v y M,e= .returned Y/\K v M/\Bp (cx X y M I) v Y/\Ix X y M I/\HC h H w y M I;refine RoundIn.mono (R:=R) ?_ (by rintro e I ⟨c',v,y,M,rfl,k,hv,hs,hx⟩;exact⟨c',v,y,M,rfl,k,hv,hs,hx⟩);apply roundIn_of_wpIn trivial;have a4:((r.params.zip (Y.args.map a.eval)).foldl (λtmps (t,a)=>tmps.setIfInBounds t a) r.tmps)=((L.params.toList.zip (Y.args.toList.map a.eval)).foldl (λ(tmps:Array Value) (q:Tmp×Value)=>tmps.setIfInBounds q.1 q.2) r.tmps):=by grind[Array.toList_zip,Array.toList_map]
 rw[a4,h4,h5];have Z:St X h L.n (Qi L.env L.params.toList (Y.args.toList.map (BL env))) H {tmps:=(L.params.toList.zip (Y.args.toList.map a.eval)).foldl (λ(tmps:Array Value) (q:Tmp×Value)=>tmps.setIfInBounds q.1 q.2) r.tmps,defers:=[]} w:=by
  refine⟨s.sim,?_,by rw[gE,h6]⟩;refine jK (x:=cx X h H w) L.params.toList (Y.args.toList.map (BL env)) (Y.args.toList.map a.eval) L.env {tmps:=r.tmps,defers:=[]} (λt ht=>?_) k! (λj v d hj hd=>?_) (λt v m=>⟨by rw[h6];exact(h7 t v m).1,(h7 t v m).2⟩);grind;rw[CD]at hj hd;cases hx:Y.args.toList[j]? with
  |none=>grind
  |some x=>rw[hx]at hj hd;simp only[Bl,Am]at hj hd;subst hj hd;exact DA s.env x
 refine wpIn_mono (hw (some B) X h _ w Z λl e=>by injection e with e;subst e;exact⟨r,hb⟩) ?_;rintro e a1 w1 ⟨y,env1,H1,⟨rfl,A,S,a3,E⟩,s1,x1,_⟩;obtain⟨U,J,r1,f,p,q1,q2,q3,q4,q5,q6,q7⟩:=s1.sim.lp n A S;have f:y.io n=some J:=f;have p:w1.heap[J]? =some (.loop r1):=p;have V:n<H.length:=by rcases Aw n H.length with h2|h2;exact h2;grind[List.getElem?_eq_none]
 have eB:J=B:=by have:=(x1.same n V (by rw[show y.gen n=0 from U,show h.gen n=0 from hg])).1;rw[f,F]at this;injection this
 subst eB;obtain⟨ax,ad⟩:=s1.sim.loopSet S f p .busy A.pending;have ar:({r1 with state:=.busy}:Loop)={r1 with state:=.busy,pending:=A.pending}:=by rw[<-q2]
 refine⟨_,run_beginRound p (by rw[q1,a3]),?_⟩;rw[ar];refine wpIn_mono (E (some J) X y a1 _ ⟨ax,s1.env.later (ad.later X),s1.size⟩ λl e=>by injection e with e;subst e;exact⟨_,World.putObj_heap_same (oI p)⟩) ?_;rintro e a2 w2 ⟨D,env2,H2,q,s2,x2,_⟩
 have C: ∀(b:Option Code) (u:iy),H2[n]? =some (.lp u)→K (.bool b.isNone) (H2.set n (.lp {u with state:=if b.isNone then .ready else .done,pending:=b}))→
   ∃v I,(Instr.endRound J b).run P w2= .ok v I/\R (.returned v) I:=by
  intro b u T hk;obtain⟨ao,B2,r2,i,z,p1,p2,p3,p4,p5,p6,p7⟩:=s2.sim.lp n u T;have i:D.io n=some B2:=i;have z:w2.heap[B2]? =some (.loop r2):=z;have W:n<H1.length:=DM V x1.n;have eB:B2=J:=by have:=(x2.same n (by simpa using W) (by rw[show D.gen n=0 from ao,show y.gen n=0 from U])).1;rw[i,f]at this;injection this
  subst eB;obtain⟨a0,a5⟩:=s2.sim.loopSet T i z (if b.isNone then .ready else .done) b;exact⟨_,_,run_endRound b z,_,_,D,_,rfl,hk,.bool _,a0,((x1.trans ad).trans x2).trans a5⟩
 cases e with
 |normal=>obtain⟨u,q1,q2⟩:=q;exact C none u q1 q2
 |ret=>obtain⟨u,q1,q2⟩:=q;exact C (some .ret) u q1 q2
 |exit k=>obtain⟨u,q1,q2⟩:=q;exact C (some (.exit k)) u q1 q2
 |_=>exact q.elim
end
section
variable {P:Program} {N:Nat} {env:Env} {H:Ax} {Q:Exit->Env->Ax->Prop}
def ABn(P:Program)(N:Nat)(env:Env)(id:Nat)(Q:Exit->Env->Ax->Prop)(H:Ax):Prop:=
 ∃L,H[id]? =some (.lp L)/\L.state≠ .busy/\(match L.pending with
  |none=>Q .normal env (H.set id .dead)
  |some c=>Mb P N c env (H.set id .dead) Q)
def wU{args:Array Value}{R:Ending->World->Prop}(h:Calls P p args j R):CallsIn (FR m) n P p args j R:=by
 have a:CallsIn Fence.wide n P p args j R:=callsIn_wide.2 h;cases m with
 |none=>exact a
 |some l=>exact a
theorem iZ{f:Operand}{z:Array Tmp}{assign body:Code}{first o:List AZ}{G:FuncId}(env0:Env)(ao: ∀p∈env0,p∈env)(hf:BL env f= .fn (.func G) first o)(hE:Enters P G=true)
  (V:EJ P G (first++[.yf H.length]++o) (H++[.lp ⟨N,env0,z,assign,body,.ready,none⟩]) λ_ E=>ABn P N env H.length Q E):Mb P N (.rangeFunc f z assign body) env H Q:=by
 intro r X h a w s k;have Z:=DA s.env f;rw[hf]at Z
 obtain⟨b,g,ar,n1,n2,a1,a2⟩: ∃b g,a.eval f= .func (.func G) b g∧b.size=first.length∧g.size=o.length∧
   (∀(j:Nat) (v:AZ) (c:Value),first[j]? =some v->b[j]? =some c->Bp (cx X h H w) v c)/\(∀(j:Nat) (v:AZ) (c:Value),o[j]? =some v->g[j]? =some c->Bp (cx X h H w) v c):=by
  generalize a.eval f=cf at Z;cases Z<;>grind
 have M: ∀(i:World) (u:Loop) (mark:List Deferred),Ix X h H i→HC h H w h H i→u.state= .ready→u.pending=none→u.tmps=a.tmps→u.params=z→u.assign=assign→u.body=body→mark.Nodup→
   (∀d∈mark,∃D,d={target:=.collected D,args:= #[]}/\w.heap.size<=D/\i.heap[D]? =some (.deferred (some [])))->
   CallsIn (FR r) (0-1) P G (b++ #[.func (.yield i.heap.size) #[] #[]]++g) (i.alloc (.loop u))
    (rangePost (FR r) 0 P i.heap.size (λe a' w'=> ∃I F E,Q e F E/\St X I N F E a' w'/\HC h H w I E w'/\YU a w a' w') {a with defers:=mark++a.defers}):=by
  intro i u mark s0 C e1 e2 e3 e4 e5 e6 ax Y;have xp:=HC.push (h:=h) (H:=H) (w:=i) (.loop u) 0 (.lp ⟨N,env0,z,assign,body,.ready,none⟩);have sp:=s0.push_any (.loop u) 0 (.lp ⟨N,env0,z,assign,body,.ready,none⟩) λ_=>.inr ⟨_,rfl,by simp[cx,Gh.at_],i.heap.size,u,by simp[cx,Gh.at_],by show(i.heap.push (.loop u))[i.heap.size]? =_;simp,e1,e2,e4,e5,e6,by rw[e3];exact s.size,λt v m=>by obtain⟨m1,m2⟩:=s.env t v (ao _ m);refine⟨by rw[<-s.size];exact m1,?_⟩;rw[e3];exact m2.later ((C.trans xp).later X)⟩;have ea:i.alloc (.loop u)={i with heap:=i.heap.push (.loop u)}:=rfl;rw[ea];generalize a6:({i with heap:=i.heap.push (.loop u)}:World)=W1 at xp sp;generalize a7:h.at_ H.length (some i.heap.size) 0 0=g1 at xp sp;have S:g1.gen H.length=0/\g1.io H.length=some i.heap.size:=by grind[Gh.at_]
  have hl:=(C.trans xp).later X;have a0:(b++ #[Value.func (.yield i.heap.size) #[] #[]]++g).size=(first++[AZ.yf H.length]++o).length:=by simp[n1,n2];omega
  have T: ∀(j:Nat) (v:AZ) (c:Value),(first++[AZ.yf H.length]++o)[j]? =some v->(b++ #[Value.func (.yield i.heap.size) #[] #[]]++g)[j]? =some c->Bp (cx X g1 (H++[.lp ⟨N,env0,z,assign,body,.ready,none⟩]) W1) v c:=by
   intro j v c J y;rcases Aw j (first.length+1)with a5|a3;rw[CO w!]at J;rw[U3 w!]at y;rcases Aw j first.length with al|a4
   rw[CO al]at J;rw[U3 o!]at y;exact(a1 j v c J y).later hl;have:j=first.length:=o!
   subst this;rw[Ch (Aq _),Ge]at J;rw[oh o!,n1,Ge]at y;simp at J y;subst J y;exact .yf (by simp[cx]) rfl λ_=>⟨i.heap.size,S.2,rfl⟩
   rw[Ch w!]at J;rw[oh w!]at y;refine(a2 _ v c ?_ y).later hl;simpa[n1]using J
  have hC:=V X g1 W1 _ sp a0 T;apply (wU hC).mono;rintro e w' ⟨c,v,I,E,rfl,⟨L,hL,U,hQ⟩,sc,rv,x⟩;obtain⟨hg,B,O,A,hb,q1,q2,q3,q4,q5,q6,q7⟩:=sc.lp H.length L hL;have A:I.io H.length=some B:=A;have hb:w'.heap[B]? =some (.loop O):=hb;have eB:B=i.heap.size:=by have:=(x.same H.length k! (by rw[show I.gen H.length=0 from hg,S.1])).1;rw[A,S.2]at this;injection this
  subst eB;obtain⟨s2,x2⟩:=sc.loopSet hL A hb .exhausted O.pending;have ad:H.length<(E.set H.length (.lp {L with state:=.exhausted,pending:=O.pending})).length:=by have:=x.n;simp at this⊢;omega
  obtain⟨s3,x3⟩:=s2.kill ad;rw[Wg]at s3 x3;have R:=((xp.trans x).trans x2).trans x3;have st:St X I N env (E.set H.length .dead) {a with defers:=mark++a.defers} (w'.putObj i.heap.size (.loop {O with state:=.exhausted,pending:=O.pending})):=⟨s3,λt v m=>⟨(s.env t v m).1,(s.env t v m).2.later ((C.trans R).later X)⟩,s.size⟩
  have df:YU a w {a with defers:=mark++a.defers} (w'.putObj i.heap.size (.loop {O with state:=.exhausted,pending:=O.pending})):=by refine⟨mark,rfl,ax,λd hd=>?_⟩;obtain⟨D,h1,h2,h3⟩:=Y d hd;exact⟨D,h1,h2,R.defs s0 h3⟩
  refine⟨O.pending,_,run_endLoop hb (by rw[q1];exact U),?_⟩;rw[q2]at*;cases hp:L.pending with
  |none=>rw[hp]at hQ st df R;exact⟨I,env,_,hQ,st,C.trans R,df⟩
  |some cd=>rw[hp]at hQ st df R s3;apply wpIn_mono (hQ r X I _ _ st (k.later (C.trans R)));rintro e' a' a8 ⟨h2,env2,H2,q,s',x',d'⟩;exact⟨h2,env2,H2,q,s',(C.trans R).trans x',df.trans s3 (C.trans R) x' d'⟩
 have K: ∀(l:Nat) (W:World),(resolve a.eval (rangeCall f l) 0).run P W= .ok {target:=.fn (.func G) g,args:=b++ #[.func (.yield l) #[] #[]]} W:=by intro l W;have y:a.eval (.const (.func (.yield l) #[] #[]))= .func (.yield l) #[] #[]:=rfl;simp[resolve,ar,y,Deferred.ofValue]
 refine wpIn_rangeFunc λfn _=>?_;cases r with
 |none=>
  have C:HC h H w h H (w.alloc (.deferred (some []))):=HC.grow rfl rfl rfl (by show _<=(w.heap.push _).size;simp) λk hk=>by show(w.heap.push _)[k]? =_;grind
  have s0:Ix X h H (w.alloc (.deferred (some []))):=s.sim.grow rfl rfl rfl (by show _<=(w.heap.push _).size;simp) λk hk=>by show(w.heap.push _)[k]? =_;rw[SX,if_neg o!]
  have hm:=M (w.alloc (.deferred (some []))) {state:=.ready,pending:=none,fn,tmps:=a.tmps,params:=z,assign,body,defers:=w.heap.size} [{target:=.collected w.heap.size,args:= #[]}] s0 C rfl rfl rfl rfl rfl rfl k! λd hd=>by simp only[BC]at hd;exact⟨w.heap.size,hd,Aq _,World.alloc_heap_new w _⟩
  rw[World.size_alloc]at hm;exact⟨_,_,_,_,_,_,_,_,run_enterLoop_outer fn a.tmps z assign body,K _ _,λ_ _=>trivial,by simp only[invoke];exact WN hE _ _,(λh=>by cases h),hm⟩
 |some l=>
  obtain⟨x,hx⟩:=k l rfl;have hm:=M w {state:=.ready,pending:=none,fn,tmps:=a.tmps,params:=z,assign,body,defers:=x.defers} [] s.sim (HC.refl _ _ _) rfl rfl rfl rfl rfl rfl k! λd hd=>by cases hd
  exact⟨_,_,_,_,_,_,_,_,run_enterLoop_inner hx fn a.tmps z assign body,K _ _,λ_ _=>trivial,by simp only[invoke];exact WN hE _ _,(λh=>by cases h),hm⟩
end
def isQ:Op->Bool
 | .move _| .assign _| .pick .. | .load .. | .nilCheck _| .binOp .. | .unOp .. | .convert .. | .fieldAddr .. | .field .. | .indexAddr .. | .index .. | .slice .. | .extract .. | .makeFunc .. | .build .. =>true
 | .call c=>match c.callee with| .builtin .len=>true| .builtin .max=>true| .builtin .min=>true|_=>false
 |_=>false
abbrev AFY:=FuncId->List AZ->Ax->Option (AZ×Ax)
abbrev AFZ:=Nat->Code->Env->Ax->Option (Exit×Env×Ax)
def tG(P:Program)(env:Env)(H:Ax)(op:Op):Option AZ:=
 match op with
 | .buildSlice t len parts=>match Rw P env t len parts with|some (sz,vs)=>some (.vs sz vs)|none=>none
 |op=>Cb P env H op
def dq(op:Op):Bool:=match op with| .buildSlice .. =>true|op=>isQ op
def uA(ops:Array Oper)(m:List Nat):Nat->List Nat->List Nat
 |0,_=>[]
 |n+1,left=>
  let rdy:=left.filter λi=>left.all λp=>p==i|| !O3 m p i
  let qs:=rdy.filter λi=>match ops[i]? with|some o=>dq o.op|none=>false
  let last:=λi=>left.all λj=>j==i||O3 m i j||H6 ops j
  let es:=rdy.filter λi=>!H6 ops i&&last i
  let as:=rdy.filter λi=>H6 ops i&&last i
  match qs,es,as with
  |i::_,_,_=>i::uA ops m n (left.erase i)
  |[],i::_,_=>i::uA ops m n (left.erase i)
  |[],[],i::_=>i::uA ops m n (left.erase i)
  |[],[],[]=>[]
def xG(ops:Array Oper):List Nat:=uA ops (IE ops.toList []) ops.size (List.range ops.size)
section
variable {P:Program} {call:AFY} {code:AFZ} {H H':Ax} {v:AZ} {F:List Nat}
theorem gB{N:Nat}(b:tG P f H o.op=some v):iz P N o f H (zi f o.op) v:=by
 unfold tG at b;split at b;rename_i t len a i;split at b;rename_i sz l d;injection b with e;subst e;intro c g h k;refine UL i (sz:=sz) (vs:=l) ?_ ⟨rfl,rfl⟩;rw[<-d];have j:=dE h;unfold Rw;have:(a.toList.map λp=>BL c p.2)=a.toList.map λp=>BL f p.2:=Me λp d=>by grind[Op.operands]
 rw[this];cases b;exact Vw b
end
def mh(F:Fence)(n0:Nat)(P:Program)(c:Code)(K:Exit->Act->World->Prop)(a:Act)(w:World):Prop:=
 ∀(b:Frame) (k:List Item) (cs:List Frame),b.roundOf=F.round->F.fn b.fn->F.room (cs.length+1+n0)->
  ∃e a' w',K e a' w'/\ArrivesIn (Machine.fenced P F) P (lone (b.atR a (.code c:: .inLoop c::k)) cs w) b k cs e a' w'
section
variable {P:Program} {F:Fence} {n0:Nat} {c:Code} {K:Exit->Act->World->Prop} {a:Act} {w:World}
def vQ(h:mh F n0 P c K a w):(Code.loop c).wpIn F n0 P K a w:=by intro b k j f g hr;obtain⟨e,i,m,l,d⟩:=h b k j f g hr;exact⟨e,i,m,l,.of_steps (.one (fenced_calm g hr rfl) stepR_loop) d⟩
def qx(h:c.wpIn F n0 P (Exit.then (λt u=>mh F n0 P c K t u) K) a w):mh F n0 P c K a w:=by
 intro b k s p r hr;obtain⟨e,f,g,m,d⟩:=h b (.inLoop c::k) s p r hr;cases e with
 |normal=>obtain⟨o,n,q,j,i⟩:=m b k s p r hr;exact⟨o,n,q,j,.of_steps (StepsIn.trans d (.one (fenced_calm r hr rfl) stepR_inLoop)) i⟩
 |exit id=>exact⟨_,f,g,m,.pass (x:=.inLoop c) rfl (λ_ _=>.inl k!) d⟩
 |goto l=>exact⟨_,f,g,m,.pass (x:=.inLoop c) rfl (λ_ _=>.inl k!) d⟩
 |ret=>exact⟨_,f,g,m,.pass (x:=.inLoop c) rfl (λ_ _=>.inl k!) d⟩
 |panic v=>exact⟨_,f,g,m,.pass (x:=.inLoop c) rfl (λ_ _=>.inl k!) d⟩
 |outgrown=>exact⟨_,f,g,m,.pass (x:=.inLoop c) rfl (λ_ _=>.inl k!) d⟩
theorem YO(h:mh F n0 P c K a w)(m: ∀e a w,K e a w->z e a w):mh F n0 P c z a w:=by intro b k i d j hr;obtain⟨e,l,o,n,g⟩:=h b k i d j hr;grind
end
def Mc(P:Program)(N:Nat)(c:Code)(env:Env)(H:Ax)(Q:Exit->Env->Ax->Prop):Prop:=
 ∀(r:Option Nat) (X:Nat->Prop) (h:Gh) (a:Act) (w:World),St X h N env H a w->kE r w->
  mh (FR r) 0 P c (λe a' w'=> ∃h' env' H',Q e env' H'/\St X h' N env' H' a' w'/\HC h H w h' H' w'/\YU a w a' w') a w
section
variable {P:Program} {N:Nat} {env:Env} {H:Ax} {Q:Exit->Env->Ax->Prop}
theorem Mc.mono(h:Mc P N c env H Q)(i: ∀e b d,Q e b d->B e b d):Mc P N c env H B:=by intro r X g a w s k;apply YO (h r X g a w s k);grind
def Mb.of_loopW(h:Mc P N c env H Q):Mb P N (.loop c) env H Q:=λr X g a w s k=>vQ (h r X g a w s k)
def SI(h:Mb P N c env H (sX (λb f=> ∃env2 d,Fz N H.length b f env2 d/\Mc P N c env2 d Q) Q)):Mc P N c env H Q:=by
 intro r X g a w s k;refine qx (wpIn_mono (h r X g a w s k) ?_);rintro e a2 t ⟨m,env2,d,q,o,v,j⟩;cases e with
 |normal=>obtain⟨l,F,n,B⟩:=q;obtain⟨z,p,A,C⟩:=n.2 X m a2 t o;have i:=Fz.ext rfl n.1 A C v;apply YO (B r X z a2 t p (k.later i));rintro e G I ⟨y,b,f,D,E,u,x⟩;exact⟨y,b,f,D,E,i.trans u,j.trans p.sim i u x⟩
 |_=>exact⟨m,env2,d,q,o,v,j⟩
def qy(P:Program)(N:Nat)(c:Code)(env:Env)(H:Ax)(Q:Exit->Env->Ax->Prop):Prop:=
 match c with
 | .loop x=>Mc P N x env H Q
 |c=>Mb P N c env H Q
def qy.awp(h:qy P N c env H Q):Mb P N c env H Q:=by unfold qy at h;split at h;exact .of_loopW h;exact h
def D6(hn: ∀x,c≠ .loop x)(h:Mb P N c env H Q):qy P N c env H Q:=by simp_all[qy]
def qy.mono(h:qy P N c env H Q)(f: ∀e a b,Q e a b->B e a b):qy P N c env H B:=by
 cases c with
 |loop x=>exact Mc.mono h f
 |_=>exact Mb.mono h f
def Mc.weak{d:Ax}(y:Fz N H.length env H f d)(h:Mc P N c f d Q):Mc P N c env H Q:=by intro r X g a w s k;obtain⟨m,t,n,o⟩:=y.2 X g a w s;apply YO (h r X m a w t k);rintro e v x ⟨l,b,i,q,p,u,j⟩;exact⟨l,b,i,q,p,(Fz.ext rfl y.1 n o (HC.refl g H w)).trans u,j⟩
def qy.weak{a:Ax}(b:Fz N H.length env H f a)(h:qy P N c f a Q):qy P N c env H Q:=by
 cases c with
 |loop x=>exact Mc.weak b h
 |_=>exact Mb.weak b h
def Mb.after(h:Mb P N c env H (λe b f=> ∃env2 d,Fz N H.length b f env2 d/\Q e env2 d)):Mb P N c env H Q:=by intro r X g a w s k;apply wpIn_mono (h r X g a w s k);rintro e j v ⟨m,b,f,⟨env2,d,i,q⟩,t,x,l⟩;obtain⟨n,u,o,p⟩:=i.2 X m j v t;exact⟨n,env2,d,q,u,Fz.ext rfl i.1 o p x,l⟩
def Mc.after(h:Mc P N c env H (λe b f=> ∃env2 d,Fz N H.length b f env2 d/\Q e env2 d)):Mc P N c env H Q:=by intro r X g a w s k;apply YO (h r X g a w s k);rintro e j v ⟨m,b,f,⟨env2,d,i,q⟩,t,x,l⟩;obtain⟨n,u,o,p⟩:=i.2 X m j v t;exact⟨n,env2,d,q,u,Fz.ext rfl i.1 o p x,l⟩
def qy.after(h:qy P N c env H (λe a d=> ∃env2 b,Fz N H.length a d env2 b/\Q e env2 b)):qy P N c env H Q:=by
 cases c with
 |loop x=>exact Mc.after h
 |_=>exact Mb.after h
end
def C6(v:AZ)(H:Ax):AZ->Ax->Prop:=λu H'=>u=v/\H'=H
def Ws(e:Exit)(env:Env)(H:Ax):Exit->Env->Ax->Prop:=λe1 env1 H1=>e1=e/\env1=env/\H1=H
def callT(ρ:Operand->AZ):Op->Option (Sum (FuncId×List AZ) (Nat×List AZ))
 | .call c=>
  match c.callee with
  | .value f=>
   match ρ f with
   | .fn (.func F) first caps=>some (.inl (F,first++c.args.toList.map ρ++caps))
   | .yf id=>some (.inr (id,c.args.toList.map ρ))
   |_=>none
  |_=>none
 |_=>none
def ADm(H:Ax):List (Nat×FZ)->Ax
 |[]=>H
 |(i,e)::r=>ADm (H.set i e) r
section
variable {X:Nat->Prop} {h:Gh} {H:Ax} {w:World}
def Ix.regen(s:Ix X h H w){id g g':Nat}{cs:List AZ}(n:H[id]? =some (FZ.live g cs))(I:g≤g'):
  Ix X (h.at_ id (h.io id) g' (h.cap id)) (H.set id (.live g' cs)) w/\HC h H w (h.at_ id (h.io id) g' (h.cap id)) (H.set id (.live g' cs)) w:=by
 obtain⟨q,p⟩:=s.live id g cs n;have l:h.gen id=g:=q;have t:id<H.length:=by rcases Aw id H.length with z|z;exact z;rw[Cn z]at n;cases n
 rcases p with⟨F,A⟩|⟨B,j,T,G,f,D,L,o,E,C,c⟩;have d:h.io id=none:=F;rcases Nat.eq_or_lt_of_le I with e|M;subst e;have x:h.at_ id (h.io id) g (h.cap id)=h:=by unfold Gh.at_;cases h;simp only[Gh.mk.injEq];refine⟨funext λi=>?_,funext λi=>?_,funext λi=>?_⟩;split<;>simp_all;split;rename_i r;subst r;exact l.symm;rfl;split<;>simp_all
 have y:H.set id (.live g cs)=H:=by apply H7;intro i;rw[WW];split;rename_i r;subst r;exact n.symm;rfl
 rw[x,y];exact⟨s,HC.refl _ _ _⟩;subst A;obtain⟨m,rfl⟩: ∃m,g'=m+1:=⟨g'-1,o!⟩
 have key: ∀(v:Gh) (u:Ax) (k:Nat),v=h.at_ id none (g+k) (h.cap id)->u=H.set id (.live (g+k) [])->(Ix X v u w/\HC h H w v u w)->(Ix X (h.at_ id none (g+(k+1)) (h.cap id)) (H.set id (.live (g+(k+1)) [])) w/\HC h H w (h.at_ id none (g+(k+1)) (h.cap id)) (H.set id (.live (g+(k+1)) [])) w):=by
  intro v u k x y J;subst x y;obtain⟨q1,q2⟩:=J.1.bump (id:=id) (g:=g+k) (cs:=[]) (by simp[t]) (by simp[Gh.at_]);have K:(h.at_ id none (g+k) (h.cap id)).at_ id none (g+k+1) ((h.at_ id none (g+k) (h.cap id)).cap id)=h.at_ id none (g+(k+1)) (h.cap id):=by unfold Gh.at_;simp only[Gh.mk.injEq];refine⟨funext λi=>?_,funext λi=>?_,funext λi=>?_⟩<;>by_cases r:i=id<;>simp[r,bm]
  rw[K,Wg]at q1 q2;exact⟨q1,J.2.trans q2⟩
 have all: ∀k,Ix X (h.at_ id none (g+(k+1)) (h.cap id)) (H.set id (.live (g+(k+1)) [])) w/\HC h H w (h.at_ id none (g+(k+1)) (h.cap id)) (H.set id (.live (g+(k+1)) [])) w:=by
  intro k;induction k with
  |zero=>exact s.bump n d
  |succ k N=>exact key _ _ (k+1) rfl rfl N
 have:=all (m-g);rw[show g+(m-g+1)=m+1 by omega]at this;rw[d];exact this;have b:h.io id=some B:=D;have a:j.size=h.cap id:=o;have:=s.upd (g':=g') (B:=B) (arr:=j) (T:=T) (fz:=G) (w':=w) n I (λ_=>⟨b,a.symm⟩) (.inl b) L (λ_ _ _=>rfl) rfl rfl rfl (Aq _) ⟨f,E,C,c⟩;rw[a]at this;rw[b];exact this
end
section
variable {P:Program} {N:Nat} {o:Oper} {env:Env} {H:Ax} {K:AZ->Ax->Prop}
def Bp.regen{id g g' sz off n:Nat}(a:h.gen id=g)(X:Bp (cx M h H j) (.sl id g sz off n) r):
  Bp (cx M (h.at_ id (h.io id) g' (h.cap id)) (H.set id I) j) (.sl id g' sz off n) r:=by
 cases X with
 |sl b i d f=>refine .sl (by simpa[cx]using b) (by simp[cx,Gh.at_]) d λ_=>?_;have:=f a;simpa[cx,Gh.at_]using this
def JC.regen{id g g' sz off n:Nat}{cs:List AZ}{H1:Ax}(j:g<=g')(d:H1[id]? =some (FZ.live g cs))(h:JC P N o env H λv b=>v= .sl id g sz off n/\b=H1)(k:K (.sl id g' sz off n) (H1.set id (.live g' cs))):JC P N o env H K:=by intro r X f a w s Q;apply Uv (h r X f a w s Q);rintro p t ⟨c,v,q,b,i,⟨rfl,rfl⟩,l,e,m⟩;obtain⟨q1,q2⟩:=e.regen (g':=g') d j;exact⟨c,_,_,_,i,k,Bp.regen (e.live id g cs d).1 l,q1,m.trans q2⟩
theorem RH{sx xx:Operand}{t e:TypeId}{id g g' n sz m:Nat}{cs news:List AZ}(ho:o.op= .call {callee:=.builtin .append,args:= #[sx,xx],argTypes:= #[t,t]})(he:eI P t=some (none,e,sz))(S:0<sz)(b7:RI P e=true)
  (hs:BL env sx= .sl id g sz 0 n) (Z:H[id]? =some (FZ.live g cs)) (hn:cs.length=n*sz) (hx:NY H sz (BL env xx)=some (m,news)) (bt:n+m<=16777216)
  (ca:g<g'\/(g'=g/\m=0)) (hk:K (.sl id g' sz 0 (n+m)) (H.set id (.live g' (cs++news)))):JC P N o env H K:=by
 apply C2 (by rw[ho];rfl);intro X h a w s Q;obtain⟨a8,b,hi⟩:=P7 he;obtain⟨i,z,y,bN,hz,b9⟩:=TE b7;have u:=iS hi y;have rs:=DA s.env sx;rw[hs]at rs;have rx:=DA s.env xx;obtain⟨ar,bb⟩:=s.sim.live id g cs Z;have b3:h.gen id=g:=ar;have L:id<H.length:=by rcases Aw id H.length with U|U;exact U;grind[List.getElem?_eq_none]
 have a7:NY H sz (.sl id g sz 0 n)=some (n,cs):=by grind[NY]
 unfold Oper.wp;have b0:(h.io id=none/\n=0/\a.eval sx= .slice none 0 0)\/ ∃B cap,h.io id=some B/\n<=cap/\cap*sz<=h.cap id/\a.eval sx= .slice (some ⟨B,0,none⟩) n cap:=by
  generalize a.eval sx=c at rs;cases rs with
  |sl p q r hc=>rcases hc ar with⟨h1,U,_,h3⟩|⟨B,cap,h1,U,h3,h4⟩;exact .inl ⟨h1,U,h3⟩;exact .inr ⟨B,cap,h1,U,by simpa[cx]using h3,h4⟩
 have ao: ∀(l:Option Addr) (cap:Nat),a.eval sx= .slice l n cap→cap<n+m→0<m→
   Oper.upon P o a (λa' V=> ∃c v h' H',a'=a.put o.dst c/\K v H'/\Bp (cx X h' H' V) v c/\Ix X h' H' V/\HC h H w h' H' V) Q ((execOp a.eval o).run P w):=by
  intro l cap A a3 b5;have sd:=s.sim.drew;obtain⟨ax,al,G,a9,O,d,D,_,J⟩:=OM (P:=P) sd (rx.later (HC.drew.later X)) S hx;obtain⟨_,_,_,_,_,_,_,a4,_⟩:=OM (P:=P) s.sim rx S hx;obtain⟨_,_,os,_,_,R,a6,_,b2⟩:=OM (P:=P) sd (rs.later (HC.drew.later X)) S a7;obtain⟨C,hC,E⟩:=nG (ty:=o.type) (base:=l) (n:=n) (cap:=cap) (os:=os) a8 y hz bN a4 (by rw[u,<-A];exact b2) (by rw[u];exact J) a3 bt;rw[QT ho (by rw[A];exact E),Oper.upon_value];have hh:Holds (cx X h H w.drew) (cs++news) (os.toArray++G.toArray++Builtin.zeroCells z.cells (C-(n+m))) (0,0):=rf R d a6 D;obtain⟨q1,q2⟩:=sd.upd (g':=g') (B:=w.heap.size) (T:=e) (fz:=(0,0)) (w':={w.drew with heap:=w.drew.heap.push (.cells (os.toArray++G.toArray++Builtin.zeroCells z.cells (C-(n+m))) e)}) Z o! (λbz=>o!)
   (.inr (Aq _)) (by show(w.heap.push _)[w.heap.size]? =_;simp) (λk hk bz=>by show(w.heap.push _)[k]? =w.heap[k]?;rw[SX,if_neg bz]) rfl rfl rfl (by show w.heap.size<=(w.heap.push _).size;simp) hh
  refine⟨_,_,_,_,rfl,hk,.sl (by simpa[cx]using L) (by simp[cx,Gh.at_]) ⟨_,_,rfl⟩ λ_=>.inr ⟨w.heap.size,C,by simp[cx,Gh.at_],hC,?_,rfl⟩,q1,HC.drew.trans q2⟩;have e1:G.length=m*sz:=by rw[d.1,O]
  have e2:os.length=n*sz:=by rw[R.1,hn]
  simp only[cx,Gh.at_,if_true,Array.size_append,bi,Xa,b9,u,e1,e2];have:(C-(n+m))*sz+(n*sz+m*sz)=C*sz:=by rw[<-FN,<-FN];congr 1;omega
  omega
 rcases b0 with⟨F,rfl,A⟩|⟨B,cap,F,b',I,A⟩;rcases Ud m with hm|hm;subst hm;obtain⟨ax,al,G,a9,O,d,D,M,J⟩:=OM (P:=P) s.sim rx S hx;have a5:news=[]:=EP o!;subst a5;have b1:cs=[]:=EP o!;subst b1;have b8:G=[]:=EP d.1;subst b8;have E:=ja (ty:=o.type) (base:=none) (n:=0) (cap:=0) (w':=w) a8 y M (by rw[u];exact J) o! rfl;rw[QT ho (by rw[A];exact E),Oper.upon_value];obtain⟨q1,q2⟩:=s.sim.regen (g':=g') Z o!;rw[F]at q1 q2;rw[Db]at hk;exact⟨_,_,_,_,rfl,hk,.sl (by simpa[cx]using L) (by simp[cx,Gh.at_]) ⟨_,_,rfl⟩ λ_=>.inl ⟨by simp[cx,Gh.at_],rfl,rfl,rfl⟩,q1,q2⟩;exact ao none 0 A o! hm;rcases Aw cap (n+m)with b4|a2;exact ao _ cap A b4 o!;obtain⟨ax,al,G,a9,O,d,D,M,J⟩:=OM (P:=P) s.sim rx S hx;rcases bb with⟨bG,_⟩|⟨B',W,T,fz,f,a0,hb,a1,cc,bl,Y⟩;rw[show(cx X h H w).io id=h.io id from rfl,F]at bG;cases bG;rw[show(cx X h H w).io id=h.io id from rfl,F]at a0;injection a0 with e0;subst e0;have x:W.size=h.cap id:=a1;have e1:G.length=m*sz:=by rw[d.1,O]
 have b6:n*sz+m*sz<=W.size:=by rw[<-FN,x];exact DH (OV _ a2) I
 obtain⟨V,ad,p1,p2,p3,p4,p5,p6,p7,p8,p9⟩:=T1 (P:=P) (off:=n*sz) G 0 W w hb o! bl D;have E:=ja (ty:=o.type) (base:=some ⟨B,0,none⟩) (n:=n) (cap:=cap) (w':=V) a8 y M (by rw[u];exact J) a2 (by rw[u];simp only[OR,EL];exact p1);rw[QT ho (by rw[A];exact E),Oper.upon_value];have hh:Holds (cx X h H w) (cs++news) ad fz:=by
  refine⟨λj=>if n*sz<=j/\j<n*sz+m*sz then G.getD (j-n*sz) undef else f j,by simp[hn,O];omega,by rw[p3];exact bl,λj v hj=>?_⟩;rw[p4];simp only[P0,e1];rcases Aw j cs.length with U|U;rw[CO U]at hj;rw[if_neg o!,if_neg o!];exact Y j v hj;rw[Ch U]at hj;have cb:j-cs.length<news.length:=by rcases Aw (j-cs.length) news.length with h3|h3;exact h3;rw[Cn h3]at hj;cases hj
  rw[if_pos o!,if_pos o!];have hg:G[j-n*sz]? =some (G[j-n*sz]' o!):=Au o!;have eg:G.getD (j-n*sz) undef=G[j-n*sz]' o!:=by rw[QX,hg];rfl
  rw[eg];refine⟨hg,D _ (PH _),d.2 _ v _ hj ?_⟩;rw[hn];exact hg
 obtain⟨q1,q2⟩:=s.sim.upd (g':=g') (B:=B) (arr:=ad) (T:=T) (fz:=fz) (w':=V) Z o! (λ_=>⟨F,by rw[p3,x]⟩) (.inl F) p2 (λk _ hk=>p5 k hk) p6 p7 p8 (by rw[p9];exact Aq _) hh;refine⟨_,_,_,_,rfl,hk,.sl (by simpa[cx]using L) (by simp[cx,Gh.at_]) ⟨_,_,rfl⟩ λ_=>.inr ⟨B,cap,by simp[cx,Gh.at_],a2,?_,rfl⟩,q1,q2⟩;simp only[cx,Gh.at_,if_true,p3,EL,x];exact I
theorem aj{h:Operand}{m:Nat}(j:o.op= .call {callee:=.builtin .append,args:= #[g,h],argTypes:= #[b,b]})(i:eI P b=some (none,V,n))(t:0<n)(c:RI P V=true)
  (k:BL env g= .nils) (l:NY H n (BL env h)=some (m,d)) (e:m<=16777216) (f:K (.sl H.length m n 0 m) (H++[.live m d])):JC P N o env H K:=by
 apply JC.regen (id:=H.length) (g:=0) (g':=m) (cs:=d) (Bi _) k! (JC.append_nil j i t c k l e ⟨rfl,rfl⟩);grind
theorem Sm{t:TypeId}{len sz:Nat}{vs:List AZ}(b:o.op= .buildSlice t len q)(c:Rw P env t len q=some (sz,vs))
  (d:K (.sl H.length vs.length sz 0 vs.length) (H++[.live vs.length (vs.flatMap AZ.cells)])):JC P N o env H K:=by
 apply JC.regen (id:=H.length) (g:=0) (g':=vs.length) (cs:=vs.flatMap AZ.cells) (Bi _) k! (ak b c ⟨rfl,rfl⟩);grind
theorem JC.makeSlice{y:Operand}{r:IntKind}(k:o.op= .makeSlice b g y)(j:eI P b=some (none,V,n))(s:0<n)(c:RI P V=true)(q:XZ P V=some d)(x:d.length=n)
  (m:BL env g= .int C i) (p:BL env y= .int r a) (f:0<=i) (h:i<=a) (e:a<=16777216) (u:K (.sl H.length i.toNat n 0 i.toNat) (H++[.live i.toNat (List.replicate i.toNat d).flatten])):JC P N o env H K:=by
 refine JC.regen (id:=H.length) (g:=0) (g':=i.toNat) (cs:=(List.replicate i.toNat d).flatten) (H1:=H++[.live 0 (List.replicate i.toNat d).flatten]) (sz:=n) (off:=0) (n:=i.toNat) (Bi _) k! (ia k j s c q x m p f h e ⟨rfl,rfl⟩) q!
end
section
variable {P:Program} {N:Nat} {o:Oper} {env:Env} {H:Ax} {K:AZ->Ax->Prop}
def jB(s:List UInt8):List AZ:=s.map λb=>.int .u8 (b.toNat:Int)
theorem kh{e:TypeId}(q:o.op= .convert b V g)(F:P.underlying b=some S)(y:P.underlying V=some (.slice e))(z:P.underlying e=some (.int .u8))
  (J:BL env g= .str O) (E:K (.sl H.length 0 1 0 O.length) (H++[.live 0 (jB O)])):JC P N o env H K:=by
 apply C2 (by rw[q];rfl);intro X h a w st Q;have n:=DA st.env g;rw[J]at n;generalize r:a.eval g=c at n;cases n with
 |str t G=>
  have l:t.size=O.length:=by rw[<-G];rfl
  have k:(execOp a.eval o).run P w= .ok (.value (.slice (some ⟨w.heap.size,0,none⟩) t.size (grownCap w t.size 0 e))) (Lib.bytesWorld w e t):=by have:=Lib.run_convert_string_bytes w b V e t F y z;unfold execOp;rw[q];simp[resolve,r,this]
  unfold Oper.wp;rw[k,Oper.upon_value];have B:=grownCap_ge w t.size 0 e;have m:(Lib.bytesCells w e t).size=grownCap w t.size 0 e:=by grind[Lib.bytesCells,Array.size_append,Array.size_map,Array.size_replicate]
  have L:=st.sim.drew;have I:Lib.bytesWorld w e t={w.drew with heap:=w.drew.heap.push (.cells (Lib.bytesCells w e t) e ((Lib.bytesCells w e t).size,(Lib.bytesCells w e t).size+1))}:=by unfold Lib.bytesWorld World.freeze World.alloc;rw[if_neg g!];show World.mk _ _ _ _ _=World.mk _ _ _ _ _;congr 1;apply Array.ext_getElem?;intro j;have m:w.drew.heap.size=w.heap.size:=rfl;grind
  rw[I];have C:Holds (cx X h H w.drew) (jB O) (Lib.bytesCells w e t) ((Lib.bytesCells w e t).size,(Lib.bytesCells w e t).size+1):=by
   refine⟨λj=>.int .u8 ((O.getD j 0).toNat:Int),by simp[jB];omega,λi M=>?_,λj v d=>?_⟩;grind;unfold jB at d;rw[CD]at d;cases p:O[j]? with
   |none=>grind
   |some f=>
    rw[p]at d;simp only[Bl,Am]at d;subst d;have D:j<O.length:=by grind[Nat.lt_or_ge,List.getElem?_eq_none]
    have A:O.getD j 0=f:=by rw[QX,p];rfl
    refine⟨?_,rfl,?_⟩;grind[Lib.bytesCells,Array.getElem?_append_left];simp only[A];exact .int _ _
  refine⟨_,_,_,_,rfl,E,.sl (by simp[cx]) (by simp[cx,Gh.at_]) ⟨_,_,by rw[l]⟩ λ_=>.inr ⟨w.heap.size,grownCap w t.size 0 e,?_,o!,?_,by rw[l]⟩,L.push _ e _ (jB O) C,HC.drew.trans (HC.push _ _ _)⟩;have:w.drew.heap.size=w.heap.size:=rfl;simp[cx,Gh.at_,this];simp only[cx,Gh.at_,if_true];omega
theorem mR{e:TypeId}(f:o.op= .convert b V g)(h:P.underlying b=some S)(c:P.underlying V=some (.slice e))(d:P.underlying e=some (.int .u8))
  (i:BL env g= .str O) (j:K (.sl H.length O.length 1 0 O.length) (H++[.live O.length (jB O)])):JC P N o env H K:=by
 refine JC.regen (id:=H.length) (g:=0) (g':=O.length) (cs:=jB O) (H1:=H++[.live 0 (jB O)]) (sz:=1) (off:=0) (n:=O.length) (Bi _) k! (kh f h c d i ⟨rfl,rfl⟩) q!
end
def Fz.virtC{N:Nat}{env:Env}{b g i sz:Nat}(Q:H[b]? =some (FZ.live g d))(hi:d[i]? =some .nils):
  Fz N H.length env H env (H.set b (.live g (d.set i (.sl H.length 0 sz 0 0)))++[.live 0 []]):=by
 have J:b<H.length:=by rcases Aw b H.length with P|P;exact P;rw[Cn P]at Q;cases Q
 refine⟨k!,λX h a w s=>⟨h.at_ H.length none 0 0,?_,λid ar=>by simp[Gh.at_,Be ar],?_⟩⟩;have O:=s.sim.virt;have hx:=HC.virt (h:=h) (H:=H) (w:=w);have W:=hx.later X
 have key: ∀(j:Nat) (e:FZ),(H.set b (.live g (d.set i (.sl H.length 0 sz 0 0)))++[FZ.live 0 []])[j]? =some e→
   (j≠b/\(H++[FZ.live 0 []])[j]? =some e)\/(j=b/\e= .live g (d.set i (.sl H.length 0 sz 0 0))):=by
  intro j e p;rcases Aw j H.length with y|y;rw[CO (by simpa using y),WW]at p;split at p;rename_i G;subst G;injection p with p;exact .inr ⟨rfl,p.symm⟩;rename_i G;exact .inl ⟨λe=>G e.symm,by rw[CO y];exact p⟩;refine .inl ⟨o!,?_⟩;rw[Ch (by simpa using y)]at p;rw[Ch y];simpa using p
 have E: ∀B,owned (h.at_ H.length none 0 0) (H.set b (.live g (d.set i (.sl H.length 0 sz 0 0)))++[.live 0 []]) B->owned (h.at_ H.length none 0 0) (H++[.live 0 []]) B:=by rintro B ⟨j,e,p,z,o⟩;rcases key j e p with⟨_,q⟩|⟨rfl,rfl⟩;exact⟨j,e,q,z,o⟩;exact⟨j,_,by rw[CO J];exact Q,k!,o⟩
 have C:(cx X (h.at_ H.length none 0 0) (H++[.live 0 []]) w).Later (cx X (h.at_ H.length none 0 0) (H.set b (.live g (d.set i (.sl H.length 0 sz 0 0)))++[.live 0 []]) w):={size:=Aq _,keep:=λ_ _ _ _=>rfl,own:=λB _ ho=>ho.imp _root_.id (E B),n:=by simp[cx],gen:=λ_ _=>Aq _,same:=λ_ _ _=>⟨rfl,rfl⟩}
 refine⟨⟨λB Y=>⟨(O.out B Y).1,λho=>(O.out B Y).2 (E B ho)⟩,λj g0 ad p=>?_,λj L p=>?_,λj k e e' B q P a0 a1 h3 h4=>?_,O.bldKeep λj e p Y=>?_⟩,λt v m=>?_,s.size⟩;rcases key j _ p with⟨_,q⟩|⟨rfl,q⟩;obtain⟨U,hh⟩:=O.live j g0 ad q;refine⟨U,?_⟩;rcases hh with⟨o,h0⟩|⟨B,F,T,fz,f,o,I,x,M,K,l⟩;exact .inl ⟨o,h0⟩;exact .inr ⟨B,F,T,fz,f,o,I,x,M,K,λk v u=>⟨(l k v u).1,(l k v u).2.1,(l k v u).2.2.later C⟩⟩;injection q with h5 h6;subst h5 h6;obtain⟨U,hh⟩:=O.live j g0 d (by rw[CO J];exact Q);refine⟨U,?_⟩;rcases hh with⟨o,h0⟩|⟨B,F,T,fz,f,o,I,x,M,K,l⟩;subst h0;simp at hi;refine .inr ⟨B,F,T,fz,f,o,I,x,by simpa using M,K,λk v u=>?_⟩;rw[WW]at u;split at u;rename_i ax;subst ax;split at u;injection u with u;subst u;obtain⟨p1,Z,p3⟩:=l i _ hi;refine⟨p1,Z,?_⟩;generalize f i=c at p3 Z;cases p3;exact .sl (by simp[cx]) (by simp[cx,Gh.at_]) ⟨_,_,rfl⟩ λ_=>.inl ⟨by simp[cx,Gh.at_],rfl,rfl,rfl⟩;cases u;obtain⟨p1,Z,p3⟩:=l k v u;exact⟨p1,Z,p3.later C⟩;rcases key j _ p with⟨_,q⟩|⟨rfl,q⟩;obtain⟨U,B,r,q1,q2,q3,q4,q5,q6,q7,q8,q9⟩:=O.lp j L q;exact⟨U,B,r,q1,q2,q3,q4,q5,q6,q7,q8,λt v m=>⟨(q9 t v m).1,(q9 t v m).2.later C⟩⟩;cases q;have back: ∀{j:Nat} {e:FZ},(H.set b (.live g (d.set i (.sl H.length 0 sz 0 0)))++[FZ.live 0 []])[j]? =some e->e≠ .dead-> ∃e0,(H++[FZ.live 0 []])[j]? =some e0/\e0≠ .dead:=by intro j e p z;rcases key j _ p with⟨_,q⟩|⟨rfl,q⟩;exact⟨e,q,z⟩;exact⟨_,by rw[CO J];exact Q,k!⟩
 obtain⟨A,al,ao⟩:=back q a0;obtain⟨d',R,S⟩:=back P a1;exact O.inj j k _ _ B al R ao S h3 h4;rcases key j _ p with⟨_,q⟩|⟨rfl,q⟩;exact⟨q,rfl,rfl,rfl,λ_ _ _ _ _=>rfl⟩;subst q;cases Y;exact⟨(s.env t v m).1,((s.env t v m).2.later W).later C⟩;rintro B ⟨j,e,p,z,o⟩;rcases Aw j H.length with y|y;have D:h.io j=some B:=by simpa[Gh.at_,Be y]using o
 by_cases V:j=b;subst V;exact⟨j,_,Q,k!,D⟩;rw[CO (by simpa using y),Dy (λe=>V e.symm)]at p;exact⟨j,e,p,z,D⟩;rw[Ch (by simpa using y)]at p;have:j=H.length:=by rcases Nat.eq_or_lt_of_le y with e|P;exact e.symm;rw[Cn w!]at p;cases p
 subst this;simp[Gh.at_]at o
def Bp.nil_vs{x:Cx}(a:0<N)(c:Bp x .nils r):Bp x (.vs N []) r:=by cases c;exact Bp.vs (rows:=[]) (cap:=0) (λ_ _=>undef) (Aq _) a (λ_ _ h=>by simp at h) (λh=>(h rfl).elim) λ_ _ _ _ h=>by simp at h
def Fz.subset{N:Nat}{H:Ax}(h: ∀q∈W,q∈f):Fz N H.length f H W H:=⟨Aq _,λ_ g _ _ s=>⟨g,⟨s.sim,λt v m=>s.env t v (h _ m),s.size⟩,λ_ _=>⟨rfl,rfl,rfl⟩,λ_ h=>h⟩⟩
section
variable {P:Program}
theorem yz{b:Operand→AZ}(h:callT b T=some (.inl (p,d))):
  ∃c f first a,T= .call c/\c.callee= .value f/\b f= .fn (.func p) first a/\d=first++c.args.toList.map b++a:=by
 unfold callT at h;grind
section
variable {N:Nat} {o:Oper} {env:Env} {H H':Ax} {v:AZ}
def lM{F:FuncId}{vs:List AZ}(h:callT (BL env) o.op=some (.inl (F,vs)))(d:Enters P F=true)(e:EJ P F vs H (C6 v H')):JC P N o env H (C6 v H'):=by obtain⟨c,f,first,b,i,a,g,rfl⟩:=yz h;exact mQ i a g d e
end
end
mutual
theorem QS{p q:Nat->Bool}(h: ∀id,p id=true->q id=true): ∀v:AZ,v.idsAll p=true->v.idsAll q=true
 | .ptr id g off,k=>h id k
 | .sl id g sz off len,k=>h id k
 | .yf id,k=>h id k
 | .mp id,k=>h id k
 | .itp id m,k=>by simp only[AZ.idsAll,BU]at k⊢;exact⟨h id k.1,h m k.2⟩
 | .vptr cs,k=>JA h cs k
 | .vs sz rows,k=>JA h rows k
 | .fn f a b,k=>by simp only[AZ.idsAll,BU]at k⊢;exact⟨JA h a k.1,JA h b k.2⟩
 | .agg cs,k=>JA h cs k
 | .tup cs,k=>JA h cs k
 | .bool _,_=>rfl
 | .int _ _,_=>rfl
 | .str _,_=>rfl
 | .nilp,_=>rfl
 | .nils,_=>rfl
 | .nilf,_=>rfl
 | .any,_=>rfl
theorem JA{p q:Nat->Bool}(h: ∀id,p id=true->q id=true): ∀l:List AZ,AZ.idsAllL p l=true->AZ.idsAllL q l=true
 |[],_=>rfl
 |v::r,k=>by simp only[AZ.idsAllL,BU]at k⊢;exact⟨QS h v k.1,JA h r k.2⟩
end
mutual
theorem ABp(c d:Nat->Nat): ∀v:AZ,(v.ren c).ren d=v.ren λid=>d (c id)
 | .ptr id g i=>rfl
 | .sl id g sz i len=>rfl
 | .yf id=>rfl
 | .mp id=>rfl
 | .itp _ _=>rfl
 | .vptr e=>by simp only[AZ.ren,TC c d e]
 | .vs sz h=>by simp only[AZ.ren,TC c d h]
 | .fn f a b=>by simp only[AZ.ren,TC c d a,TC c d b]
 | .agg e=>by simp only[AZ.ren,TC c d e]
 | .tup e=>by simp only[AZ.ren,TC c d e]
 | .bool _=>rfl
 | .int _ _=>rfl
 | .str _=>rfl
 | .nilp=>rfl
 | .nils=>rfl
 | .nilf=>rfl
 | .any=>rfl
theorem TC(a b:Nat->Nat): ∀l:List AZ,AZ.renL b (AZ.renL a l)=AZ.renL (λid=>b (a id)) l
 |[]=>rfl
 |v::r=>by simp only[AZ.renL,ABp a b v,TC a b r]
end
mutual
theorem we{p q:Nat->Bool}{c:Nat->Nat}(h: ∀id,p id=true->q (c id)=true): ∀v:AZ,v.idsAll p=true->(v.ren c).idsAll q=true
 | .ptr id g off,k=>h id k
 | .sl id g sz off len,k=>h id k
 | .yf id,k=>h id k
 | .mp id,k=>h id k
 | .itp id m,k=>by simp only[AZ.ren,AZ.idsAll,BU]at k⊢;exact⟨h id k.1,h m k.2⟩
 | .vptr cs,k=>OL h cs k
 | .vs sz rows,k=>OL h rows k
 | .fn f a b,k=>by simp only[AZ.ren,AZ.idsAll,BU]at k⊢;exact⟨OL h a k.1,OL h b k.2⟩
 | .agg cs,k=>OL h cs k
 | .tup cs,k=>OL h cs k
 | .bool _,_=>rfl
 | .int _ _,_=>rfl
 | .str _,_=>rfl
 | .nilp,_=>rfl
 | .nils,_=>rfl
 | .nilf,_=>rfl
 | .any,_=>rfl
theorem OL{p q:Nat->Bool}{a:Nat->Nat}(h: ∀id,p id=true->q (a id)=true): ∀l:List AZ,AZ.idsAllL p l=true->AZ.idsAllL q (AZ.renL a l)=true
 |[],_=>rfl
 |v::r,k=>by simp only[AZ.renL,AZ.idsAllL,BU]at k⊢;exact⟨we h v k.1,OL h r k.2⟩
end
def Pure(v:AZ):Prop:=v.idsAll (λ_=>false)=true
def oV(e:FZ):Prop:=match e with| .live _ cs=>AZ.idsAllL (λ_=>false) cs=true|_=>False
def Pure.all(h:Pure s)(p:Nat->Bool):s.idsAll p=true:=QS (λ_ e=>by cases e) s h
def Pure.ren{v:AZ}(h:Pure v)(ρ:Nat->Nat):v.ren ρ=v:=xM (p:=λ_=>false) (λ_ e=>by cases e) v h
def oV.all(h:oV I)(p:Nat->Bool):I.idsAll p=true:=by
 cases I with
 |live g a=>exact JA (λ_ I=>by cases I) a h
 |_=>cases h
def oV.ren(h:oV I)(ρ:Nat->Nat):I.ren ρ=I:=by
 cases I with
 |live g a=>simp only[FZ.ren];rw[WM (p:=λ_=>false) (λ_ I=>by cases I) a h]
 |_=>cases h
theorem EJ.sub{P:Program}{K:AZ→Ax→Prop}(bs:List Nat){Qc:AZ→Ax→Prop}(a:bs.Nodup)(g: ∀b∈bs,b<H.length)
  (t: ∀b∈bs,((H.getD b .dead).idsAll λid=>decide (id∈bs))=true) (k:AZ.idsAllL (λid=>decide (id∈bs)) d=true)
  (y:EJ P p (AZ.renL (bs.idxOf ·) d) (X9 H bs) Qc) (A: ∀v i,Qc v i->K (v.ren (SE H bs)) (Tx H bs i)):EJ P p d H K:=by
 intro X h w c s o f;refine(y (Xs X h H bs) (VV h bs) w c (s.sub a t) (by simpa[OF]using o) ?_).mono ?_;intro j v n l z;rw[OF,CD]at l;cases r:d[j]? with
 |none=>grind
 |some u=>rw[r]at l;simp at l;subst l;exact Bp.ren (p:=λid=>decide (id∈bs)) (λid=>uM id) rfl AB2 (f j u n r z) (MZ k r)
 rintro e E ⟨n,v,m,i,rfl,q,D,C,x⟩;have B:bs.length<=i.length:=by have:=x.n;simpa[X9]using this
 exact⟨n,_,ND h H bs m,Tx H bs i,rfl,A v i q,s.back a g x D,Bp.back a g B C,HC.back a g x⟩
theorem nr{f:Nat->Nat}: ∀(bs:List Nat) (H a:Ax),(∀e∈a,oV e)->Zh f H bs a=ADm H (bs.zip a)
 |[],H,a,_=>by cases a<;>rfl
 |b::bs,H,[],_=>rfl
 |b::bs,H,e::es,h=>by simp only[Zh,List.zip_cons_cons,ADm];rw[(h e k!).ren,nr bs _ es λc d=>h c (by simp[d])]
theorem EJ.frame{F c H:Ax}(bs:List Nat)(y:EJ P p d F (C6 s c))(l:bs.Nodup)(w:F.length=bs.length)(x:c.length=bs.length)
  (m: ∀(j b:Nat) (e:FZ),bs[j]? =some b->F[j]? =some e->H[b]? =some e) (o: ∀e∈F,oV e) (A: ∀e∈c,oV e) (v:Pure s)
  (q:AZ.renL (λj=>bs.getD j 0) d=Z) (z:AZ.idsAllL (λj=>decide (j<bs.length)) d=true):EJ P p Z H (C6 s (ADm H (bs.zip c))):=by
 have get: ∀b∈bs,∃(j:Nat) (e:FZ),bs[j]? =some b/\F[j]? =some e/\H[b]? =some e:=by
  intro b i;obtain⟨j,n,e⟩:=Ub.1 i;have h:bs[j]? =some b:=q!
  have f:F[j]? =some (F[j]' o!):=Au o!;exact⟨j,_,h,f,m j b _ h f⟩
 have k: ∀b∈bs,b<H.length:=q!
 have g:X9 H bs=F:=by
  apply H7;intro j;unfold X9;rw[CD];cases n:bs[j]? with
  |none=>grind[List.getElem?_eq_none_iff,List.getElem?_eq_none]
  |some b=>
   have r:j<bs.length:=by grind[Nat.lt_or_ge,List.getElem?_eq_none]
   have f:F[j]? =some (F[j]' o!):=Au o!;have a:=m j b _ n f;rw[f,Bl,QX,a,jX,(o _ (PH _)).ren]
 refine EJ.sub bs (Qc:=C6 s c) l k (λb i=>?_) ?_ ?_ ?_;obtain⟨j,e,_,h,f⟩:=get b i;rw[QX,f,jX];exact(o e (BP h)).all _;grind[OL,List.getElem?_eq_getElem,List.getElem_mem];rw[g,<-q,TC];grind[AZ.renL,WM,mf,List.getElem?_eq_getElem];rintro u t ⟨rfl,rfl⟩;refine⟨v.ren _,?_⟩;grind[Tx,nr,List.drop_eq_nil_of_le]
structure TI(α:Type)where
 sz:Nat
 f:α->AZ
 pos:0<sz
 len: ∀x,(f x).cells.length=sz
 pure: ∀x,Pure (f x)
def TI.cl(e:TI R)(l:List R):List AZ:=(l.map e.f).flatMap AZ.cells
theorem TI.clen{a:Type}(e:TI a): ∀l:List a,(e.cl l).length=l.length*e.sz
 |[]=>by simp[TI.cl]
 |x::l=>by have:=TI.clen e l;simp only[TI.cl,Bv,Iq,Ag,e.len]at this⊢;grind
def tH(k:IntKind):TI Int:=⟨1,.int k,g!,λ_=>rfl,λ_=>rfl⟩
abbrev BY:=List UInt8
def ix{α:Type}(l:List α)(i:Int):Option α:=if 0<=i then l[i.toNat]? else none
def app{α:Type}(l xs:List α):Option (List α):=if l.length+xs.length<=16777216 then some (l++xs)else none
theorem AGk{f:R->AZ}{l:List R}{x:R}(h:ix l i=some x):0<=i/\(l.map f)[i.toNat]? =some (f x):=by unfold ix at h;grind
theorem kG{l a r:List R}(h:app l a=some r):l.length+a.length<=16777216/\r=l++a:=by grind[app]
def AE1(e:TI R)(l:List R):xf e.sz (e.cl l) (l.map e.f):=⟨e.pos,λv b=>by obtain⟨x,_,rfl⟩:=Bh.1 b;exact e.len x,rfl⟩
inductive Step(S R:Type)where
 |next (s:S)
 |done (r:R)
def bU{S R:Type}(body:S->Option (Step S R)):Nat->S->Option R
 |0,_=>none
 |n+1,s=>
  match body s with
  |some (.next s')=>bU body n s'
  |some (.done r)=>some r
  |none=>none
theorem wl{body:J->Option (Step J R)}{s:J}{r:R}(h:bU body n s=some r):bU body (n+1) s=some r:=by induction n generalizing s<;>grind[bU]
theorem ABI{body:J->Option (Step J R)}{s:J}{r:R}(h:bU body n s=some r)(a:n<=N):bU body N s=some r:=by induction a<;>grind[wl]
open Classical in
noncomputable def Aj{S R:Type}(body:S->Option (Step S R))(s:S):Option R:=if h: ∃r n,bU body n s=some r then some h.choose else none
theorem iI{body:J->Option (Step J R)}{s:J}{r:R}:Aj body s=some r↔ ∃n,bU body n s=some r:=by
 unfold Aj;constructor;intro h;split at h<;>grind;rintro⟨n,hn⟩;have a: ∃r n,bU body n s=some r:=⟨r,n,hn⟩
 grind[ABI]
theorem G5(body:J→Option (Step J R))(s:J):Aj body s=match body s with
  |some (.next b)=>Aj body b
  |some (.done r)=>some r
  |none=>none:=by
 apply Option.ext;intro r;rw[iI];constructor
 ·rintro⟨n,h⟩;cases n with
  |zero=>cases h
  |succ n=>
   rw[bU]at h;cases a:body s with
   |none=>rw[a]at h;cases h
   |some q=>
    rw[a]at h;cases q with
    |next b=>exact iI.2 ⟨n,h⟩
    |done r=>exact h
 ·intro h;cases a:body s with
  |none=>rw[a]at h;cases h
  |some q=>
   rw[a]at h;cases q with
   |next b=>obtain⟨n,hn⟩:=iI.1 h;exact⟨n+1,by rw[bU,a];exact hn⟩
   |done c=>exact⟨1,by rw[bU,a];exact h⟩
def zT{body:J->Option (Step J R)}(C:J->R->Prop)(c: ∀s b r,body s=some (.next b)->C b r->C s r)(d: ∀s r,body s=some (.done r)->C s r){s:J}{r:R}(h:Aj body s=some r):C s r:=by
 obtain⟨n,hn⟩:=iI.1 h;clear h;induction n generalizing s with
 |zero=>cases hn
 |succ n e=>
  rw[bU]at hn;cases a:body s with
  |none=>rw[a]at hn;cases hn
  |some q=>
   rw[a]at hn;cases q with
   |next b=>exact c s b r a (e hn)
   |done f=>injection hn with hn;subst hn;exact d s f a
theorem bnd{x:Option R}{k:R->Option J}{r:J}(h:x.bind k=some r): ∃a,x=some a/\k a=some r:=by cases x<;>grind
abbrev Hf(n:Nat)(α:Type):=Fin n->α
def Hf.all{n:Nat}{α:Type}(x:α):Hf n α:=λ_=>x
def br(n:Nat)(e:TI R)(a:Hf n R):List AZ:=(List.finRange n).flatMap λi=>(e.f (a i)).cells
def AAX(n:Nat)(e:TI R)(a:Hf n R):(br n e a).length=n*e.sz:=by
 unfold br;have: ∀l:List (Fin n),(l.flatMap λi=>(e.f (a i)).cells).length=l.length*e.sz:=by
  intro l;induction l with
  |nil=>simp
  |cons x l c=>rw[Iq,Ag,c,e.len];simp[FN,jU]
 rw[this,List.length_finRange]
def GA{n:Nat}(a:Hf n R)(i:Int):Option R:=if h:0<=i/\i.toNat<n then some (a ⟨i.toNat,h.2⟩)else none
def T2{n:Nat}(a:Hf n R)(i:Int)(v:R):Hf n R:=λj=>if(j.val:Int)=i then v else a j
theorem lZ{a:Hf n R}{x:R}(h:GA a i=some x):0<=i/\ ∃k:Fin n,i=(k.val:Int)/\a k=x:=by grind[GA]
theorem pN(g:R→List J)(sz:Nat)(c: ∀x,(g x).length=sz)(l1:List R)(x:R)(l2:List R):
  (l1++x::l2).flatMap g=l1.flatMap g++g x++l2.flatMap g/\(l1.flatMap g).length=l1.length*sz:=by
 induction l1<;>grind
theorem pH(k:Fin n): ∃l1 l2,List.finRange n=l1++k::l2/\l1.length=k.val/\k∉l1/\k∉l2:=by
 refine⟨(List.finRange n).take k.val,(List.finRange n).drop (k.val+1),?_,q!,?_,?_⟩;have a:(List.finRange n).drop k.val=k::(List.finRange n).drop (k.val+1):=by rw[QV k!];simp
 rw[<-a,Di];intro h;obtain⟨i,b,e⟩:=Ub.1 h;grind;intro h;obtain⟨i,b,e⟩:=Ub.1 h;grind
theorem ol(e:TI R)(a:Hf n R)(k:Fin n): ∃b c,br n e a=b++(e.f (a k)).cells++c∧b.length=k.val*e.sz∧
  ∀v,br n e (T2 a k.val v)=b++(e.f v).cells++c:=by
 obtain⟨l1,l2,g,h,m,o⟩:=pH k;unfold br;rw[g];obtain⟨p,q⟩:=pN (λi=>(e.f (a i)).cells) e.sz (λi=>e.len _) l1 k l2;refine⟨_,_,p,by rw[q,h],λv=>?_⟩;have r: ∀j,j≠k->T2 a k.val v j=a j:=by grind[T2]
 have l:T2 a k.val v k=v:=by grind[T2]
 rw[(pN (λi=>(e.f (T2 a k.val v i)).cells) e.sz (λi=>e.len _) l1 k l2).1];grind[List.map_congr_left]
section
variable {α:Type} {n:Nat} (e:TI α) {a:Hf n α} {i:Int} {x:α}
theorem AAY(h:GA a i=some x)(c b:List AZ):(c++br n e a++b).length=c.length+n*e.sz+b.length∧c.length+i.toNat*e.sz+e.sz≤(c++br n e a++b).length∧
  ((c++br n e a++b).drop (c.length+i.toNat*e.sz)).take e.sz=(e.f x).cells/\ ∀v,VS (c++br n e a++b) (c.length+i.toNat*e.sz) (e.f v).cells=c++br n e (T2 a i v)++b:=by
 obtain⟨s,k,rfl,rfl⟩:=lZ h;obtain⟨d,g,l,m,o⟩:=ol e a k;have p:((k.val:Int)).toNat=k.val:=k!
 have j:=AAX n e a;have r:=e.len (a k);refine⟨q!,?_,?_,λv=>?_⟩;grind;grind;have q:=e.len v;rw[o v,l,p,<-m];have:(c++(d++(e.f (a k)).cells++g)++b)=(c++d)++((e.f (a k)).cells++(g++b)):=k!
 rw[this];unfold VS;rw[<-Ag,Wi,q,<-r,Zs,gq o!];simp
theorem AAT{off m:Nat}(c b:List AZ)(h:GA a i=some x)(d:off+m<=e.sz):c.length+i.toNat*e.sz+off+m<=(c++br n e a++b).length/\((c++br n e a++b).drop (c.length+i.toNat*e.sz+off)).take m=((e.f x).cells.drop off).take m:=by obtain⟨_,g,j,_⟩:=AAY e h c b;grind[List.drop_take,List.drop_drop]
end
def sapp(a b:BY):Option BY:=if a.length+b.length<=9223372036854775807 then some (a++b)else none
theorem AE2{a b r:BY}(h:sapp a b=some r):(if a.length+b.length<=9223372036854775807 then some (AZ.str (a++b))else none)=some (.str r):=by grind[sapp]
def RF(s:BY)(lo hi:Int):Option BY:=if 0<=lo/\lo<=hi/\hi<=s.length then some ((s.drop lo.toNat).take (hi.toNat-lo.toNat))else none
def X8(s:List R)(lo hi:Int):Option (List R):=if 0<=lo/\lo<=hi/\hi<=s.length then some ((s.drop lo.toNat).take (hi.toNat-lo.toNat))else none
def Ei(l:List Int):BY:=l.map λn=>UInt8.ofNat n.toNat
theorem uO: ∀l:List Int,u8s (l.map (tH .u8).f)=some (Ei l)
 |[]=>rfl
 |n::l=>by have:=uO l;simp;simp only[tH]at this⊢;simp only[u8s,this];rfl
def AEl(k:IntKind)(l:List Int):(tH k).cl l=l.map (tH k).f:=by
 unfold TI.cl;induction l with
 |nil=>rfl
 |cons x l a=>simp only[Bv,Iq,a];rfl
theorem ABS(l:List Int)(c:kd P V= .str)(d:kd P b= .bytes):
  Vv P H b V (.vs 1 (l.map (tH .u8).f))=some (.str (Ei l)):=by
 simp only[Vv,rowsOf];have:(l.map (tH .u8).f).flatMap AZ.cells=l.map (tH .u8).f:=AEl .u8 l;grind[uO]
def wo{body:J->Option (Step J R)}{C:J->R->Prop}(h: ∀s q,body s=some q->match q with| .next d=> ∀o,C d o->C s o| .done o=>C s o){s:J}{o:R}(b:Aj body s=some o):C s o:=zT C (λs _ r a c=>h s _ a r c) (λs _ a=>h s _ a) b
def mk(x:R)(l c:Int):Option (List R):=if 0<=l/\l<=c/\c<=16777216 then some (List.replicate l.toNat x)else none
theorem AGl(e:TI R)(x:R){r:List R}(h:mk x i a=some r):(0<=i/\i<=a/\a<=16777216)/\i.toNat=r.length/\(List.replicate i.toNat (e.f x).cells).flatten=e.cl r:=by unfold mk at h;split at h;rename_i b;injection h with h;subst h;unfold TI.cl;induction i.toNat<;>grind;cases h
def R4(s:BY):List Int:=s.map λb=>(b.toNat:Int)
def AF2(s:BY):s.length=(R4 s).length/\jB s=(tH .u8).cl (R4 s):=by
 refine⟨by simp[R4],?_⟩;unfold TI.cl R4 jB;induction s with
 |nil=>rfl
 |cons b r a=>simp only[Bv,a];rfl
def six(s:BY)(i:Int):Option Int:=if 0<=i then(s[i.toNat]?).map λb=>(b.toNat:Int)else none
theorem AF1{s:BY}(h:six s i=some a)(t:kd P b= .str):gQ P b (.str s) (.int C i)=some (.int .u8 a):=by grind[six,gQ]
def o7(e:TI R){l:List R}{x:R}(h:ix l i=some x): ∃d j,e.cl l=d++(e.f x).cells++j/\d.length=i.toNat*e.sz/\0<=i/\i.toNat<l.length/\l[i.toNat]? =some x/\ ∀v,e.cl (l.set i.toNat v)=d++(e.f v).cells++j:=by
 unfold ix at h;split at h
 case isFalse=>cases h
 rename_i k;obtain⟨c,n⟩:=Kb.1 h;have m:l=l.take i.toNat++x::l.drop (i.toNat+1):=by rw[<-n,<-QV c,Di]
 have b: ∀v,l.set i.toNat v=l.take i.toNat++v::l.drop (i.toNat+1):=λv=>by rw[List.set_eq_take_append_cons_drop,if_pos c]
 have a: ∀v,e.cl (l.take i.toNat++v::l.drop (i.toNat+1))=e.cl (l.take i.toNat)++(e.f v).cells++e.cl (l.drop (i.toNat+1)):=λv=>by simp[TI.cl]
 refine⟨e.cl (l.take i.toNat),e.cl (l.drop (i.toNat+1)),?_,?_,k,c,h,λv=>by rw[b,a]⟩;conv=>lhs;rw[m]
 exact a x;rw[e.clen,BR,P2 (Nat.le_of_lt c)]
def F6{α:Type}(l:List α)(i:Int)(v:α):List α:=l.set i.toNat v
def ABJ{l:List R}{v:R}(h:l.length=n):(F6 l i v).length=n:=by rw[<-h];exact bg
section
variable {α:Type} (e:TI α) {l:List α} {i:Int} {x:α}
theorem AEd(h:ix l i=some x)(d:N+n<=e.sz):i.toNat*e.sz+N+n<=(e.cl l).length/\((e.cl l).drop (i.toNat*e.sz+N)).take n=((e.f x).cells.drop N).take n:=by obtain⟨j,k,b,c,_⟩:=o7 e h;have g:=e.len x;rw[b,<-c];refine⟨q!,?_⟩;rw[A2,Zs,gq o!,By,Wj,Zs,jT,FJ,g,show n-(e.sz-N)=0 by omega];simp
end
mutual
def AZ.beq:AZ->AZ->Bool
 | .bool a,.bool b=>a==b
 | .int k n,.int k' n'=>decide (k=k')&&decide (n=n')
 | .str s,.str t=>decide (s=t)
 | .nilp,.nilp=>true
 | .nils,.nils=>true
 | .nilf,.nilf=>true
 | .ptr a b c,.ptr a' b' c'=>decide (a=a')&&(decide (b=b')&&decide (c=c'))
 | .vptr cs,.vptr ds=>AZ.beqL cs ds
 | .vs a cs,.vs b ds=>decide (a=b)&&AZ.beqL cs ds
 | .sl a b c d e,.sl a' b' c' d' e'=>decide (a=a')&&(decide (b=b')&&(decide (c=c')&&(decide (d=d')&&decide (e=e'))))
 | .agg cs,.agg ds=>AZ.beqL cs ds
 | .tup cs,.tup ds=>AZ.beqL cs ds
 |_,_=>false
def AZ.beqL:List AZ->List AZ->Bool
 |[],[]=>true
 |a::r,b::s=>AZ.beq a b&&AZ.beqL r s
 |_,_=>false
end
mutual
theorem beq_eq: ∀(a b:AZ),AZ.beq a b=true->a=b
 | .bool a,b,h=>by cases b<;>simp[AZ.beq]at h;rw[h]
 | .int k n,b,h=>by cases b<;>simp[AZ.beq]at h;rw[h.1,h.2]
 | .str s,b,h=>by cases b<;>simp[AZ.beq]at h;rw[h]
 | .nilp,b,h=>by cases b<;>simp[AZ.beq]at h;rfl
 | .nils,b,h=>by cases b<;>simp[AZ.beq]at h;rfl
 | .nilf,b,h=>by cases b<;>simp[AZ.beq]at h;rfl
 | .ptr _ _ _,b,h=>by cases b<;>simp[AZ.beq]at h;rw[h.1,h.2.1,h.2.2]
 | .vptr cs,b,h=>by cases b<;>simp[AZ.beq]at h;rw[gx cs _ h]
 | .vs a cs,b,h=>by cases b<;>simp[AZ.beq]at h;rw[h.1,gx cs _ h.2]
 | .sl _ _ _ _ _,b,h=>by cases b<;>simp[AZ.beq]at h;rw[h.1,h.2.1,h.2.2.1,h.2.2.2.1,h.2.2.2.2]
 | .agg cs,b,h=>by cases b<;>simp[AZ.beq]at h;rw[gx cs _ h]
 | .tup cs,b,h=>by cases b<;>simp[AZ.beq]at h;rw[gx cs _ h]
 | .fn _ _ _,b,h=>by cases b<;>simp[AZ.beq]at h
 | .yf _,b,h=>by cases b<;>simp[AZ.beq]at h
 | .mp _,b,h=>by cases b<;>simp[AZ.beq]at h
 | .itp _ _,b,h=>by cases b<;>simp[AZ.beq]at h
 | .any,b,h=>by cases b<;>simp[AZ.beq]at h
theorem gx: ∀(a b:List AZ),AZ.beqL a b=true->a=b
 |[],b,h=>by cases b<;>simp[AZ.beqL]at h;rfl
 |x::r,b,h=>by
  cases b with
  |nil=>simp[AZ.beqL]at h
  |cons y s=>simp only[AZ.beqL,BU]at h;rw[beq_eq x y h.1,gx r s h.2]
end
mutual
inductive Ty where
 |bool
 |int (k:IntKind)
 |str
 |list (t:Ty)
 |arr (n:Nat) (t:Ty)
 |prod (ts:RJ)
inductive RJ where
 |one (t:Ty)
 |cons (t:Ty) (ts:RJ)
end
mutual
@[reducible] def Ty.D:Ty->Type
 | .bool=>Bool
 | .int _=>Int
 | .str=>List UInt8
 | .list t=>List t.D
 | .arr n t=>Hf (n+1) t.D
 | .prod ts=>ts.D
@[reducible] def RJ.D:RJ->Type
 | .one t=>t.D
 | .cons t ts=>t.D×ts.D
end
mutual
def Ty.sz:Ty->Nat
 | .bool=>1
 | .int _=>1
 | .str=>1
 | .list _=>1
 | .arr n t=>(n+1)*t.sz
 | .prod ts=>ts.sz
def RJ.sz:RJ->Nat
 | .one t=>t.sz
 | .cons t ts=>t.sz+ts.sz
end
mutual
def Ty.enc:(t:Ty)->t.D->AZ
 | .bool,b=>.bool b
 | .int k,n=>.int k n
 | .str,s=>.str s
 | .list t,l=>.vs t.sz (l.map t.enc)
 | .arr n t,a=>.agg ((List.finRange (n+1)).flatMap λi=>(t.enc (a i)).cells)
 | .prod ts,x=>.agg (ts.cells x)
def RJ.cells:(ts:RJ)->ts.D->List AZ
 | .one t,x=>(t.enc x).cells
 | .cons t ts,x=>(t.enc x.1).cells++ts.cells x.2
end
mutual
theorem Ty.sz_pos: ∀t:Ty,0<t.sz
 | .bool=>g!
 | .int _=>by simp[Ty.sz]
 | .str=>g!
 | .list _=>by simp[Ty.sz]
 | .arr n t=>by simp only[Ty.sz];exact Nat.mul_pos (Nat.succ_pos n) t.sz_pos
 | .prod a=>by simp only[Ty.sz];exact a.sz_pos
theorem RJ.sz_pos: ∀a:RJ,0<a.sz
 | .one t=>by simp only[RJ.sz];exact t.sz_pos
 | .cons t a=>by simp only[RJ.sz];have:=t.sz_pos;omega
end
mutual
theorem Ty.enc_len: ∀(t:Ty) (x:t.D),(t.enc x).cells.length=t.sz
 | .bool,_=>rfl
 | .int _,_=>rfl
 | .str,_=>rfl
 | .list _,_=>rfl
 | .arr n t,a=>by
  show((List.finRange (n+1)).flatMap λi=>(t.enc (a i)).cells).length=(n+1)*t.sz;have: ∀l:List (Fin (n+1)),(l.flatMap λi=>(t.enc (a i)).cells).length=l.length*t.sz:=by
   intro l;induction l with
   |nil=>simp
   |cons x l b=>rw[Iq,Ag,b,t.enc_len];simp[FN,jU]
  rw[this,List.length_finRange]
 | .prod ts,x=>ts.cells_len x
theorem RJ.cells_len: ∀(a:RJ) (x:a.D),(a.cells x).length=a.sz
 | .one t,x=>by simp only[RJ.cells,RJ.sz];exact t.enc_len x
 | .cons t a,x=>by simp only[RJ.cells,RJ.sz,Ag];rw[t.enc_len,a.cells_len]
end
mutual
theorem Ty.enc_pure: ∀(t:Ty) (x:t.D),Pure (t.enc x)
 | .bool,_=>rfl
 | .int _,_=>rfl
 | .str,_=>rfl
 | .list t,l=>by unfold Pure;show AZ.idsAllL _ (l.map t.enc)=true;rw[Da];intro v b;obtain⟨x,_,rfl⟩:=Bh.1 b;exact t.enc_pure x
 | .arr n t,a=>by unfold Pure;show AZ.idsAllL _ ((List.finRange (n+1)).flatMap λi=>(t.enc (a i)).cells)=true;rw[Da];intro v b;obtain⟨i,_,b⟩:=Hh.1 b;exact Tv (t.enc_pure _) v b
 | .prod ts,x=>by unfold Pure;show AZ.idsAllL _ (ts.cells x)=true;rw[Da];exact ts.cells_pure x
theorem RJ.cells_pure: ∀(b:RJ) (x:b.D),∀v∈b.cells x,Pure v
 | .one t,x,v,a=>Tv (t.enc_pure x) v a
 | .cons t b,x,v,a=>by simp only[RJ.cells,Ao]at a;rcases a with a|a;exact Tv (t.enc_pure _) v a;exact b.cells_pure _ v a
end
def Ty.E(t:Ty):TI t.D:=⟨t.sz,t.enc,t.sz_pos,t.enc_len,t.enc_pure⟩
mutual
def Ty.beq:Ty->Ty->Bool
 | .bool,.bool=>true
 | .int k,.int k'=>decide (k=k')
 | .str,.str=>true
 | .list t,.list t'=>t.beq t'
 | .arr n t,.arr n' t'=>Nat.beq n n'&&t.beq t'
 | .prod ts,.prod ts'=>ts.beq ts'
 |_,_=>false
def RJ.beq:RJ->RJ->Bool
 | .one t,.one t'=>t.beq t'
 | .cons t ts,.cons t' ts'=>t.beq t'&&ts.beq ts'
 |_,_=>false
end
mutual
theorem Ty.beq_eq: ∀(t a:Ty),t.beq a=true->t=a
 | .bool,a,h=>by cases a<;>simp[Ty.beq]at h;rfl
 | .int k,a,h=>by cases a<;>simp[Ty.beq]at h;rw[h]
 | .str,a,h=>by cases a<;>simp[Ty.beq]at h;rfl
 | .list t,a,h=>by cases a<;>simp[Ty.beq]at h;rw[t.beq_eq _ h]
 | .arr n t,a,h=>by cases a<;>simp[Ty.beq]at h;rw[h.1,t.beq_eq _ h.2]
 | .prod ts,a,h=>by cases a<;>simp[Ty.beq]at h;rw[ts.beq_eq _ h]
theorem RJ.beq_eq: ∀(t a:RJ),t.beq a=true->t=a
 | .one t,a,h=>by cases a<;>simp[RJ.beq]at h;rw[t.beq_eq _ h]
 | .cons t ts,a,h=>by cases a<;>simp[RJ.beq]at h;rw[t.beq_eq _ h.1,ts.beq_eq _ h.2]
end
def Ty.cast{t t':Ty}(h:t.beq t'=true)(x:t.D):t'.D:=Ty.beq_eq t t' h▸x
def am{t a:Ty}(h:t.beq a=true)(x:t.D):a.enc (Ty.cast h x)=t.enc x:=by have:=Ty.beq_eq t a h;subst this;rfl
mutual
def Ty.zero:(t:Ty)->t.D
 | .bool=>false
 | .int _=>(0:Int)
 | .str=>([]:List UInt8)
 | .list t=>([]:List t.D)
 | .arr n t=>(Hf.all t.zero:Hf (n+1) t.D)
 | .prod ts=>ts.zero
def RJ.zero:(ts:RJ)->ts.D
 | .one t=>t.zero
 | .cons t ts=>(t.zero,ts.zero)
end
inductive Bu where
 |bl (b:Bool)
 |it (k:IntKind) (n:Int)
 |st (s:List UInt8)
 |ls (t:Ty) (l:List t.D)
 |ar (n:Nat) (t:Ty) (a:Hf (n+1) t.D)
 |own (id ver:Nat) (t:Ty) (n:Nat)
 |nil
 |raw (v:AZ)
def Bu.w:Bu->Nat
 | .ar n t _=>(n+1)*t.sz
 |_=>1
def Bu.enc:Bu->List AZ
 | .bl b=>[.bool b]
 | .it k n=>[.int k n]
 | .st s=>[.str s]
 | .ls t l=>[.vs t.sz (l.map t.enc)]
 | .ar n t a=>((Ty.arr n t).enc a).cells
 | .own id _ t n=>[.sl id n t.sz 0 n]
 | .nil=>[.nils]
 | .raw v=>[v]
def Bu.one:Bu->AZ
 | .bl b=>.bool b
 | .it k n=>.int k n
 | .st s=>.str s
 | .ls t l=>.vs t.sz (l.map t.enc)
 | .ar n t a=>(Ty.arr n t).enc a
 | .own id _ t n=>.sl id n t.sz 0 n
 | .nil=>.nils
 | .raw v=>v
def lvs(cs:List Bu):List AZ:=cs.flatMap Bu.enc
def Bu.enc_len(x:Bu):x.enc.length=x.w:=by
 cases x with
 |ar n t a=>exact Ty.enc_len (.arr n t) a
 |_=>rfl
inductive TV where
 |c (x:Bu)
 |g (cs:List Bu)
 |aptr (id base n:Nat) (t:Ty) (i:Int) (off:Nat)
 |bptr (id ver:Nat) (t:Ty) (n:Nat) (i:Int) (off:Nat)
 |vptr (cs:List Bu) (post:List AZ)
 |tup (vs:List TV)
mutual
def TV.enc:TV->AZ
 | .c x=>x.one
 | .g cs=>.agg (lvs cs)
 | .aptr id base _ t i off=>.ptr id 0 (base+i.toNat*t.sz+off)
 | .bptr id _ t n i off=>.ptr id n (i.toNat*t.sz+off)
 | .vptr cs post=>.vptr (lvs cs++post)
 | .tup vs=>.tup (TV.encL vs)
def TV.encL:List TV->List AZ
 |[]=>[]
 |v::r=>v.enc::TV.encL r
end
def pB: ∀l:List TV,TV.encL l=l.map TV.enc
 |[]=>rfl
 |v::r=>by simp only[TV.encL,Bv,pB r]
abbrev Bd:=List (Nat×TV)
inductive LS where
 |ready
 |busy
 |ret
 |exit (x:Nat)
def LS.st:LS->LoopState
 | .ready=>.ready
 | .busy=>.busy
 |_=>.done
def LS.pend:LS->Option Code
 | .ret=>some .ret
 | .exit x=>some (.exit x)
 |_=>none
def LS.beq:LS->LS->Bool
 | .ready,.ready=>true
 | .busy,.busy=>true
 | .ret,.ret=>true
 | .exit x,.exit y=>Nat.beq x y
 |_,_=>false
def LS.beq_eq{a b:LS}(h:a.beq b=true):a=b:=by cases a<;>cases b<;>simp only[LS.beq]at h<;>first|rfl|cases h|rw[DG h]
inductive Ds where
 |dead
 |live (ro:Bool) (cs:List Bu)
 |buf (ro:Bool) (t:Ty) (l:List t.D) (n ver:Nat)
 |lp (ro:Bool) (F:FuncId) (n:Nat) (env:Bd) (ps:Array Tmp) (a b:Code) (s:LS)
 |mp (ro:Bool) (k:IntKind) (t:Ty) (es:List (Int×t.D))
abbrev Ap:=List Ds
def B4(env:Bd):Env:=env.map λp=>(p.1,p.2.enc)
def Ds.enc:Ds->FZ
 | .dead=>.dead
 | .live _ cs=>.live 0 (lvs cs)
 | .buf _ t l n _=>.live n (t.E.cl l)
 | .lp _ _ n env ps a b s=>.lp ⟨n,B4 env,ps,a,b,s.st,s.pend⟩
 | .mp _ k t es=>.mp k (es.map λp=>(p.1,t.enc p.2))
def BJ(H:Ap):Ax:=H.map Ds.enc
def Rv:TV:=.c (.raw .any)
def Bd.get:Bd->Nat->TV
 |[],_=>Rv
 |(k,v)::r,t=>match Nat.beq k t with|true=>v|false=>Bd.get r t
def Bd.del(t:Nat):Bd->Bd
 |[]=>[]
 |(k,v)::r=>match Nat.beq k t with|true=>Bd.del t r|false=>(k,v)::Bd.del t r
def Bd.put(env:Bd)(t:Nat)(v:TV):Bd:=(t,v)::Bd.del t env
def Bd.putO(env:Bd):Option Nat->TV->Bd
 |some t,v=>env.put t v
 |none,_=>env
theorem beq_false(h:N≠n):Nat.beq N n=false:=by grind[Nat.eq_of_beq_eq_true]
theorem Tb(env:Bd)(t:Nat):(B4 env).get t=(env.get t).enc:=by
 induction env with
 |nil=>simp[B4,Env.get,Bd.get,Rv,TV.enc,Bu.one]
 |cons p r a=>grind[B4,Env.get,Bd.get,Nat.beq_refl,beq_false]
theorem AAx(env:Bd)(t:Nat):B4 (Bd.del t env)=(B4 env).filter λp=>decide (p.1≠t):=by induction env<;>grind[Bd.del,B4,Nat.beq_refl,beq_false]
def fw(env:Bd)(t:Nat)(v:TV):B4 (env.put t v)=(B4 env).put t v.enc:=by simp only[Env.put,<-AAx];rfl
def WX(env:Bd)(t:Option Nat)(v:TV):B4 (env.putO t v)=(B4 env).putO t v.enc:=by
 cases t with
 |none=>rfl
 |some t=>exact fw env t v
def AAs:Value->Bu
 | .bool b=>.bl b
 | .int k n=>.it k n
 | .string s=>.st s.data.toList
 | .pointer none=>.raw .nilp
 | .slice none 0 0=>.nil
 | .nilFunc=>.raw .nilf
 |_=>.raw .any
def cvT:Value->TV
 | .agg cs=>match cs.toList.all (·.oneCell')with|true=>.g (cs.toList.map AAs)|false=>Rv
 |v=>.c (AAs v)
def un(v:Value):(AAs v).one=nP v:=by
 cases v with
 |pointer p=>cases p<;>rfl
 |slice a l c=>
  cases a with
  |some _=>rfl
  |none=>
   match l,c with
   |0,0=>rfl
   |0,_+1=>rfl
   |_+1,_=>rfl
 |_=>rfl
theorem AAt(v:Value):(AAs v).enc=[nP v]:=by
 cases v with
 |pointer p=>cases p<;>rfl
 |slice a l c=>
  cases a with
  |some _=>rfl
  |none=>
   match l,c with
   |0,0=>rfl
   |0,_+1=>rfl
   |_+1,_=>rfl
 |_=>rfl
theorem ACp(v:Value):(cvT v).enc=zE v:=by
 cases v with
 |agg b=>
  simp only[cvT,zE];cases h:b.toList.all (·.oneCell')with
  |false=>simp[Rv,TV.enc,Bu.one]
  |true=>simp only[TV.enc,lvs];induction b.toList<;>grind[AAt]
 |pointer p=>exact un (.pointer p)
 |slice a l c=>exact un (.slice a l c)
 |_=>rfl
def Is(env:Bd):Operand->TV
 | .tmp t=>env.get t
 | .const v=>cvT v
 | .global _=>Rv
 | .func f=>.c (.raw (.fn (.func f) [] []))
theorem JW(env:Bd)(x:Operand):BL (B4 env) x=(Is env x).enc:=by
 cases x with
 |tmp t=>exact Tb env t
 |const v=>exact(ACp v).symm
 |global _=>rfl
 |func f=>rfl
def Vq:List Bu->Nat->Option (List Bu×List Bu)
 |ls,0=>some ([],ls)
 |[],_+1=>none
 |x::r,n+1=>
  match Nat.ble x.w (n+1)with
  |true=>match Vq r (n+1-x.w)with|some (a,b)=>some (x::a,b)|none=>none
  |false=>none
mutual
def Ty.lvs:(t:Ty)->t.D->List Bu
 | .bool,b=>[.bl b]
 | .int k,n=>[.it k n]
 | .str,s=>[.st s]
 | .list t,l=>[.ls t l]
 | .arr n t,a=>[.ar n t a]
 | .prod ts,x=>ts.lvs x
def RJ.lvs:(ts:RJ)->ts.D->List Bu
 | .one t,x=>t.lvs x
 | .cons t ts,x=>t.lvs x.1++ts.lvs x.2
end
def Bu.scalar:Bu->Bool
 | .ar .. =>false
 | .raw (.agg _)=>false
 |_=>true
def part(P:Program)(t:TypeId)(cs:List Bu)(off:Nat):Option TV:=
 match Vq cs off with
 |some (_,r)=>
  match tI P t with
  |some (true,n)=>match Vq r n with|some (a,_)=>some (.g a)|none=>none
  |some (false,_)=>match r with|x::_=>(match x.scalar with|true=>some (.c x)|false=>none)|[]=>none
  |none=>none
 |none=>none
section
variable {R:Type}
def okT(o:Option TV)(k:TV->Option R):Option R:=
 match o with
 |some v=>k v
 |none=>none
def AAW(cs:List Bu)(base n:Nat)(t:Ty):Option (Hf (n+1) t.D):=
 match Vq cs base with
 |some (_,.ar n' t' a::_)=>if h:(Ty.arr n' t').beq (Ty.arr n t)=true then some (Ty.cast h a)else none
 |_=>none
def fS(H:Ap)(id ver:Nat)(t:Ty):Option (List t.D):=
 match H[id]? with
 |some (.buf _ t' l _ ver')=>match Nat.beq ver ver' with|true=>(if h:(Ty.list t').beq (Ty.list t)=true then some (Ty.cast h l)else none)|false=>none
 |_=>none
def Vp(H:Ap)(id:Nat):Option (List Bu):=
 match H[id]? with
 |some (.live _ cs)=>some cs
 |_=>none
def loadT(P:Program)(H:Ap)(t:TypeId)(v:TV)(k:TV->Option R):Option R:=
 match v with
 | .c (.raw (.ptr id 0 off))=>match Vp H id with|some cs=>okT (part P t cs off) k|none=>none
 | .vptr cs _=>okT (part P t cs 0) k
 | .aptr id base n te i off=>
  match Vp H id with
  |some cs=>match AAW cs base n te with|some a=>(GA a i).bind λe=>okT (part P t (te.lvs e) off) k|none=>none
  |none=>none
 | .bptr id ver te _ i off=>match fS H id ver te with|some l=>(ix l i).bind λe=>okT (part P t (te.lvs e) off) k|none=>none
 |_=>none
def z7:AZ->TV
 | .bool b=>.c (.bl b)
 | .int k n=>.c (.it k n)
 | .str s=>.c (.st s)
 |v=>.c (.raw v)
def okA(o:Option AZ)(k:TV->Option R):Option R:=
 match o with
 |some v=>k (z7 v)
 |none=>none
def eqT(as bs:List Bu):Bool:=qm (lvs as) (lvs bs)
def AEe(P:Program)(op:BinOp)(t:TypeId)(x y:TV)(k:TV->Option R):Option R:=
 match x,y with
 | .c (.it kx a),.c (.it ky b)=>
  match op with
  | .shl=>cond (decide (b<0)) none (k (.c (.it kx (kx.wrap (a*2^min b.toNat kx.bits)))))
  | .shr=>cond (decide (b<0)) none (k (.c (.it kx (a.fdiv (2^min b.toNat kx.bits)))))
  | .quo=>if kx=ky then cond (b==0) none (k (.c (.it kx (kx.wrap (a.tdiv b)))))else none
  | .rem=>if kx=ky then cond (b==0) none (k (.c (.it kx (a.tmod b))))else none
  |op=>if kx=ky then okA (mB op kx a b) k else none
 | .c (.bl a),.c (.bl b)=>
  match op with
  | .eql=>if kd P t= .bool then k (.c (.bl (a==b)))else none
  | .neq=>if kd P t= .bool then k (.c (.bl (!(a==b))))else none
  |_=>none
 | .c (.st a),.c (.st b)=>
  match op with
  | .add=>(sapp a b).bind λs=>k (.c (.st s))
  |op=>okA (sm op a b) k
 | .g as,.g bs=>
  match AAh P t with
  |some ks=>
   if typed ks (lvs as)=true/\typed ks (lvs bs)=true then
    match op with
    | .eql=>k (.c (.bl (eqT as bs)))
    | .neq=>k (.c (.bl (!eqT as bs)))
    |_=>none
   else none
  |none=>none
 |_,_=>none
def unT(op:UnOp)(v:TV)(k:TV->Option R):Option R:=
 match v with
 | .c x=>okA (unV op x.one) k
 |_=>none
def AAn(P:Program)(H:Ap)(src dst:TypeId)(v:TV)(k:TV->Option R):Option R:=
 match v with
 | .c (.ls (.int .u8) l)=>if kd P dst= .str/\kd P src= .bytes then k (.c (.st (Ei l)))else none
 | .c (.own id ver (.int .u8) _)=>if kd P dst= .str/\kd P src= .bytes then(match fS H id ver (.int .u8)with|some l=>k (.c (.st (Ei l)))|none=>none)else none
 | .c (.it kk n)=>okA (Vv P [] src dst (.int kk n)) k
 | .c (.st s)=>okA (Vv P [] src dst (.str s)) k
 |_=>none
def jk(P:Program)(H:Ap)(s f:Nat)(v:TV)(k:TV->Option R):Option R:=
 match fI P s f with
 |some (off,_,n)=>
  match Nat.beq n 0 with
  |true=>none
  |false=>
   match v with
   | .c (.raw (.ptr id 0 o))=>match Vp H id with|some _=>k (.c (.raw (.ptr id 0 (o+off))))|none=>none
   | .vptr cs post=>match Vq cs off with|some (_,r)=>k (.vptr r post)|none=>none
   | .aptr id base n te i o=>match Vp H id with|some _=>k (.aptr id base n te i (o+off))|none=>none
   | .bptr id ver te n i o=>match fS H id ver te with|some _=>k (.bptr id ver te n i (o+off))|none=>none
   |_=>none
 |none=>none
def wZ(P:Program)(s f:Nat)(v:TV)(k:TV->Option R):Option R:=
 match fI P s f,v with
 |some (off,t,_),.g cs=>okT (part P t cs off) k
 |_,_=>none
def jp(P:Program)(H:Ap)(t:TypeId)(v i:TV)(k:TV->Option R):Option R:=
 match i with
 | .c (.it _ i)=>
  match eI P t with
  |some (some len,_,sz)=>
   match v with
   | .c (.raw (.ptr id 0 off))=>
    match Vp H id with
    |some cs=>
     match Vq cs off with
     |some (_,.ar n te a::_)=>if len=n+1/\sz=te.sz then(GA a i).bind λ_=>k (.aptr id off n te i 0)else none
     |_=>none
    |none=>none
   | .vptr (.ar n te a::r) post=>if len=n+1/\sz=te.sz then(GA a i).bind λe=>k (.vptr (te.lvs e) ((((Ty.arr n te).enc a).cells.drop (i.toNat*te.sz+te.sz))++(lvs r++post)))else none
   |_=>none
  |some (none,_,sz)=>
   match v with
   | .c (.ls te l)=>if sz=te.sz then(ix l i).bind λe=>k (.vptr (te.lvs e) [])else none
   | .c (.own id ver te n)=>match fS H id ver te with|some l=>(if sz=te.sz then(ix l i).bind λ_=>k (.bptr id ver te n i 0)else none)|none=>none
   |_=>none
  |none=>none
 |_=>none
def su(P:Program)(e:TypeId)(sz:Nat)(cs:List Bu)(i:Int)(k:TV->Option R):Nat->Nat->Option R
 |0,_=>none
 |m+1,j=>cond (decide (i=Int.ofNat j)) (okT (part P e cs (j*sz)) k) (su P e sz cs i k m (j+1))
def wg(P:Program)(t:TypeId)(v i:TV)(k:TV->Option R):Option R:=
 match i with
 | .c (.it _ i)=>
  match v with
  | .g [.ar n te a]=>
   match eI P t with
   |some (some len,e,sz)=>if len=n+1/\sz=te.sz then(GA a i).bind λx=>okT (part P e (te.lvs x) 0) k else none
   |_=>none
  | .g cs=>
   match eI P t with
   |some (some len,e,sz)=>match Nat.ble len 16 with|true=>su P e sz cs i k len 0|false=>none
   |_=>none
  | .c (.st s)=>if kd P t= .str then(six s i).bind λb=>k (.c (.it .u8 b))else none
  |_=>none
 |_=>none
def yw(d:Int):Option TV->Option Int
 |none=>some d
 |some (.c (.it _ n))=>some n
 |_=>none
def xT(P:Program)(t:TypeId)(v:TV)(lo hi mx:Option TV)(k:TV->Option R):Option R:=
 match mx with
 |some _=>none
 |none=>
  match v with
  | .c (.st s)=>
   match yw 0 lo,yw s.length hi with
   |some l,some h=>if kd P t= .str then(RF s l h).bind λx=>k (.c (.st x))else none
   |_,_=>none
  | .c (.ls te xs)=>
   match yw 0 lo,yw xs.length hi,eI P t with
   |some l,some h,some (none,_,sz)=>if sz=te.sz then(X8 xs l h).bind λx=>k (.c (.ls te x))else none
   |_,_,_=>none
  |_=>none
def AEx(P:Program)(H:Ap)(t:TypeId)(v:TV)(k:TV->Option R):Option R:=
 match P.underlying t,v with
 |some .string,.c (.st s)=>k (.c (.it .i64 s.length))
 |some (.array n _),_=>k (.c (.it .i64 n))
 |some (.slice _),.c (.ls _ l)=>k (.c (.it .i64 l.length))
 |some (.slice _),.c (.own id ver te n)=>match fS H id ver te with|some _=>k (.c (.it .i64 n))|none=>none
 |some (.slice _),.c .nil=>k (.c (.it .i64 0))
 |_,_=>none
def mmT(mx:Bool)(x y:TV)(k:TV->Option R):Option R:=
 match x,y with
 | .c (.it kx a),.c (.it _ b)=>k (.c (.it kx (if mx then(if b>a then b else a)else(if b<a then b else a))))
 |_,_=>none
def AEy(x y z:TV)(k:TV->Option R):Option R:=
 match x,y,z with
 | .c (.it kx a),.c (.it _ b),.c (.it _ c)=>k (.c (.it kx (if c<(if b<a then b else a)then c else(if b<a then b else a))))
 |_,_,_=>none
def TV.words:TV->Option (List Bu)
 | .c x=>match x.scalar&&x.one.solid with|true=>some [x]|false=>none
 | .g cs=>some cs
 |_=>none
mutual
def Ty.zlvs:(t:Ty)->List Bu
 | .bool=>[.bl false]
 | .int k=>[.it k 0]
 | .str=>[.st []]
 | .list _=>[.nil]
 | .arr n t=>[.ar n t (Hf.all t.zero)]
 | .prod ts=>ts.zlvs
def RJ.zlvs:RJ->List Bu
 | .one t=>t.zlvs
 | .cons t ts=>t.zlvs++ts.zlvs
end
mutual
def xY(P:Program):Nat->TypeId->Option Ty
 |0,_=>none
 |d+1,t=>
  match P.underlying t with
  |some .bool=>some .bool
  |some (.int k)=>some (.int k)
  |some .string=>some .str
  |some (.slice e)=>(xY P d e).map Ty.list
  |some (.array (n+1) e)=>(xY P d e).map (Ty.arr n)
  |some (.struct fs)=>(AEA P d fs.toList).map Ty.prod
  |_=>none
def AEA(P:Program):Nat->List Field->Option RJ
 |0,_=>none
 |_+1,[]=>none
 |d+1,[f]=>(xY P d f.type).map RJ.one
 |d+1,f::r=>match xY P d f.type,AEA P d r with|some t,some ts=>some (.cons t ts)|_,_=>none
end
def rp:AZ->Bu
 | .bool b=>.bl b
 | .int k n=>.it k n
 | .str s=>.st s
 |v=>.raw v
def qa(P:Program)(t:TypeId):Option (List Bu):=
 match XZ P t with
 |some z=>
  match xY P 1000 t with
  |some ty=>match AZ.beqL z (lvs ty.zlvs)with|true=>some ty.zlvs|false=>some (z.map rp)
  |none=>some (z.map rp)
 |none=>none
def zo(cs:List Bu)(off:Nat)(vs:List Bu)(n:Nat):Option (List Bu):=
 match Vq cs off with
 |some (a,r)=>match Vq r n with|some (_,b)=>some (a++(vs++b))|none=>none
 |none=>none
def AB9:List Bu->Nat
 |[]=>0
 |x::r=>x.w+AB9 r
def uy(p:YV):List Bu->List (Nat×TV)->Option (List Bu)
 |cs,[]=>some cs
 |cs,(i,v)::r=>
  match p.at_ i,v.words with
  |some (off,size),some ws=>
   match Nat.beq (AB9 ws) size with
   |true=>match zo cs off ws size with|some cs'=>uy p cs' r|none=>none
   |false=>none
  |_,_=>none
def wT(P:Program)(t:TypeId)(parts:List (Nat×TV)):Option TV:=
 match qa P t,qI P t with
 |some z,some p=>(uy p z parts).map TV.g
 |_,_=>none
def qJ:List TV->Option (List AZ)
 |[]=>some []
 | .c x::r=>match x.scalar,qJ r with|true,some l=>some (x.one::l)|_,_=>none
 |_=>none
def quT(P:Program)(env:Bd)(H:Ap)(op:Op)(k:TV->Option R):Option R:=
 match op with
 | .move x| .assign x=>k (Is env x)
 | .pick c a b=>match Is env c with| .c (.bl t)=>cond t (k (Is env a)) (k (Is env b))|_=>none
 | .load t a=>loadT P H t (Is env a) k
 | .nilCheck x=>
  match Is env x with
  | .c (.raw (.ptr id 0 off))=>match Vp H id with|some _=>k (.c (.raw (.ptr id 0 off)))|none=>none
  | .c (.raw (.fn (.func f) a b))=>k (.c (.raw (.fn (.func f) a b)))
  | .vptr cs post=>k (.vptr cs post)
  | .aptr id base n te i off=>match Vp H id with|some _=>k (.aptr id base n te i off)|none=>none
  | .bptr id ver te n i off=>match fS H id ver te with|some _=>k (.bptr id ver te n i off)|none=>none
  |_=>none
 | .binOp op t x y _=>AEe P op t (Is env x) (Is env y) k
 | .unOp op _ x=>unT op (Is env x) k
 | .convert s d x=>AAn P H s d (Is env x) k
 | .fieldAddr s x f=>jk P H s f (Is env x) k
 | .field s x f=>wZ P s f (Is env x) k
 | .indexAddr t x i=>jp P H t (Is env x) (Is env i) k
 | .index t x i=>wg P t (Is env x) (Is env i) k
 | .slice t x lo hi mx=>xT P t (Is env x) (lo.map (Is env)) (hi.map (Is env)) (mx.map (Is env)) k
 | .extract x i=>match Is env x with| .tup vs=>(match vs[i]? with|some v=>k v|none=>none)|_=>none
 | .makeFunc f a b=>match qJ (a.toList.map (Is env)),qJ (b.toList.map (Is env))with|some l,some m=>k (.c (.raw (.fn f l m)))|_,_=>none
 | .build t parts=>okT (wT P t (parts.toList.map λp=>(p.1,Is env p.2))) k
 | .call {callee:=.builtin .len,args:=⟨[x]⟩,argTypes:=⟨[t]⟩}=>AEx P H t (Is env x) k
 | .call {callee:=.builtin .max,args:=⟨[x,y]⟩,.. }=>mmT true (Is env x) (Is env y) k
 | .call {callee:=.builtin .min,args:=⟨[x,y]⟩,.. }=>mmT false (Is env x) (Is env y) k
 | .call {callee:=.builtin .min,args:=⟨[x,y,z]⟩,.. }=>AEy (Is env x) (Is env y) (Is env z) k
 |_=>none
end
end Go.Ab
