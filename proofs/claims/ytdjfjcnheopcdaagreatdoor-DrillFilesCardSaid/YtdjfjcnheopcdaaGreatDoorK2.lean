/- Texts of wip, joined and shortened by wip/tools/pack.py; nothing is assumed. -/
import Derived.Test.YtdjfjcnheopcdaaGreatDoorK1
import Derived.Laws.MakeOwn
import Derived.RangeFuncNested
import Derived.Lib.ConvBytes
import Derived.Laws.AppendOwn
noncomputable section
set_option linter.all false
namespace Go.Ab
variable {N n:Nat}{R J:Type}{o:Oper}{b V:TypeId}{d Z:List AY}{f W:Env}{c:Code}{g:Operand}{L:Array Bool}{H:Az}{j:World}{k:List Nat}{m:Option Nat}{p:FuncId}{i a:Int}{q:Array (Nat×Operand)}{r:Value}{s:AY}{t:Act}{P:Program}{y:Array Oper}{z:Exit->Act->World->Prop}{h:Gh}{B:Exit->Env->Az->Prop}{C:IntKind}{I:FU}{M:Nat→Prop}{O:List UInt8}{S:TypeDesc}{T:Op}{Y:Call}
section
variable {X:Nat->Prop} {h:Gh} {H:Az} {w:World} {N:Nat} {env env2:Env}
def Fv.trans{g:Nat}{l m n:Env}{i j k:Az}(a:Fv N g l i m j)(b:Fv N g m j n k):Fv N g l i n k:=⟨b.1,λX h d w s=>by obtain⟨o,u,e,r⟩:=a.2 X h d w s;obtain⟨p,v,f,t⟩:=b.2 X o d w u;exact⟨p,v,λid c=>⟨(f id c).1.trans (e id c).1,(f id c).2.1.trans (e id c).2.1,(f id c).2.2.trans (e id c).2.2⟩,λB q=>r B (t B q)⟩⟩
def Fv.of_le{n0 j:Nat}{e:Az}(a:Fv N j f H W e)(h:n0<=j):Fv N n0 f H W e:=⟨Cz h a.1,λX g b w s=>by obtain⟨l,n,k,m⟩:=a.2 X g b w s;exact⟨l,n,λid c=>k id (C7 c h),m⟩⟩
def Fv.virt{t sz:Nat}(n:env.get t= .nils):Fv N H.length env H (env.put t (.sl H.length 0 sz 0 0)) (H++[.live 0 []]):=by
 refine⟨k!,λX g d w s=>⟨g.at_ H.length none 0 0,⟨s.sim.virt,?_,s.size⟩,λid f=>by simp[Gh.at_,BZ f],λB l=>?_⟩⟩;have r:(t,AY.nils)∈env:=by rcases N8 (env:=env) (t:=t)with e|m;rw[n]at e;cases e;rw[n]at m;exact m
 have x:=Ha.virt (h:=g) (H:=H) (w:=w);have a:=s.env.later (x.later X);intro u v m;unfold Env.put at m;rcases A8.1 m with e|m;injection e with o p;subst o p;obtain⟨q,k⟩:=s.env _ _ r;refine⟨q,?_⟩;generalize d.tmps.getD u undef=c at k;cases k;exact .sl (by simp[cx]) (by simp[cx,Gh.at_]) ⟨_,_,rfl⟩ λ_=>.inl ⟨by simp[cx,Gh.at_],rfl,rfl,rfl⟩;exact a u v (Bk.1 m).1;rcases(Ha.virt (h:=g) (H:=H) (w:=w)).fresh B l with h|h;exact h;obtain⟨id,e,a,j,b⟩:=l;rcases Iv a with⟨i,a⟩|⟨rfl,rfl⟩;exact⟨id,e,a,j,by simpa[Gh.at_,BZ i]using b⟩;simp[Gh.at_]at b
end
def ABC(sz:Nat)(cs:List AY)(rows:List AY):Prop:=0<sz/\(∀e∈rows,e.cells.length=sz)/\rows.flatMap AY.cells=cs
theorem oV{sz:Nat}: ∀{a:List AY},(∀e∈a,e.cells.length=sz)-> ∀(j:Nat) (e:AY) (i:Nat) (v:AY),a[j]? =some e->e.cells[i]? =some v->(a.flatMap AY.cells)[j*sz+i]? =some v
 |e0::r,h,j,e,i,v,hj,hi=>by
  have b:=h e0 k!;simp;cases j with
  |zero=>grind
  |succ j=>rw[Cb q!,b,show(j+1)*sz+i-sz=j*sz+i from by grind];exact oV (λe c=>h e (CQ _ c)) j e i v q! hi
def Bp.froze{id g sz n:Nat}{y:Cx}(s:JN M h H j)(P:H[id]? =some (FU.live g d))(hr:ABC sz d Z)(hn:Z.length=n)
  (R:(cx M h H j).Later y) (I:y.w=j) (a: ∀B,h.io id=some B-> ¬y.O B) (F:Bp (cx M h H j) (.sl id g sz 0 n) r):Bp y (.vs sz Z) r:=by
 obtain⟨x,k,rfl⟩:=hr;obtain⟨t,o⟩:=s.live id g _ P;cases F with
 |sl p q Y N=>
  rcases N t with⟨w,U,_,rfl⟩|⟨B,cap,w,m,C,rfl⟩;have:Z=[]:=EL o!;subst this;exact Bp.vs (rows:=[]) (cap:=0) (λ_ _=>undef) (Am _) x (λ_ _ h=>by simp at h) (λh=>(h rfl).elim) λ_ _ _ _ h=>by simp at h
  rcases o with⟨E,_⟩|⟨z,J,T,W,f,l,G,A,S,Q,b⟩;rw[E]at w;cases w;have:z=B:=by rw[w]at l;injection l with e;exact e.symm
  subst this;subst hn;refine .vs (λX i=>f (X*sz+i)) m x (λX e u=>k e (BU u)) (λV=>⟨z,0,rfl,a z w,?_,λX e i v u D=>?_⟩) λX e i v u D=>?_;rw[I];exact Pj G;obtain⟨K,L,_⟩:=b _ v (oV k X e i v u D);rw[D7,I,P5 (w:=j) G];exact⟨K,L⟩;exact(b _ v (oV k X e i v u D)).2.2.later R
section
variable {X:Nat->Prop} {h:Gh} {H:Az} {w:World}
theorem eW(b:(H.take N)[n]? =some I):n<N/\H[n]? =some I:=q!
def iX{n0 B:Nat}(d:owned h (H.take n0) B):owned h H B:=by obtain⟨id,e,c,b,a⟩:=d;exact⟨id,e,(eW c).2,b,a⟩
def Bp.trunc(hn:N<=H.length)(a:Bp (cx X h H w) s r)(d:(s.idsAll λid=>decide (id<N))=true):Bp (cx X h (H.take N) w) s r:=by have:=Bp.ren (x:=cx X h H w) (y:=cx X h (H.take N) w) (ρ:=λi=>i) (p:=λid=>decide (id<N)) (λi e _=>⟨by simp[cx]at*;omega,rfl,rfl,rfl⟩) rfl (λB b=>by rcases b with b|b;exact .inl b;exact .inr (iX b)) a d;rwa [AAt (p:=λid=>decide (id<N)) (λ_ _=>rfl) s d]at this
theorem JN.trunc(s:JN X h H w)(hn:N<=H.length)(E: ∀e∈H.take N,(e.idsAll λid=>decide (id<N))=true):JN X h (H.take N) w:=by refine⟨λB D=>⟨(s.out B D).1,λO=>(s.out B D).2 (iX O)⟩,λid g G c=>?_,λid L c=>?_,λid A e I B i k=>s.inj id A e I B (eW i).2 (eW k).2,s.bldKeep λid e c _=>⟨(eW c).2,rfl,rfl,rfl,λ_ _ _ _ _=>rfl⟩⟩;obtain⟨x,n⟩:=s.live id g G (eW c).2;refine⟨x,?_⟩;rcases n with⟨z,rfl⟩|⟨B,p,T,J,f,d,a,l,y,u,b⟩;exact .inl ⟨z,rfl⟩;refine .inr ⟨B,p,T,J,f,d,a,l,y,u,λj v F=>?_⟩;obtain⟨i,k,q⟩:=b j v F;exact⟨i,k,q.trunc hn (M0 (by simpa[FU.idsAll]using E _ (BU c)) F)⟩;obtain⟨x,B,r,d,a,i,k,q,K,M,o,C⟩:=s.lp id L (eW c).2;refine⟨x,B,r,d,a,i,k,q,K,M,o,λt v m=>⟨(C t v m).1,(C t v m).2.trunc hn ?_⟩⟩;have P:=E _ (BU c);grind[FU.idsAll]
end
def IH:List Oper->List Nat->List Nat
 |[],acc=>acc
 |o::r,acc=>IH r (acc++[o.after.toList.foldl (λs e=>if Region.binds .any e=true then s|||2^e.on|||acc.getD e.on 0 else s) 0])
def Pf(m:List Nat)(i j:Nat):Bool:=(m.getD j 0).testBit i
def vo{b:List Nat}{i:Nat}: ∀(l:List Edge) (s:Nat),(l.foldl (λs e=>if Region.binds .any e=true then s|||2^e.on|||b.getD e.on 0 else s) s).testBit i=true→
  s.testBit i=true\/ ∃e∈l,Region.binds .any e=true/\(e.on=i\/(b.getD e.on 0).testBit i=true)
 |[],s,h=>.inl h
 |e::l,s,h=>by simp only[lT]at h;rcases vo l _ h with a|⟨f,d,c,g⟩;split at a;rename_i c;simp only[Nat.testBit_or,YJ,Nat.testBit_two_pow]at a;rcases a with(a|a)|a;exact .inl a;exact .inr ⟨e,k!,c,.inl (by simpa using a)⟩;exact .inr ⟨e,k!,c,.inr a⟩;exact .inl a;exact .inr ⟨f,CQ _ d,c,g⟩
theorem YQ: ∀(l:List Oper) (a:List Nat),(∀k,k<a.length→(IH l a)[k]? =a[k]?)∧
  ∀(p i:Nat) (o:Oper),l[p]? =some o->Pf (IH l a) i (a.length+p)=true-> ∃e∈o.after.toList,Region.binds .any e=true/\(e.on=i\/(e.on<a.length+p/\Pf (IH l a) i e.on=true))
 |[],a=>⟨λ_ _=>rfl,λp i o h=>by simp at h⟩
 |o::l,a=>by
  simp only[IH];generalize g:o.after.toList.foldl (λs e=>if Region.binds .any e=true then s|||2^e.on|||a.getD e.on 0 else s) 0=x;obtain⟨m,c⟩:=YQ l (a++[x]);refine⟨λk r=>?_,λp i j t b=>?_⟩;grind;cases p with
  |zero=>
   have f:(IH l (a++[x])).getD a.length 0=x:=q!
   simp only[Pf,Qy]at b;rw[f,<-g]at b;rcases vo _ _ b with d|⟨e,q,n,d⟩;grind;grind[Pf]
  |succ p=>have:=c p i j q! q!;rw[show(a++[x]).length+p=a.length+(p+1)from by simp;omega]at this;exact this
section
variable {ops:Array Oper}
def wY(ops:Array Oper)(L:Array Bool):Prop:= ∀(j:Nat) (o:Oper),ops[j]? =some o->L.getD j false=true-> ∀e∈o.after,Region.binds .any e=true->L.getD e.on false=true
def eS{L:Array Bool}(k:wY ops L){i:Nat}: ∀(n j:Nat) (o:Oper),j<n->ops[j]? =some o->(∀e∈o.after,Region.binds .any e=true->L.getD e.on false=true)->Pf (IH ops.toList []) i j=true->L.getD i false=true
 |0,_,_,h,_,_,_=>o!
 |n+1,j,o,hj,ho,hp,hm=>by
  obtain⟨e,r,q,h⟩:=(YQ ops.toList []).2 j i o (by simpa using ho) (by simpa using hm);have a:=hp e (by simpa using r) q;rcases h with rfl|⟨g,c⟩;exact a;have l:e.on<j:=by simpa using g
  cases b:ops[e.on]? with
  |none=>have:Pf (IH ops.toList []) i e.on=true:=c;obtain⟨s,_⟩:=cE.1 ho;rw[yJ]at b;omega
  |some m=>exact eS k n e.on m o! b (λp f d=>k e.on m b a p f d) c
def tmpsOf(o:Oper):List Nat:=o.op.operands.toList.filterMap λ| .tmp t=>some t|_=>none
def mX(P:Program)(N:Nat)(o:Oper)(env:Env)(H:Az)(rd:List Nat)(v:AY):Prop:=
 ∀(env':Env) (H':Az),(∀t∈tmpsOf o,env'.get t=env.get t)->(∀id∈rd,H'[id]? =H[id]?)->JM P N o env' H' λu H''=>u=v/\H''=H'
def Eff(P:Program)(N:Nat)(o:Oper)(env:Env)(H:Az)(F:List Nat)(K:AY->Az->Prop):Prop:=
 (∀env':Env,(∀t∈tmpsOf o,env'.get t=env.get t)->JM P N o env' H K)/\ ∀v H',K v H'-> ∀id,id<H.length->id∉F->H'[id]? =H[id]?
def H9(ops:Array Oper)(j:Nat):Bool:=
 match ops[j]? with
 |some o=>match o.op with| .alloc _=>true|_=>false
 |none=>false
def RA(P:Program)(N:Nat)(ops:Array Oper):List Nat->List (Nat×List Nat)->Env->Az->(Env->Az->Prop)->Prop
 |[],_,env,H,Q=>Q env H
 |i::r,pend,env,H,Q=>
  match ops[i]? with
  |none=>False
  |some o=>
   YW ops o.guard env
    ((H9 ops i=false/\ ∃v rd,mX P N o env H rd v/\(∀id∈rd,id<H.length)/\RA P N ops r ((i,rd)::pend) (env.putO o.dst v) H Q)\/
     (H9 ops i=false/\ ∃F,(∀j∈r,Pf (IH ops.toList []) i j=true\/H9 ops j=true)/\(∀p∈pend,Pf (IH ops.toList []) p.1 i=true\/ ∀id∈p.2,id∉F)/\
      ∃K,Eff P N o env H F K/\(∀v H',K v H'->H.length<=H'.length)/\ ∀v H',K v H'->RA P N ops r pend (env.putO o.dst v) H' Q)\/
     ∃t z,o.op= .alloc t/\ZN P t=some z/\(∀j∈r,Pf (IH ops.toList []) i j=true\/H9 ops j=true)/\RA P N ops r pend (env.putO o.dst (.ptr H.length 0 0)) (H++[.live 0 z]) Q)
    (H9 ops i=false/\RA P N ops r ((i,[])::pend) (env.putO o.dst (.tup [])) H Q)
def We(P:Program)(ops:Array Oper):Bool:=ops.toList.all λo=>match o.op with| .alloc t=>(ZN P t).isSome&&o.guard.isNone|_=>true
def Vz(ops:Array Oper)(i:Nat):Option Nat:=(ops[i]?).bind (·.dst)
def ABp(ops:Array Oper)(N:Nat)(l:List Nat):Bool:=
 let m:=IH ops.toList []
 let n:=ops.size
 PH N ops.toList&&
 (decide l.Nodup&&((List.range n).all λi=>l.contains i)&&l.all (λi=>decide (i<n)))&&
 ((List.range n).all λi=>match ops[i]? with
  |some o=>(o.after.toList.all λe=>!Region.binds .any e||decide (e.on<i))&&
    (match o.guard with|some (j,_)=>Pf m j i&&decide (j<n)&&(Vz ops j).isSome|none=>true)&&
    (match o.dst with
     |some d=>(List.range n).all λj=>decide (j=i)||(match ops[j]? with
       |some o'=>!decide (o'.dst=some d)&&(!(tmpsOf o').contains d||Pf m i j||Pf m j i)
       |none=>true)
     |none=>true)
  |none=>true)&&
 (l.zipIdx.all λ(i,p)=>l.zipIdx.all λ(j,q)=>!decide (p<q)|| !Pf m j i)
theorem Fx(env:Env)(t u:Nat)(v:AY):(env.put t v).get u=if u=t then v else env.get u:=by unfold Env.put;simp only[Env.get];by_cases h:t=u;grind;rw[if_neg h,if_neg (λe=>h e.symm)];induction env<;>grind[Env.get]
def KN(env:Env):Prop:= ∀t v,(t,v)∈env->env.get t=v
theorem KN.put(h:KN f)(t:Nat)(v:AY):KN (f.put t v):=by
 intro u x m;rw[Fx];rcases A8.1 m with e|m;grind;obtain⟨a,b⟩:=Bk.1 m;have:u≠t:=q!
 rw[if_neg this];exact h u x a
def KN.putO(h:KN f)(t:Option Nat)(v:AY):KN (f.putO t v):=by
 cases t with
 |none=>exact h
 |some t=>exact h.put t v
theorem dV: ∀{env:Env},(env.map (·.1)).Nodup->KN env
 |[],_=>λ_ _ h=>by cases h
 |(k,w)::r,h=>by
  simp at h;intro t v m;simp only[Env.get];rcases A8.1 m with e|m;grind;have:k≠t:=q!
  rw[if_neg this];exact dV h.2 t v m
end
structure Xb(ops:Array Oper)(N:Nat)(l:List Nat):Prop where
 dsts:PH N ops.toList=true
 nodup:l.Nodup
 all: ∀i,i<ops.size->i∈l
 lt: ∀i∈l,i<ops.size
 back: ∀(i:Nat) (o:Oper),ops[i]? =some o-> ∀e∈o.after,Region.binds .any e=true->e.on<i
 guard: ∀(i:Nat) (o:Oper) (j:Nat) (b:Bool),ops[i]? =some o->o.guard=some (j,b)->Pf (IH ops.toList []) j i=true/\j<ops.size/\ ∃d,Vz ops j=some d
 uniq: ∀(i j d:Nat),Vz ops i=some d->Vz ops j=some d->i=j
 haz: ∀(i j d:Nat) (o:Oper),Vz ops i=some d->ops[j]? =some o->d∈tmpsOf o->i≠j->Pf (IH ops.toList []) i j=true\/Pf (IH ops.toList []) j i=true
 ord: ∀(l1 l2:List Nat),l=l1++l2-> ∀i∈l1,∀j∈l2,Pf (IH ops.toList []) j i=false
theorem Yk(h:Vz y N=some n): ∃o,y[N]? =some o/\o.dst=some n:=by grind[Vz]
theorem WZ{i:Nat}(h:y[i]? =some o):i<y.size:=q!
theorem AAs(h:ABp y N k=true):Xb y N k:=by
 unfold ABp at h;simp only[BO]at h;obtain⟨⟨⟨x,⟨l,M⟩,z⟩,A⟩,B⟩:=h;have a: ∀(i:Nat) (o:Oper),y[i]? =some o->_:=λi o f=>by have:=Fq.1 A i (Hj.2 (WZ f));rw[f]at this;simp only[BO]at this;exact this
 refine⟨x,by simpa using l,λi c=>?_,λi c=>by simpa using List.all_eq_true.1 z i c,λi o f e E C=>?_,λi o j b f F=>?_,λi j d c g=>?_,λi j d o c g n G=>?_,λl1 l2 w i c j g=>?_⟩;simp_all;have:=Fq.1 (a i o f).1.1 e (by simpa using E);simpa[C]using this;have:=(a i o f).1.2;rw[F]at this;simp only[BO,decide_eq_true_eq]at this;exact⟨this.1.1,this.1.2,fK.1 this.2⟩;obtain⟨o,f,n⟩:=Yk c;obtain⟨O,m,r⟩:=Yk g;have:=(a i o f).2;rw[n]at this;have:=Fq.1 this j (Hj.2 (WZ m));rw[m]at this;simp only[r,decide_true,Cg,pQ,Bool.or_false,decide_eq_true_eq]at this;exact this.symm;obtain⟨L,u,s⟩:=Yk c;have:=(a i L u).2;rw[s]at this;have:=Fq.1 this j (Hj.2 (WZ g));rw[g]at this;have D:(tmpsOf o).contains d=true:=by simpa using n
 simp only[D,Cg,Bool.false_or,YJ,decide_eq_true_eq,BO]at this;rcases this with h|⟨_,h⟩;omega;exact h;obtain⟨p,H⟩:=Di c;obtain⟨q,I⟩:=Di g;have v:p<l1.length:=q!
 have J:(i,p)∈k.zipIdx:=by rw[sq];rw[w,CL v];exact H
 have K:(j,l1.length+q)∈k.zipIdx:=by rw[sq];rw[w,Cb o!];simpa using I
 have:=Fq.1 (Fq.1 B _ J) _ K;have t:p<l1.length+q:=o!
 simpa[t]using this
section
variable {P:Program} {N:Nat} {ops:Array Oper} {l:List Nat} {Q:Env->Az->Prop} {env0:Env} {X:Nat->Prop} {h0:Gh} {H0:Az} {w0:World} {ds0:List Deferred}
def Opd(ops:Array Oper)(env0:Env)(v:Nat->AY)(i:Nat)(o:Oper)(ei:Env):Prop:=
 ∀t∈tmpsOf o,(∀k,k≠i->Vz ops k=some t->Pf (IH ops.toList []) k i=true->ei.get t=v k)/\
  ((∀k,k≠i->Vz ops k=some t->Pf (IH ops.toList []) k i=false)->ei.get t=env0.get t)
def Ut(v:Nat->AY)(o:Oper)(r:Bool):Prop:=
 match o.guard with
 |none=>r=true
 |some (j,want)=>(∃b,v j= .bool b/\r=(b==want))\/(v j= .tup []/\r=false)
def XR(X:Nat->Prop)(early:Nat->Option Nat)(B:Nat):Prop:=X B\/ ∃i,early i=some B
structure Inv(P:Program)(N:Nat)(ops:Array Oper)(l:List Nat)(Q:Env→Az→Prop)(env0:Env)(X:Nat→Prop)(h0:Gh)(H0:Az)(w0:World)(ds0:List Deferred)
  (l1 l2:List Nat) (v:Nat->AY) (pend:List (Nat×List Nat)) (env:Env) (H:Az) (h:Gh) (early:Nat->Option Nat) (L:Array Bool) (a:Act) (w:World):Prop where
 split:l=l1++l2
 ra:RA P N ops l2 pend env H Q
 kn:KN env
 keys: ∀t u,(t,u)∈env->t<N
 env1: ∀k∈l1,∀t,Vz ops k=some t->env.get t=v k
 env2: ∀t,(∀k∈l1,Vz ops k≠some t)->env.get t=env0.get t
 sim:JN (XR X early) h H w
 nodefer:a.defers=ds0
 size:a.tmps.size=N
 slot1: ∀k t,L.getD k false=true->early k=none->Vz ops k=some t->Bp (cx (XR X early) h H w) (v k) (a.tmps.getD t undef)
 slot2: ∀t,(∀k,L.getD k false=true->Vz ops k≠some t)->Bp (cx (XR X early) h H w) (env0.get t) (a.tmps.getD t undef)
 sub: ∀i,L.getD i false=true->early i=none->i∈l1
 lsz:L.size=ops.size
 closed:wY ops L
 pendq: ∀i∈l1,L.getD i false=false-> ∃o,ops[i]? =some o/\H9 ops i=false/\((Ut v o false/\v i= .tup [])\/
  (Ut v o true/\ ∃rd ei,(i,rd)∈pend/\(∀id∈rd,id<H.length)/\KN ei/\(∀t u,(t,u)∈ei->t<N)/\Opd ops env0 v i o ei/\mX P N o ei H rd (v i)))
 ext:Ha h0 H0 w0 h H w
 early1: ∀i B,early i=some B->i∈l2/\L.getD i false=true/\w0.heap.size<=B/\B<w.heap.size/\ ∃(o:Oper) (t:TypeId) (z:List AY) (arr:Array Value),ops[i]? =some o/\o.op= .alloc t/\ZN P t=some z/\
  w.heap[B]? =some (.cells arr t (0,0))/\Bp (cx (XR X early) h H w) (.agg z) (.agg arr)/\ ∀d,o.dst=some d->a.tmps.getD d undef= .pointer (some ⟨B,0,none⟩)
 early2: ∀i j B,early i=some B->early j=some B->i=j
def look(o:Oper)(ei:Env):Env:=ei.filter λp=>(tmpsOf o).contains p.1
theorem zC(o:Oper)(a:Env): ∀t∈tmpsOf o,(look o a).get t=a.get t:=by unfold look;induction a<;>grind[Env.get]
variable {l1 l2:List Nat} {v:Nat->AY} {pend:List (Nat×List Nat)} {env:Env} {H:Az} {h:Gh} {early:Nat->Option Nat} {L:Array Bool} {a:Act} {w:World}
def Inv.opd(ok:Xb ops N l)(I:Inv P N ops l Q env0 X h0 H0 w0 ds0 l1 l2 v pend env H h early L a w)(m:l2=n::k)(s:ops[n]? =some o):Opd ops env0 v n o env:=by
 intro t u;have i:n∉l1:=by intro b;have:=ok.nodup;rw[I.split,m]at this;exact(Qw.1 this).2.2 n b n k! rfl
 refine⟨λr q c g=>?_,λp=>?_⟩;refine I.env1 r ?_ t c;obtain⟨x,f,_⟩:=Yk c;have b:=ok.all r (WZ f);rw[I.split,A1]at b;rcases b with b|b;exact b;rw[m]at b;rcases A8.1 b with e|b;exact(q e).elim;have:=ok.ord (l1++[n]) k (by rw[I.split,m];simp) n k! r b;rw[g]at this;cases this;refine I.env2 t λr b c=>?_;have d:r≠n:=λe=>i (e▸b);rcases ok.haz r n t o c s u d with j|j;rw[p r d c]at j;cases j;have:=ok.ord l1 l2 I.split r b n (by rw[m];simp);rw[j]at this;cases this
def Inv.look(ok:Xb ops N l)(I:Inv P N ops l Q env0 X h0 H0 w0 ds0 l1 l2 v pend env H h early L a w)(y:ops[n]? =some o)(p:L.getD n false=false)
  (J: ∀e∈o.after,Region.binds .any e=true->L.getD e.on false=true) (x: ∀k,Pf (IH ops.toList []) k n=true->early k=none)  (kn:KN f) (G: ∀t u,(t,u)∈f->t<N) (i:Opd ops env0 v n o f):Oz (cx (XR X early) h H w) (look o f) a:=by
 intro t u m;obtain⟨B,K⟩:=Bk.1 m;have z:t∈tmpsOf o:=by simpa using K
 refine⟨by rw[I.size];exact G t u B,?_⟩;rw[<-kn t u B];obtain⟨D,E⟩:=i t z;by_cases A: ∃k,k≠n/\Vz ops k=some t/\Pf (IH ops.toList []) k n=true;obtain⟨k,b,d,c⟩:=A;rw[D k b d c];exact I.slot1 k t (eS I.closed (n+1) n o o! y J c) (x k c) d;have g: ∀k,k≠n->Vz ops k=some t->Pf (IH ops.toList []) k n=false:=by
  intro k b d;cases s:Pf (IH ops.toList []) k n with
  |false=>rfl
  |true=>exact(A ⟨k,b,d,s⟩).elim
 rw[E g];refine I.slot2 t λk q d=>?_;by_cases b:k=n;subst b;rw[p]at q;cases q;rcases ok.haz k n t o d y z b with r|r;rw[g k b d]at r;cases r;obtain⟨C,j,_⟩:=Yk d;have:=eS I.closed (k+1) k C o! j (λe F s=>I.closed k C j q e F s) r;rw[p]at this;cases this
theorem Inv.wanted(ok:Xb ops N l)(I:Inv P N ops l Q env0 X h0 H0 w0 ds0 l1 l2 v pend env H h early L a w)(z:ops[n]? =some o)(t: ∀k,Pf (IH ops.toList []) k n=true→early k=none)
  (D: ∀e∈o.after,Region.binds .any e=true->L.getD e.on false=true) {r:Bool} (x:Ut v o r):Region.wanted o (yielded ops a.tmps)=r:=by
 unfold Ut at x;unfold Region.wanted;cases y:o.guard with
 |none=>grind
 |some p=>
  obtain⟨j,i⟩:=p;rw[y]at x;obtain⟨f,G,d,q⟩:=ok.guard n o j i z y;have s:=eS I.closed (n+1) n o o! z D f;have hr:=I.slot1 j d s (t j f) q;have B:d<a.tmps.size:=by obtain⟨F,C,A⟩:=Yk q;have:=Fq.1 ok.dsts F q!;grind[I.size]
  rcases x with⟨b,u,rfl⟩|⟨u,rfl⟩
  case inr=>
   rw[u]at hr;obtain⟨m,g⟩: ∃m,a.tmps.getD d undef= .tuple m:=by generalize a.tmps.getD d undef=c at hr;cases hr;grind
   have E:yielded ops a.tmps j=none:=by unfold yielded;rw[show(ops[j]?).bind (·.dst)=some d from q];simp_all
   grind
  rw[u]at hr;have g:a.tmps.getD d undef= .bool b:=by generalize a.tmps.getD d undef=c at hr;cases hr;rfl
  have E:yielded ops a.tmps j=some b:=by unfold yielded;rw[show(ops[j]?).bind (·.dst)=some d from q];simp_all
  grind
def Inv.noEarly(ok:Xb ops N l)(I:Inv P N ops l Q env0 X h0 H0 w0 ds0 l1 l2 v pend env H h early L a w)(d:n∈l1\/ ∃r,l2=n::r): ∀k,Pf (IH ops.toList []) k n=true->k≠n->early k=none:=by
 intro k c f;cases g:early k with
 |none=>rfl
 |some B=>have b:=(I.early1 k B g).1;rcases d with d|⟨r,rfl⟩;have:=ok.ord l1 l2 I.split n d k b;rw[c]at this;cases this;rcases A8.1 b with e|b;exact(f e).elim;have:=ok.ord (l1++[n]) r (by rw[I.split];simp) n k! k b;rw[c]at this;cases this
theorem G2{i:Nat}(a:i<L.size)(j:Nat):(L.setIfInBounds i true).getD j false=if j=i then true else L.getD j false:=by rw[Q2,Q2];grind
theorem TG(b: ∀a,m=some a->a<t.tmps.size)(a:Nat):(t.put m r).tmps.getD a undef=if m=some a then r else t.tmps.getD a undef:=by
 cases m with
 |none=>simp[Act.put]
 |some m=>simp only[Act.put];rw[Q2,Q2];grind
theorem nI(f:wY ops L)(h:N<L.size)(l:ops[N]? =some o)(m: ∀e∈o.after,Region.binds .any e=true->L.getD e.on false=true):wY ops (L.setIfInBounds N true):=by intro j k c a e g d;rw[G2 h]at a⊢;by_cases b:j=N;grind;rw[if_neg b]at a;rw[f j k c a e g d];simp
end
section
variable {P:Program} {N:Nat} {ops:Array Oper} {l:List Nat} {Q:Env->Az->Prop} {env0:Env} {X:Nat->Prop} {h0:Gh} {H0:Az} {w0:World} {ds0:List Deferred}
variable {l1 l2:List Nat} {v:Nat->AY} {pend:List (Nat×List Nat)} {env:Env} {H:Az} {h:Gh} {early:Nat->Option Nat} {L:Array Bool} {a:Act} {w:World}
theorem qC(ok:Xb ops N l)(a:ops[n]? =some o): ∀t,o.dst=some t->t<N:=by have:=Fq.1 ok.dsts o q!;grind
theorem Fm(a:ops[N]? =some o):Vz ops N=o.dst:=by grind[Vz]
def Inv.done(ok:Xb ops N l)(I:Inv P N ops l Q env0 X h0 H0 w0 ds0 l1 l2 v pend env H h early L a w){i:Nat}(p:ops[i]? =some o)(C:i∈l1)(ad:L.getD i false=false)
  (hp: ∀e∈o.after,Region.binds .any e=true->L.getD e.on false=true)  {A:Gh}  (sim:JN (XR X early) A H j) (x:Ha h H w A H j) (hv:Bp (cx (XR X early) A H j) (v i) r):
  Inv P N ops l Q env0 X h0 H0 w0 ds0 l1 l2 v pend env H A early (L.setIfInBounds i true) (a.put o.dst r) j:=by
 have n:i<L.size:=by rw[I.lsz];exact WZ p
 have F: ∀t,o.dst=some t->t<a.tmps.size:=λt ht=>by rw[I.size];exact qC ok p t ht
 have O:=x.later (XR X early);have s:i∉l2:=by intro hm;have:=ok.nodup;rw[I.split]at this;exact(Qw.1 this).2.2 i C i hm rfl
 refine{split:=I.split,ra:=I.ra,kn:=I.kn,keys:=I.keys,env1:=I.env1,env2:=I.env2,sim:=sim,nodefer:=?_,size:=(eU _ _ _).trans I.size,slot1:=λk t m M f=>?_,slot2:=λt y=>?_,sub:=λc G J=>?_,lsz:=by rw[pM];exact I.lsz,closed:=nI I.closed n p hp,pendq:=λk K g=>?_,ext:=I.ext.trans x,early1:=λk B m=>?_,early2:=I.early2};rw[show(a.put o.dst r).defers=a.defers by cases o.dst<;>rfl];exact I.nodefer;rw[TG F];rw[G2 n]at m;by_cases b:k=i;subst b;rw[Fm p]at f;rw[if_pos f];exact hv;rw[if_neg b]at m;rw[if_neg (λe=>b (ok.uniq k i t f (by rw[Fm p];exact e)))];exact(I.slot1 k t m M f).later O;rw[TG F];have R:o.dst≠some t:=by have:=y i (by rw[G2 n,if_pos rfl]);rwa [Fm p]at this
 rw[if_neg R];refine(I.slot2 t λk m=>y k ?_).later O;rw[G2 n];split;rfl;exact m;rw[G2 n]at G;by_cases u:c=i;subst u;exact C;rw[if_neg u]at G;exact I.sub c G J;rw[G2 n]at g;by_cases b:k=i;subst b;simp at g;rw[if_neg b]at g;exact I.pendq k K g;obtain⟨S,V,W,T,o',t,z,D,U,Y,Z,e8,e9,E⟩:=I.early1 k B m;have b:k≠i:=λe=>s (e▸S);refine⟨S,by rw[G2 n,if_neg b];exact V,W,C7 T x.size,o',t,z,D,U,Y,Z,?_,e9.later O,λd q=>?_⟩;exact(x.keep B T (I.sim.out B (.inr ⟨k,m⟩)).2).trans e8;rw[TG F,if_neg (λe=>b (ok.uniq k i d (by rw[Fm U];exact q) (by rw[Fm p];exact e)))];exact E d q
def Inv.next(ok:Xb ops N l)(I:Inv P N ops l Q env0 X h0 H0 w0 ds0 l1 l2 v pend env H h early L a w){i:Nat}(hl:l2=i::k)(V:ops[i]? =some o){pend':List (Nat×List Nat)}
  (G:H9 ops i=false) (bd:RA P N ops k pend' (env.putO o.dst s) H Q) (bb: ∀p∈pend,p∈pend')
  (hq:(Ut v o false/\s= .tup [])\/(Ut v o true/\ ∃rd,(i,rd)∈pend'/\(∀id∈rd,id<H.length)/\mX P N o env H rd s)):
  ∃T,Inv P N ops l Q env0 X h0 H0 w0 ds0 (l1++[i]) k T pend' (env.putO o.dst s) H h early L a w:=by
 have a0:=I.opd ok hl V;have ar:=ok.nodup;rw[I.split,hl]at ar;have Z:i∉l1:=λhm=>(Qw.1 ar).2.2 i hm i k! rfl;have ao:early i=none:=by
  cases he:early i with
  |none=>rfl
  |some B=>obtain⟨_,_,_,_,o',t,z,bt,e5,e6,_⟩:=I.early1 i B he;unfold H9 at G;rw[e5]at G;simp only[e6]at G;cases G
 have bm:L.getD i false=false:=by
  cases R:L.getD i false with
  |false=>rfl
  |true=>exact(Z (I.sub i R ao)).elim
 let T:Nat->AY:=λu=>if u=i then s else v u;have F: ∀u,u≠i->T u=v u:=λu g=>by simp[T,g]
 have a1:T i=s:=by simp[T]
 have U: ∀t,(env.putO o.dst s).get t=if o.dst=some t then s else env.get t:=by
  intro t;cases o.dst with
  |none=>simp[Env.putO]
  |some d=>simp only[Env.putO,Fx,Al];by_cases h:d=t;subst h;simp;rw[if_neg h,if_neg (λe=>h e.symm)]
 have ag:Pf (IH ops.toList []) i i=true->False:=by
  intro R;obtain⟨e,he,bz,K⟩:=(YQ ops.toList []).2 i i o (by simpa using V) (by simpa using R);have al: ∀(n j u:Nat),j<n->Pf (IH ops.toList []) u j=true->u<j:=by
   intro n;induction n with
   |zero=>intro j u h;omega
   |succ n ih=>
    intro j u hj R;cases ad:ops[j]? with
    |none=>
     have bl:ops.size<=j:=yJ.1 ad;have ap: ∀(l:List Oper) (O:List Nat),(IH l O).length=O.length+l.length:=by
      intro l;induction l with
      |nil=>intro O;rfl
      |cons o l ih=>intro O;simp only[IH,ih];simp;omega
     have:(IH ops.toList []).getD j 0=0:=by rw[Ra,Cc (by rw[ap];simpa using bl)];rfl
     unfold Pf at R;rw[this]at R;simp at R
    |some oj=>obtain⟨e,he,a3,A⟩:=(YQ ops.toList []).2 j u oj (by simpa using ad) (by simpa using R);have bG:=ok.back j oj ad e (by simpa using he) a3;rcases A with A|⟨A,h3⟩;omega;have:=ih e.on u o! h3;omega
  have:=al (i+1) i i o! R;omega
 have a2: ∀{u:Nat} {y:Oper} {ei:Env},u∈l1->ops[u]? =some y->Opd ops env0 v u y ei->Opd ops env0 T u y ei:=by intro u y ei a5 S a' t ht;obtain⟨c1,c2⟩:=a' t ht;refine⟨λq hq M C=>?_,c2⟩;rw[c1 q hq M C,F];rintro rfl;have:=ok.ord l1 l2 I.split u a5 q (by rw[hl];simp);rw[C]at this;cases this
 have f: ∀{o':Oper} {b:Bool},(∀j c,o'.guard=some (j,c)->j≠i)->Ut v o' b->Ut T o' b:=by
  intro o' b a9 hw;unfold Ut at hw⊢;cases Y:o'.guard with
  |none=>rw[Y]at hw;exact hw
  |some p=>obtain⟨j,c⟩:=p;rw[Y]at hw;simp only at hw⊢;rw[F j (a9 j c Y)];exact hw
 refine⟨T,{split:=by rw[I.split,hl];simp,ra:=bd,kn:=I.kn.putO _ _,keys:=λt x m=>?_,env1:=λu g t M=>?_,env2:=λt ax=>?_,sim:=I.sim,nodefer:=I.nodefer,size:=I.size,slot1:=λu t g a7 M=>?_,slot2:=I.slot2,sub:=λj hj a4=>Gb _ (I.sub j hj a4),lsz:=I.lsz,closed:=I.closed,pendq:=λu g a8=>?_,ext:=I.ext,early1:=λu B g=>?_,early2:=I.early2}⟩;cases J:o.dst with
 |none=>rw[J]at m;exact I.keys t x m
 |some d=>rw[J]at m;simp only[Env.putO,Env.put]at m;rcases A8.1 m with e|m;injection e with e1 _;subst e1;exact qC ok V t J;exact I.keys t x (Bk.1 m).1
 rw[U];rcases A1.1 g with g|g;have D:u≠i:=λe=>Z (e▸g);rw[F u D,if_neg (λe=>D (ok.uniq u i t M (by rw[Fm V];exact e)))];exact I.env1 u g t M;have:u=i:=by simpa using g
 subst this;rw[Fm V]at M;rw[if_pos M,a1];rw[U];have K:o.dst≠some t:=by have:=ax i k!;rwa [Fm V]at this
 rw[if_neg K];exact I.env2 t λu g=>ax u (Gb _ g);have D:u≠i:=by rintro rfl;rw[bm]at g;cases g
 rw[F u D];exact I.slot1 u t g a7 M;rcases A1.1 g with E|E;have D:u≠i:=λe=>Z (e▸E);obtain⟨y,S,a6,W⟩:=I.pendq u E a8;have r: ∀j c,y.guard=some (j,c)->j≠i:=by rintro j c Y rfl;have:=(ok.guard u y j c S Y).1;have A:=ok.ord l1 l2 I.split u E j (by rw[hl];simp);rw[this]at A;cases A
 refine⟨y,S,a6,?_⟩;rw[F u D];rcases W with⟨K,A⟩|⟨K,rd,ei,A,h3,h4,h5,h6,h7⟩;exact .inl ⟨f r K,A⟩;exact .inr ⟨f r K,rd,ei,bb _ A,h3,h4,h5,a2 E S h6,h7⟩;have:u=i:=by simpa using E
 subst this;have r: ∀j c,o.guard=some (j,c)->j≠u:=by rintro j c Y rfl;exact ag (ok.guard j o j c V Y).1
 refine⟨o,V,G,?_⟩;rw[a1];rcases hq with⟨K,A⟩|⟨K,rd,A,h3,h4⟩;exact .inl ⟨f r K,A⟩;refine .inr ⟨f r K,rd,env,A,h3,I.kn,I.keys,λt ht=>?_,h4⟩;obtain⟨c1,c2⟩:=a0 t ht;exact⟨λq hq M C=>by rw[c1 q hq M C,F q hq],c2⟩;obtain⟨e1,e2⟩:=I.early1 u B g;rw[hl]at e1;rcases A8.1 e1 with e|e1;rw[e,ao]at g;cases g;exact⟨e1,e2⟩
def Inv.guardW(ok:Xb ops N l)(I:Inv P N ops l Q env0 X h0 H0 w0 ds0 l1 l2 v pend env H h early L a w)(G:l2=n::k)(D:ops[n]? =some o){A B:Prop}(c:YW ops o.guard env A B):
  (Ut v o true/\A)\/(Ut v o false/\B):=by
 unfold YW at c;unfold Ut;cases t:o.guard with
 |none=>rw[t]at c;exact .inl ⟨rfl,c⟩
 |some p=>
  obtain⟨j,g⟩:=p;rw[t]at c;simp only at c⊢;obtain⟨f,S,d,K⟩:=ok.guard n o j g D t;have F:j∈l1:=by
   have m:=ok.all j S;rw[I.split,A1]at m;rcases m with m|m;exact m;rw[G]at m;rcases A8.1 m with e|m;subst e;have J:=ok.back;exfalso;have C:=I.opd ok G D;obtain⟨e,M,R,V⟩:=(YQ ops.toList []).2 j j o (by simpa using D) (by simpa using f);have x: ∀(i q r:Nat),q<i->q<=j->Pf (IH ops.toList []) r q=true->r<q:=by
    intro i;induction i with
    |zero=>intro q r h;omega
    |succ i U=>
     intro q r W T u;have y:q<ops.size:=by have:=WZ D;omega
     obtain⟨e,M,E,C⟩:=(YQ ops.toList []).2 q r ops[q] (by simp[y]) (by simpa using u);have J:=ok.back q ops[q] (by simp[y]) e (by simpa using M) E;rcases C with C|⟨C,O⟩;omega;have:=U e.on r o! o! O;omega
   have:=x (j+1) j j o! (Am _) f;omega;have:=ok.ord (l1++[n]) k (by rw[I.split,G];simp) n k! j m;rw[f]at this;cases this
  have z:Wx ops env j=v j:=by unfold Wx;rw[show(ops[j]?).bind (·.dst)=some d from K];exact I.env1 j F d K
  rw[z]at c;split at c;rename_i b u;by_cases s:b=g;exact .inl ⟨.inl ⟨b,u,by simp[s]⟩,c.1 s⟩;exact .inr ⟨.inl ⟨b,u,by simp[s]⟩,c.2 (by cases b<;>cases g<;>simp_all)⟩;rename_i u;exact .inr ⟨.inr ⟨u,trivial⟩,c⟩;exact c.elim
end
section
variable {P:Program} {N:Nat} {ops:Array Oper} {l:List Nat} {Q:Env->Az->Prop} {env0:Env} {X:Nat->Prop} {h0:Gh} {H0:Az} {w0:World} {ds0:List Deferred}
theorem Wy(a:ops[N]? =some o):H9 ops N=true↔ ∃t,o.op= .alloc t:=by grind[H9]
theorem fL(h:We P ops=true)(i:ops[N]? =some o)(a:o.op= .alloc b):(∃z,ZN P b=some z)/\o.guard=none:=by have:=Fq.1 h o (by rw[Array.mem_toList_iff];exact vP i);rw[a]at this;simp at this;grind[Option.isSome_iff_exists]
def Inv.adopt(ok:Xb ops N l)(ha:We P ops=true)(hX: ∀B,X B→B<w0.heap.size){l1:List Nat}{v:Nat→AY}{a6:List (Nat×List Nat)}{env:Env}{H:Az}{h:Gh}{early:Nat→Option Nat}{L:Array Bool}{a:Act}{w:World}
  {i:Nat} {r:List Nat} (I:Inv P N ops l Q env0 X h0 H0 w0 ds0 l1 (i::r) v a6 env H h early L a w) {B:Nat} (hB:early i=some B):
  ∃v' ad H' h' c,Inv P N ops l Q env0 X h0 H0 w0 ds0 (l1++[i]) r v' a6 ad H' h' c L a w:=by
 obtain⟨e1,e2,e3,e4,o,t,z,U,R,ao,hz,bz,b7,bl⟩:=I.early1 i B hB;have ci:H9 ops i=true:=(Wy R).2 ⟨t,ao⟩;have hg:=(fL ha R ao).2;have a1:=I.ra;simp only[RA,R,hg,YW,ci,Bool.true_eq_false,false_and,false_or]at a1;obtain⟨M,z',a4,ca,_,a1⟩:=a1;rw[ao]at a4;injection a4 with et;subst et;rw[hz]at ca;injection ca with ez;subst ez;have b6:=ok.nodup;rw[I.split]at b6;have b1:i∉l1:=λhm=>(Qw.1 b6).2.2 i hm i k! rfl;let u:AY:=.ptr H.length 0 0;let v':Nat->AY:=λk=>if k=i then u else v k;have ar: ∀k,k≠i->v' k=v k:=λk O=>by simp[v',O]
 have b9:v' i=u:=by simp[v']
 let c:Nat->Option Nat:=λk=>if k=i then none else early k;have W: ∀k C,c k=some C->k≠i/\early k=some C:=by intro k C O;simp only[c]at O;split at O;cases O;exact⟨v!,O⟩
 have a2: ∀t,(env.putO o.dst u).get t=if o.dst=some t then u else env.get t:=by
  intro t;cases o.dst with
  |none=>simp[Env.putO]
  |some d=>simp only[Env.putO,Fx,Al];by_cases h:d=t;subst h;simp;rw[if_neg h,if_neg (λe=>h e.symm)]
 have cd: ∀{k:Nat} {K:Oper} {ei:Env},k∈l1->ops[k]? =some K->Opd ops env0 v k K ei->Opd ops env0 v' k K ei:=by intro k K ei a9 a0 ao t ht;obtain⟨c1,c2⟩:=ao t ht;refine⟨λq hq hd a5=>?_,c2⟩;rw[c1 q hq hd a5,ar];rintro rfl;have:=ok.ord l1 (q::r) I.split k a9 q k!;rw[a5]at this;cases this
 have T: ∀{o':Oper} {b:Bool},(∀j D,o'.guard=some (j,D)->j≠i)->Ut v o' b->Ut v' o' b:=by
  intro o' b bd hw;unfold Ut at hw⊢;cases hg:o'.guard with
  |none=>rw[hg]at hw;exact hw
  |some p=>obtain⟨j,D⟩:=p;rw[hg]at hw;simp only at hw⊢;rw[ar j (bd j D hg)];exact hw
 have ap: ∀C,owned (h.at_ H.length (some B) 0 U.size) (H++[.live 0 z]) C->owned h H C\/C=B:=by rintro C ⟨id,e,he,bd,S⟩;rcases Iv he with⟨s,he⟩|⟨rfl,rfl⟩;exact .inl ⟨id,e,he,bd,by simpa[Gh.at_,BZ s]using S⟩;simp[Gh.at_]at S;exact .inr S.symm
 have hl:(cx (XR X early) h H w).Later (cx (XR X c) (h.at_ H.length (some B) 0 U.size) (H++[.live 0 z]) w):=by refine⟨Am _,λ_ _ _ _=>rfl,λC _ hO=>?_,by simp[cx],λid A=>by simp only[cx]at A;simp[cx,Gh.at_,BZ A],λid A _=>by simp only[cx]at A;simp[cx,Gh.at_,BZ A]⟩;rcases hO with(hO|⟨k,O⟩)|hO;exact .inl (.inl hO);exact .inl (.inr ⟨k,(W k C O).2⟩);rcases ap C hO with hO|rfl;exact .inr hO;exact .inl (.inr ⟨i,hB⟩)
 have b5: ¬owned h H B:=(I.sim.out B (.inr ⟨i,hB⟩)).2;have b8:JN (XR X c) (h.at_ H.length (some B) 0 U.size) (H++[.live 0 z]) w:=by
  refine⟨λC V=>?_,λid g cs he=>?_,λid L' he=>?_,λid cv e e' C h1 h2 b3 b4 h3 h4=>?_,I.sim.bldKeep λid e he hB=>?_⟩;have b':XR X early C:=by rcases V with V|⟨k,O⟩;exact .inl V;exact .inr ⟨k,(W k C O).2⟩
  refine⟨(I.sim.out C b').1,λR=>?_⟩;rcases ap C R with R|rfl;exact(I.sim.out C b').2 R;rcases V with V|⟨k,O⟩;have:=hX C V;omega;obtain⟨k1,k2⟩:=W k C O;exact k1 (I.early2 k i C k2 hB);rcases Iv he with⟨s,al⟩|⟨rfl,e⟩;obtain⟨hg,bN⟩:=I.sim.live id g cs al;refine⟨by simpa[cx,Gh.at_,BZ s]using hg,?_⟩;rcases bN with⟨hn,rfl⟩|⟨B1,Z,T',ch,f,S,hb,bG,bb,a8,E⟩;exact .inl ⟨by simpa[cx,Gh.at_,BZ s]using hn,rfl⟩;refine .inr ⟨B1,Z,T',ch,f,by simpa[cx,Gh.at_,BZ s]using S,hb,by simpa[cx,Gh.at_,BZ s]using bG,bb,a8,λj v hj=>?_⟩;obtain⟨p1,p2,p3⟩:=E j v hj;exact⟨p1,p2,p3.later hl⟩;injection e with e1 e2;subst e1 e2;obtain⟨f,bb,a8,E⟩:=QT (b7.later hl);exact⟨by simp[cx,Gh.at_],.inr ⟨B,U,t,(0,0),f,by simp[cx,Gh.at_],bz,by simp[cx,Gh.at_],bb,a8,E⟩⟩;rcases Iv he with⟨s,al⟩|⟨rfl,e⟩;obtain⟨hg,B1,r1,S,hb,p1,p2,p3,p4,p5,p6,p7⟩:=I.sim.lp id L' al;exact⟨by simpa[cx,Gh.at_,BZ s]using hg,B1,r1,by simpa[cx,Gh.at_,BZ s]using S,hb,p1,p2,p3,p4,p5,p6,λt v m=>⟨(p7 t v m).1,(p7 t v m).2.later hl⟩⟩;cases e;rcases Iv h1 with⟨cb,bm⟩|⟨rfl,_⟩<;>rcases Iv h2 with⟨cc,bt⟩|⟨rfl,_⟩;exact I.sim.inj _ _ _ _ C bm bt b3 b4 (by simpa[Gh.at_,BZ cb]using h3) (by simpa[Gh.at_,BZ cc]using h4);simp[Gh.at_]at h4;subst h4;exact(b5 ⟨id,e,bm,b3,by simpa[Gh.at_,BZ cb]using h3⟩).elim;simp[Gh.at_]at h3;subst h3;exact(b5 ⟨cv,e',bt,b4,by simpa[Gh.at_,BZ cc]using h4⟩).elim;rfl;rcases Iv he with⟨s,al⟩|⟨rfl,e⟩;exact⟨al,by simp[Gh.at_,BZ s],by simp[Gh.at_,BZ s],by simp[Gh.at_,BZ s],λ_ _ _ _ _=>rfl⟩;subst e;cases hB
 have b0:Ha h0 H0 w0 (h.at_ H.length (some B) 0 U.size) (H++[.live 0 z]) w:=by have x:=I.ext;refine⟨x.os,x.tape,x.output,x.size,x.keep,by have:=x.n;simp;omega,λid A=>?_,λid A e=>?_,λC R=>?_,x.loops⟩;have s:id<H.length:=C7 A x.n;simpa[Gh.at_,BZ s]using x.gen id A;have s:id<H.length:=C7 A x.n;have:=x.same id A (by simpa[Gh.at_,BZ s]using e);simpa[Gh.at_,BZ s]using this;rcases ap C R with R|rfl;exact x.fresh C R;exact .inr e3
 refine⟨v',env.putO o.dst u,H++[.live 0 z],h.at_ H.length (some B) 0 U.size,c,?_⟩;refine{split:=by rw[I.split];simp,ra:=a1,kn:=I.kn.putO _ _,keys:=λM y m=>?_,env1:=λk G M F=>?_,env2:=λM ax=>?_,sim:=b8,nodefer:=I.nodefer,size:=I.size,slot1:=λk M G ct F=>?_,slot2:=λM ax=>(I.slot2 M ax).later hl,sub:=λj hj cm=>?_,lsz:=I.lsz,closed:=I.closed,pendq:=λk a9 a'=>?_,ext:=b0,early1:=λk C O=>?_,early2:=λk j C h1 h2=>I.early2 k j C (W k C h1).2 (W j C h2).2};cases ag:o.dst with
 |none=>rw[ag]at m;exact I.keys M y m
 |some d=>rw[ag]at m;simp only[Env.putO,Env.put]at m;rcases A8.1 m with e|m;injection e with e1 _;subst e1;exact qC ok R M ag;exact I.keys M y (Bk.1 m).1
 rw[a2];rcases A1.1 G with G|G;have J:k≠i:=λe=>b1 (e▸G);rw[ar k J,if_neg (λe=>J (ok.uniq k i M F (by rw[Fm R];exact e)))];exact I.env1 k G M F;have:k=i:=by simpa using G
 subst this;rw[Fm R]at F;rw[if_pos F,b9];rw[a2];have h1:o.dst≠some M:=by have:=ax i k!;rwa [Fm R]at this
 rw[if_neg h1];exact I.env2 M λk O=>ax k (Gb _ O);by_cases J:k=i;subst J;rw[Fm R]at F;rw[b9,bl M F];exact .ptr (by simp[cx]) (by simp[cx,Gh.at_]) rfl λ_=>⟨B,by simp[cx,Gh.at_],rfl⟩
 rw[ar k J];exact(I.slot1 k M G (by simpa[c,J]using ct) F).later hl;by_cases b2:j=i;subst b2;simp;exact Gb _ (I.sub j hj (by simpa[c,b2]using cm));rcases A1.1 a9 with Y|Y;have J:k≠i:=λe=>b1 (e▸Y);obtain⟨K,a0,co,a7⟩:=I.pendq k Y a';have a3: ∀j D,K.guard=some (j,D)->j≠i:=by rintro j D hg rfl;have:=(ok.guard k K j D a0 hg).1;have h2:=ok.ord l1 (j::r) I.split k Y j k!;rw[this]at h2;cases h2
 refine⟨K,a0,co,?_⟩;rw[ar k J];rcases a7 with⟨h1,h2⟩|⟨h1,rd,ei,h2,h3,h4,h5,h6,h7⟩;exact .inl ⟨T a3 h1,h2⟩;refine .inr ⟨T a3 h1,rd,ei,h2,λid A=>by have:=h3 id A;simp;omega,h4,h5,cd Y a0 h6,λad ce he hh=>h7 ad ce he λid A=>?_⟩;rw[hh id A,CL (h3 id A)];have:k=i:=by simpa using Y
 subst this;rw[e2]at a';cases a';obtain⟨k1,k2⟩:=W k C O;obtain⟨f1,f2,f3,f4,o',M,z',Z,f5,f6,f7,f8,f9,cf⟩:=I.early1 k C k2;rcases A8.1 f1 with e|f1;exact(k1 e).elim;exact⟨f1,f2,f3,f4,o',M,z',Z,f5,f6,f7,f8,f9.later hl,cf⟩
def Mid(P:Program)(N:Nat)(ops:Array Oper)(l:List Nat)(Q:Env->Az->Prop)(env0:Env)(X:Nat->Prop)(h0:Gh)(H0:Az)(w0:World)(ds0:List Deferred)(L:Array Bool)(a:Act)(w:World):Prop:=
 ∃l1 l2 v pend env H h early,Inv P N ops l Q env0 X h0 H0 w0 ds0 l1 l2 v pend env H h early L a w
def VF(ok:Xb ops N l)(T:We P ops=true)(S: ∀B,X B→B<w0.heap.size){L:Array Bool}{a:Act}{w:World}{i:Nat}{o:Oper}(C:ops[i]? =some o)(g:H9 ops i=false)(s: ∀e∈o.after,Region.binds .any e=true→L.getD e.on false=true):
  ∀(l2 l1:List Nat) (v:Nat->AY) (b:List (Nat×List Nat)) (env:Env) (H:Az) (h:Gh) (early:Nat->Option Nat),Inv P N ops l Q env0 X h0 H0 w0 ds0 l1 l2 v b env H h early L a w->∃l1 l2 v b env H h early,Inv P N ops l Q env0 X h0 H0 w0 ds0 l1 l2 v b env H h early L a w/\(i∈l1\/ ∃r,l2=i::r/\Ut v o true/\∃F,(∀j∈r,Pf (IH ops.toList []) i j=true\/H9 ops j=true)/\(∀p∈b,Pf (IH ops.toList []) p.1 i=true\/ ∀id∈p.2,id∉F)/\∃K,Eff P N o env H F K/\(∀v y,K v y->H.length<=y.length)/\ ∀v y,K v y->RA P N ops r b (env.putO o.dst v) y Q)
 |[],l1,v,b,env,H,h,early,I=>by have k:=ok.all i (WZ C);rw[I.split,D4]at k;exact⟨l1,[],v,b,env,H,h,early,I,.inl k⟩
 |q::r,l1,v,b,env,H,h,early,I=>by
  by_cases G:i∈l1;exact⟨l1,q::r,v,b,env,H,h,early,I,.inl G⟩
  ·cases E:early q with
   |some B=>obtain⟨O,ap,y,h',m,D⟩:=I.adopt ok T S E;exact VF ok T S C g s r _ O _ _ y h' m D
   |none=>
    have M:=I.ra;have al:q<ops.size:=ok.lt q (by rw[I.split];simp);have c:ops[q]? =some (ops[q]):=by simp[al]
    generalize ar:ops[q]=oq at c;have x:(∀j∈r,Pf (IH ops.toList []) q j=true\/H9 ops j=true)->i=q:=by intro f;have k:=ok.all i (WZ C);rw[I.split,A1]at k;rcases k with k|k;exact(G k).elim;rcases A8.1 k with e|k;exact e;rcases f i k with R|R;have hd:=eS I.closed (i+1) i o o! C s R;have ag:=I.sub q hd E;have J:=ok.nodup;rw[I.split]at J;exact((Qw.1 J).2.2 q ag q k! rfl).elim;rw[g]at R;cases R
    simp only[RA,c]at M;rcases I.guardW ok rfl c M with⟨U,(⟨n,u,rd,hQ,ao,d⟩|⟨n,F,f,V,K,W,Y,Z⟩|⟨t,z,ad,hz,f,d⟩)⟩|⟨U,n,d⟩
    ·obtain⟨O,D⟩:=I.next ok rfl c (pend':=(q,rd)::b) n d (λp s=>CQ _ s) (.inr ⟨U,rd,k!,ao,hQ⟩)
     exact VF ok T S C g s r _ O _ _ H h early D
    have A:=x f;subst A;rw[C]at c;injection c with e;subst e;exact⟨l1,i::r,v,b,env,H,h,early,I,.inr ⟨r,rfl,U,F,f,V,K,W,Y,Z⟩⟩;have A:=x f;subst A;have:=(Wy c).2 ⟨t,ad⟩;rw[g]at this;cases this
    ·obtain⟨O,D⟩:=I.next ok rfl c (pend':=(q,[])::b) n d (λp s=>CQ _ s) (.inl ⟨U,rfl⟩)
     exact VF ok T S C g s r _ O _ _ H h early D
def Wd{K b:Act->World->Prop}(h:Oper.wpIn (FR m) 0 P o t j K z)(d: ∀t j,K t j->b t j):Oper.wpIn (FR m) 0 P o t j b z:=Oper.wpIn_mono d h
def Inv.make(ok:Xb ops N l)(ha:We P ops=true){l1 l2:List Nat}{v:Nat→AY}{K:List (Nat×List Nat)}{env:Env}{H:Az}{h:Gh}{early:Nat→Option Nat}{L:Array Bool}{a:Act}{w:World}{Q0:Exit→Act→World→Prop}{ro:Option Nat}
  (I:Inv P N ops l Q env0 X h0 H0 w0 ds0 l1 l2 v K env H h early L a w) {i:Nat} {o:Oper} {t:TypeId} (u:ops[i]? =some o) (y:o.op= .alloc t) (a5:L.getD i false=false)
  (hp: ∀e∈o.after,Region.binds .any e=true->L.getD e.on false=true):
  Oper.wpIn (FR ro) 0 P o a w (λa' C=> ∃b,Inv P N ops l Q env0 X h0 H0 w0 ds0 l1 l2 v K env H h b (L.setIfInBounds i true) a' C) Q0:=by
 obtain⟨⟨z,hz⟩,hg⟩:=fL ha u y;have a9:H9 ops i=true:=(Wy u).2 ⟨t,y⟩;obtain⟨b1,zv,hi,bt,rz⟩:=eZ (cx (XR X early) h H w) hz;have a3:(execOp a.eval o).run P w= .ok (.value (.pointer (some ⟨w.heap.size,0,none⟩))) {w with heap:=w.heap.push (.cells zv.cells t)}:=by unfold execOp;rw[y];simp[Instr.alloc,zeroValue,typeInfo,hi,bt,newVar,newRow]
 refine⟨λ_ _=>trivial,?_⟩;rw[Oper.semAt_eq _ _ _ (λc hc=>by rw[y]at hc;cases hc),a3,Oper.uponIn_value];let b:Nat->Option Nat:=λk=>if k=i then some w.heap.size else early k;generalize s:({w with heap:=w.heap.push (.cells zv.cells t)}:World)=C;have b0:C.heap.size=w.heap.size+1:=by rw[<-s];simp
 have q: ∀k,k<w.heap.size->C.heap[k]? =w.heap[k]? :=λk r=>by rw[<-s];simp[Tr,BZ r]
 have bm:C.heap[w.heap.size]? =some (.cells zv.cells t):=by rw[<-s];simp
 have U:C.os=w.os:=by rw[<-s]
 have V:C.tape=w.tape:=by rw[<-s]
 have A:C.output=w.output:=by rw[<-s]
 have ao:i∉l1:=by intro hm;obtain⟨o',bN,ap,_⟩:=I.pendq i hm a5;rw[a9]at ap;cases ap
 have bd:i∈l2:=by have:=ok.all i (WZ u);rw[I.split,A1]at this;exact this.resolve_left ao
 have bz:early i=none:=by
  cases G:early i with
  |none=>rfl
  |some B=>have:=(I.early1 i B G).2.1;rw[a5]at this;cases this
 have a7:=I.sim.grow U V A o! q;have bG:=(Ha.grow (h:=h) (H:=H) U V A o! q).later (XR X early);have J: ∀B,owned h H B->B<w.heap.size:=by rintro B ⟨id,e,G,S,x⟩;exact I.sim.io_at G S x
 have a6: ∀B,XR X b B->XR X early B\/B=w.heap.size:=by rintro B (O|⟨k,r⟩);exact .inl (.inl O);simp only[b]at r;split at r;injection r with e;exact .inr e.symm;exact .inl (.inr ⟨k,r⟩)
 have W:(cx (XR X early) h H w).Later (cx (XR X b) h H C):=by refine⟨by simp only[cx];omega,λB O _=>mb (q B O),λB O Z=>?_,Am _,λ_ _=>Am _,λ_ _ _=>⟨rfl,rfl⟩⟩;rcases Z with Z|Z;rcases a6 B Z with D|rfl;exact .inl D;simp only[cx]at O;omega;exact .inr Z
 have a4:JN (XR X b) h H C:=by refine⟨λB O=>?_,λid g cs G=>?_,λid L' G=>?_,I.sim.inj,I.sim.bldKeep λid e G _=>⟨G,rfl,rfl,rfl,λB o _ R _=>q B (Pj R)⟩⟩;rcases a6 B O with D|rfl;exact a7.out B D;exact⟨o!,λu=>by have:=J _ u;omega⟩;obtain⟨hg,al⟩:=I.sim.live id g cs G;refine⟨hg,?_⟩;rcases al with⟨hn,rfl⟩|⟨B,M,T,fz,f,x,R,ad,bl,bb,E⟩;exact .inl ⟨hn,rfl⟩;refine .inr ⟨B,M,T,fz,f,x,(q B (Pj R)).trans R,ad,bl,bb,λj v hj=>?_⟩;obtain⟨p1,p2,p3⟩:=E j v hj;exact⟨p1,p2,p3.later W⟩;obtain⟨hg,B1,r1,x,R,p1,p2,p3,p4,p5,p6,p7⟩:=I.sim.lp id L' G;exact⟨hg,B1,r1,x,(q B1 (Pj R)).trans R,p1,p2,p3,p4,p5,p6,λt v m=>⟨(p7 t v m).1,(p7 t v m).2.later W⟩⟩
 have p:i<L.size:=by rw[I.lsz];exact WZ u
 have hd: ∀t,o.dst=some t->t<a.tmps.size:=λt ht=>by rw[I.size];exact qC ok u t ht
 refine⟨b,?_⟩;refine{split:=I.split,ra:=I.ra,kn:=I.kn,keys:=I.keys,env1:=I.env1,env2:=I.env2,sim:=a4,nodefer:=?_,size:=(eU _ _ _).trans I.size,slot1:=λk t r a1 ag=>?_,slot2:=λt J=>?_,sub:=λj hj ar=>?_,lsz:=by rw[pM];exact I.lsz,closed:=nI I.closed p u hp,pendq:=λk a0 a2=>?_,ext:=I.ext.trans (Ha.grow U V A o! q),early1:=λk B r=>?_,early2:=λj k B D Y=>?_};rw[show(a.put o.dst _).defers=a.defers by cases o.dst<;>rfl];exact I.nodefer;have n:k≠i:=by rintro rfl;simp[b]at a1
 rw[G2 p,if_neg n]at r;rw[TG hd,if_neg (λe=>n (ok.uniq k i t ag (by rw[Fm u];exact e)))];exact(I.slot1 k t r (by simpa[b,n]using a1) ag).later W;rw[TG hd];have S:o.dst≠some t:=by have:=J i (by rw[G2 p,if_pos rfl]);rwa [Fm u]at this
 rw[if_neg S];refine(I.slot2 t λk r=>J k ?_).later W;rw[G2 p];split;rfl;exact r;have ax:j≠i:=by rintro rfl;simp[b]at ar
 rw[G2 p,if_neg ax]at hj;exact I.sub j hj (by simpa[b,ax]using ar);have n:k≠i:=λe=>ao (e▸a0);rw[G2 p,if_neg n]at a2;exact I.pendq k a0 a2;by_cases n:k=i;subst n;simp only[b,if_true]at r;injection r with e;subst e;refine⟨bd,by rw[G2 p,if_pos rfl],I.ext.size,o!,o,t,z,zv.cells,u,y,hz,bm,rz.later W,λd F=>?_⟩;rw[TG hd,if_pos F];simp only[b,if_neg n]at r;obtain⟨e1,e2,e3,e4,o',t',z',M,e5,e6,e7,e8,e9,a8⟩:=I.early1 k B r;refine⟨e1,by rw[G2 p,if_neg n];exact e2,e3,o!,o',t',z',M,e5,e6,e7,(q B e4).trans e8,e9.later W,λd F=>?_⟩;rw[TG hd,if_neg (λe=>n (ok.uniq k i d (by rw[Fm e5];exact F) (by rw[Fm u];exact e)))];exact a8 d F;simp only[b]at D Y;split at D<;>split at Y;simp_all;injection D with e;have:=(I.early1 k B Y).2.2.2.1;omega;injection Y with e;have:=(I.early1 j B D).2.2.2.1;omega;exact I.early2 j k B D Y
def Mid.step(ok:Xb ops N l)(ha:We P ops=true)(hX: ∀B,X B→B<w0.heap.size){L:Array Bool}{a:Act}{w:World}{Q0:Exit→Act→World→Prop}{ro:Option Nat}(M:Mid P N ops l Q env0 X h0 H0 w0 ds0 L a w){i:Nat}{o:Oper}(n:ops[i]? =some o)(E:L.getD i false=false)
  (Y: ∀e∈o.after,Region.binds .any e=true->L.getD e.on false=true):wpOpIn (FR ro) 0 P ops Q0 i (Mid P N ops l Q env0 X h0 H0 w0 ds0 (L.setIfInBounds i true)) a w:=by
 cases a2:H9 ops i with
 |true=>
  obtain⟨t,a8⟩:=(Wy n).1 a2;have hg:=(fL ha n a8).2;obtain⟨l1,l2,v,s,env,H,h,early,I⟩:=M;unfold wpOpIn;rw[n];simp only;have J:Region.wanted o (yielded ops a.tmps)=true:=by unfold Region.wanted;rw[hg]
  rw[J];simp only[if_true];refine(Wd (I.make ok ha n a8 E Y) ?_);rintro a' w' ⟨ag,I'⟩;exact⟨l1,l2,v,s,env,H,h,ag,I'⟩
 |false=>
 obtain⟨l1,l2,v,s,env,H,h,early,I⟩:=M;obtain⟨l1,l2,v,s,env,H,h,early,I,A⟩:=VF ok ha hX n a2 Y l2 l1 v s env H h early I;have G: ∀k,Pf (IH ops.toList []) k i=true->early k=none:=by
  intro k D;by_cases f:k=i;subst f;cases he:early k with
  |none=>rfl
  |some B=>have:=(I.early1 k B he).2.1;rw[E]at this;cases this
  refine I.noEarly ok ?_ k D f;rcases A with h1|⟨r,h1,_⟩;exact .inl h1;exact .inr ⟨r,h1⟩
 unfold wpOpIn;rw[n];simp only;rcases A with ar|⟨r,rfl,J,F,b5,bm,K,a0,bt,bz⟩
 ·obtain⟨o',a6,_,b4⟩:=I.pendq i ar E;rw[n]at a6;injection a6 with e;subst e;rcases b4 with⟨J,al⟩|⟨J,rd,ei,_,_,kn,T,W,hQ⟩
  ·rw[I.wanted ok n G Y J];simp only[P2,if_false];exact⟨λ_ _=>trivial,l1,l2,v,s,env,H,h,early,I.done ok n ar E Y I.sim (Ha.refl _ _ _) (by rw[al];exact .tup rfl λ_ _ _ h=>by cases h)⟩
  ·rw[I.wanted ok n G Y J];simp only[if_true];refine(Wd (hQ (look o ei) H (zC o ei) (λ_ _=>rfl) ro (XR X early) h a w ⟨I.sim,I.look ok n E Y G kn T W,I.size⟩ Q0) ?_);rintro a' w' ⟨c,u,h',H',rfl,⟨rfl,rfl⟩,hv,sim,x⟩;exact⟨l1,l2,v,s,env,_,h',early,I.done ok n ar E Y sim x hv⟩
 rw[I.wanted ok n G Y J];simp only[if_true];have W:=I.opd ok rfl n;refine(Wd (a0.1 (look o env) (zC o env) ro (XR X early) h a w ⟨I.sim,I.look ok n E Y G I.kn I.keys W,I.size⟩ Q0) ?_);rintro a' w' ⟨c,u,h',H',rfl,T,hv,sim,x⟩;have a5:=ok.nodup;rw[I.split]at a5;have bN:i∉l1:=λhm=>(Qw.1 a5).2.2 i hm i k! rfl;have hi:i<L.size:=by rw[I.lsz];exact WZ n
 have hl:=x.later (XR X early);let v':Nat->AY:=λk=>if k=i then u else v k;have Z: ∀k,k≠i->v' k=v k:=λk T=>by simp[v',T]
 have al:v' i=u:=by simp[v']
 have hd: ∀t,o.dst=some t->t<a.tmps.size:=λt ht=>by rw[I.size];exact qC ok n t ht
 have ao: ∀t,(env.putO o.dst u).get t=if o.dst=some t then u else env.get t:=by
  intro t;cases o.dst with
  |none=>simp[Env.putO]
  |some d=>simp only[Env.putO,Fx,Al];by_cases h:d=t;subst h;simp;rw[if_neg h,if_neg (λe=>h e.symm)]
 refine⟨l1++[i],r,v',s,env.putO o.dst u,H',h',early,?_⟩;refine{split:=by rw[I.split];simp,ra:=bz u H' T,kn:=I.kn.putO _ _,keys:=λt y m=>?_,env1:=λk g t C=>?_,env2:=λt V=>?_,sim:=sim,nodefer:=?_,size:=(eU _ _ _).trans I.size,slot1:=λk t g b3 C=>?_,slot2:=λt V=>?_,sub:=λj hj b0=>?_,lsz:=by rw[pM];exact I.lsz,closed:=nI I.closed hi n Y,pendq:=λk b1 U=>?_,ext:=I.ext.trans x,early1:=λk B g=>?_,early2:=I.early2};cases R:o.dst with
 |none=>rw[R]at m;exact I.keys t y m
 |some d=>rw[R]at m;simp only[Env.putO,Env.put]at m;rcases A8.1 m with e|m;injection e with e1 _;subst e1;exact qC ok n t R;exact I.keys t y (Bk.1 m).1
 rw[ao];rcases A1.1 g with g|g;have f:k≠i:=λe=>bN (e▸g);rw[Z k f,if_neg (λe=>f (ok.uniq k i t C (by rw[Fm n];exact e)))];exact I.env1 k g t C;have:k=i:=by simpa using g
 subst this;rw[Fm n]at C;rw[if_pos C,al];rw[ao];have h1:o.dst≠some t:=by have:=V i k!;rwa [Fm n]at this
 rw[if_neg h1];exact I.env2 t λk T=>V k (Gb _ T);rw[show(a.put o.dst c).defers=a.defers by cases o.dst<;>rfl];exact I.nodefer;rw[TG hd];rw[G2 hi]at g;by_cases f:k=i;subst f;rw[Fm n]at C;rw[if_pos C,al];exact hv;rw[if_neg f]at g;rw[if_neg (λe=>f (ok.uniq k i t C (by rw[Fm n];exact e))),Z k f];exact(I.slot1 k t g b3 C).later hl;rw[TG hd];have G:o.dst≠some t:=by have:=V i (by rw[G2 hi,if_pos rfl]);rwa [Fm n]at this
 rw[if_neg G];refine(I.slot2 t λk T=>V k ?_).later hl;rw[G2 hi];split;rfl;exact T;rw[G2 hi]at hj;by_cases a3:j=i;subst a3;simp;rw[if_neg a3]at hj;exact Gb _ (I.sub j hj b0);rw[G2 hi]at U;by_cases f:k=i;subst f;simp at U;rw[if_neg f]at U;have a4:k∈l1:=by rcases A1.1 b1 with h|h;exact h;exact(f (by simpa using h)).elim
 obtain⟨ad,a7,b2,A⟩:=I.pendq k a4 U;have ap:Pf (IH ops.toList []) i k=false:=ok.ord l1 (i::r) I.split k a4 i k!;have O: ∀{b:Bool},Ut v ad b->Ut v' ad b:=by
  intro b J;unfold Ut at J⊢;cases hg:ad.guard with
  |none=>rw[hg]at J;exact J
  |some p=>
   obtain⟨j,a9⟩:=p;rw[hg]at J;simp only at J⊢;have:j≠i:=by rintro rfl;have:=(ok.guard k ad j a9 a7 hg).1;rw[ap]at this;cases this
   rw[Z j this];exact J
 refine⟨ad,a7,b2,?_⟩;rw[Z k f];rcases A with⟨q1,q2⟩|⟨q1,rd,ei,q2,q3,q4,q5,q6,q7⟩;exact .inl ⟨O q1,q2⟩;refine .inr ⟨O q1,rd,ei,q2,λid S=>C7 (q3 id S) (bt u H' T),q4,q5,λt ht=>?_,λax bb he hh=>q7 ax bb he λid S=>?_⟩;obtain⟨c1,c2⟩:=q6 t ht;refine⟨λq hq bG D=>?_,c2⟩;rw[c1 q hq bG D,Z];rintro rfl;rw[ap]at D;cases D;rw[hh id S];apply a0.2 u H' T id (q3 id S);rcases bm (k,rd) q2 with h1|h1;have:=eS I.closed (i+1) i o o! n Y h1;simp only at this;rw[U]at this;cases this;exact h1 id S;obtain⟨e1,e2,e3,e4,o',t,z,bd,e5,e6,e7,e8,e9,bl⟩:=I.early1 k B g;have f:k≠i:=by rintro rfl;rw[E]at e2;cases e2
 refine⟨(A8.1 e1).resolve_left f,by rw[G2 hi,if_neg f];exact e2,e3,C7 e4 x.size,o',t,z,bd,e5,e6,e7,?_,e9.later hl,λd a1=>?_⟩;exact(x.keep B e4 (I.sim.out B (.inr ⟨k,g⟩)).2).trans e8;rw[TG hd,if_neg (λe=>f (ok.uniq k i d (by rw[Fm e5];exact a1) (by rw[Fm n];exact e)))];exact bl d a1
theorem Inv.end_(ok:Xb ops N l)(s:We P ops=true)(p: ∀B,X B→B<w0.heap.size){L:Array Bool}{a:Act}{w:World}(e: ∀i,i<ops.size→L.getD i false=true):
  ∀(l2 l1:List Nat) (v:Nat->AY) (c:List (Nat×List Nat)) (env:Env) (H:Az) (h:Gh) (early:Nat->Option Nat),Inv P N ops l Q env0 X h0 H0 w0 ds0 l1 l2 v c env H h early L a w->
  ∃o b g,Q b g/\St X o N b g a w/\Ha h0 H0 w0 o g w/\a.defers=ds0
 |q::r,l1,v,c,env,H,h,early,I=>by
  cases j:early q with
  |some B=>obtain⟨G,b,g,o,d,y⟩:=I.adopt ok s p j;exact Inv.end_ ok s p e r _ G _ _ g o d y
  |none=>have J:=I.sub q (e q (ok.lt q (by rw[I.split];simp))) j;have E:=ok.nodup;grind[I.split]
 |[],l1,v,c,env,H,h,early,I=>by
  have D: ∀k,early k=none:=by
   intro k;cases C:early k with
   |none=>rfl
   |some B=>have:=(I.early1 k B C).1;cases this
  have n:XR X early=X:=by funext B;apply propext;constructor;rintro(z|⟨k,x⟩);exact z;grind;exact .inl
  have f:=I.sim;rw[n]at f;refine⟨h,env,H,I.ra,⟨f,λt u m=>⟨by rw[I.size];exact I.keys t u m,?_⟩,I.size⟩,I.ext,I.nodefer⟩;rw[<-n,<-I.kn t u m];by_cases F: ∃k∈l1,Vz ops k=some t;have⟨k,x,A⟩:=F;rw[I.env1 k x t A];grind[Yk,I.slot1,WZ];grind[I.env2,I.slot2,I.sub]
def Mid.end_(ok:Xb ops N l)(x:We P ops=true)(u: ∀B,X B→B<w0.heap.size){w:World}(M:Mid P N ops l Q env0 X h0 H0 w0 ds0 L t w)(hr:Region.ready .any ops L=[]):
  ∃o b g,Q b g/\St X o N b g t w/\Ha h0 H0 w0 o g w/\t.defers=ds0:=by
 obtain⟨l1,l2,v,f,env,H,h,early,I⟩:=M;have c: ∀(n i:Nat),i<n->i<ops.size->L.getD i false=true:=by
  intro n;induction n with
  |zero=>intro i h;omega
  |succ n z=>
   intro i q d;cases p:L.getD i false with
   |true=>rfl
   |false=>
    have m:i<L.size:=by rw[I.lsz];exact d
    have j:L.getD i true=false:=by rw[Q2,N2 m]at p⊢;simpa using p
    have a:ops[i]? =some (ops[i]):=by simp[d]
    have s:i∈Region.ready .any ops L:=by rw[mem_ready];refine⟨j,_,a,λe y k=>?_⟩;have r:=ok.back i _ a e y k;exact z e.on o! o!
    rw[hr]at s;cases s
 exact Inv.end_ ok x u (λi q=>c (i+1) i o! q) l2 l1 v f env H h early I
theorem vk{p q:Nat->Bool}(h: ∀j,q j=true->p j=true): ∀l:List Nat,(l.filter q).length<=(l.filter p).length
 |[]=>k!
 |y::r=>by have a:=vk h r;grind
theorem filter_lt{p:Nat->Bool}{i:Nat}{q:Nat->Bool}(b: ∀j,q j=(p j&& !decide (j=i))): ∀(l:List Nat),i∈l->p i=true->(l.filter q).length<(l.filter p).length
 |x::r,h,hp=>by
  have d:=vk (p:=p) (q:=q) (λj a=>by rw[b]at a;simp at a;exact a.1) r;by_cases e:x=i;grind;have c:i∈r:=q!
  have f:=filter_lt b r c hp;grind
theorem Mid.any(ok:Xb ops N l)(k:We P ops=true)(g: ∀B,X B→B<w0.heap.size){f:Exit→Act→World→Prop}{ro:Option Nat}(e: ∀L a w,Mid P N ops l Q env0 X h0 H0 w0 ds0 L a w→Region.ready .any ops L=[]→f .normal a w):
  ∀(b:Nat) (L:Array Bool) (a:Act) (w:World),((List.range ops.size).filter λi=>!L.getD i false).length<=b->Mid P N ops l Q env0 X h0 H0 w0 ds0 L a w->wpAnyIn (FR ro) 0 P .any ops f b L a w
 |0,L,a,w,hf,M=>by
  have hr:Region.ready .any ops L=[]:=by
   cases u:Region.ready .any ops L with
   |nil=>rfl
   |cons i r=>
    have d:i∈Region.ready .any ops L:=q!
    rw[mem_ready]at d;have:i∈(List.range ops.size).filter λi=>!L.getD i false:=q!
    grind
  exact⟨hr,e L a w M hr⟩
 |b+1,L,a,w,hf,M=>by
  refine⟨λhr=>e L a w M hr,λi d=>?_⟩;rw[mem_ready]at d;have⟨x,o,m,t⟩:=d;have c:L.getD i false=false:=q!
  refine wpOpIn_mono (λs v n=>Mid.any ok k g e b _ s v ?_ n) (Mid.step ok k g M m c t);have:=filter_lt (p:=λi=>!L.getD i false) (i:=i) (q:=λj=>!(L.setIfInBounds i true).getD j false) (λj=>by rw[G2 q!];by_cases h:j=i<;>simp[h]) (List.range ops.size) (Hj.2 (WZ m)) (by simp[c]);omega
def kX{K:Exit→Env→Az→Prop}(C:P.follows .mixedOrders=true)(l:List Nat)(q:ABp ops N l=true)(r:We P ops=true)(p:(f.map (·.1)).Nodup)
  (h:RA P N ops l [] f H (K .normal)):M2 P N (.region n ops true) f H K:=by
 intro ro X g a w s _;have ok:=AAs q;have b: ∀i,(Array.replicate ops.size false).getD i false=false:=by intro i;rw[Q2];by_cases d:i<ops.size;simp[d];simp[d]
 have E:({w with drawn:=w.drawn+1}:World)=w.drew:=rfl;apply wpIn_region_any C;rw[E];refine Mid.any (Q:=K .normal) (env0:=f) (X:=X) (h0:=g) (H0:=H) (w0:=w) (ds0:=a.defers) ok r (λB c=>(s.sim.out B c).1) (λL I O M hr=>?_) ops.size _ a w.drew ?_ ?_;obtain⟨A,S,y,D,F,G,z⟩:=M.end_ ok r (λB c=>(s.sim.out B c).1) hr;exact⟨A,S,y,D,F,G,.same z⟩;exact Cz (Gm _ _) k!;have x:=Ha.drew (h:=g) (H:=H) (w:=w);have R:XR X (λ_=>none)=X:=by funext B;apply propext;constructor;rintro(c|⟨k,e⟩);exact c;cases e;exact .inl
 refine⟨[],l,λ_=>.any,[],f,H,g,λ_=>none,?_⟩;refine{split:=rfl,ra:=h,kn:=dV p,keys:=(λt u m=>by have:=(s.env t u m).1;rw[s.size]at this;exact this),env1:=(λk e=>by cases e),env2:=λt _=>rfl,sim:=(by rw[R];exact s.sim.drew),nodefer:=rfl,size:=s.size,slot1:=(λk t e _=>by rw[b]at e;cases e),slot2:=λt _=>(by rw[R];exact(kW s.env t).later (x.later X)),sub:=(λi d=>by rw[b]at d;cases d),lsz:=k!,closed:=(λj o J v=>by rw[b]at v;cases v),pendq:=(λi d=>by cases d),ext:=x,early1:=(λi B c=>by cases c),early2:=(λi j B c=>by cases c)}
end
def qQ:AY->List Nat
 | .ptr id _ _=>[id]
 | .sl id _ _ _ _=>[id]
 |_=>[]
def ACk(env:Env)(op:Op):List Nat:=op.operands.toList.flatMap λx=>qQ (BJ env x)
theorem gg(h: ∀t∈tmpsOf o,W.get t=f.get t): ∀x∈o.op.operands,BJ W x=BJ f x:=by
 intro x b;cases x with
 |tmp t=>apply h t;unfold tmpsOf;rw[TW];exact⟨.tmp t,q!,rfl⟩
 |_=>rfl
def uS{l:List Operand}(h: ∀x∈l,BJ W x=BJ f x):l.map (BJ W)=l.map (BJ f):=M6 h
theorem wL(h: ∀x∈T.operands,BJ W x=BJ f x):CO P W H T=CO P f H T:=by
 cases T with
 |move x=>grind[CO,Op.operands]
 |assign x=>grind[CO,Op.operands]
 |pick c a b=>grind[CO,Op.operands]
 |load t a=>grind[CO,Op.operands]
 |nilCheck x=>grind[CO,Op.operands]
 |binOp T t x y E=>grind[CO,Op.operands]
 |unOp T t x=>grind[CO,Op.operands]
 |convert s d x=>grind[CO,Op.operands]
 |fieldAddr s x e=>grind[CO,Op.operands]
 |field s x e=>grind[CO,Op.operands]
 |indexAddr t x i=>grind[CO,Op.operands]
 |index t x i=>grind[CO,Op.operands]
 |extract x i=>grind[CO,Op.operands]
 |slice t x u o v=>
  have C:u.map (BJ W)=u.map (BJ f):=by cases u with|none=>rfl|some y=>simp[h y (by simp[Op.operands])]
  have B:o.map (BJ W)=o.map (BJ f):=by cases o with|none=>rfl|some y=>simp[h y (by simp[Op.operands])]
  have D:v.map (BJ W)=v.map (BJ f):=by cases v with|none=>rfl|some y=>simp[h y (by simp[Op.operands])]
  grind[CO,Op.operands]
 |makeFunc e a b=>simp only[CO];rw[uS λx j=>h x (by simp only[Op.operands];exact Array.mem_append_left _ (by simpa using j)),uS λx j=>h x (by simp only[Op.operands];exact Array.mem_append_right _ (by simpa using j))]
 |build t g=>
  simp only[CO];have:(g.toList.map λp=>(p.1,BJ W p.2))=g.toList.map λp=>(p.1,BJ f p.2):=M6 λp w=>by rw[h p.2 (by simp only[Op.operands,List.mem_toArray,Bl];exact⟨p,w,rfl⟩)]
  rw[this]
 |call c=>
  obtain⟨n,args,k⟩:=c;simp only[Op.operands,Call.operands]at h;cases n with
  |value e=>simp[CO]
  |invoke r m=>simp[CO]
  |builtin b=>
   obtain⟨args⟩:=args;obtain⟨k⟩:=k;match args with
   |[]=>simp[CO]
   |[x]=>
    have j:=h x k!;cases b<;>simp[CO];match k with
    |[]=>rfl
    |[t]=>simp[j]
    |_::_::_=>rfl
   |[x,y]=>have j:=h x k!;have q:=h y k!;cases b<;>simp[CO,j,q]
   |[x,y,z]=>have j:=h x k!;have q:=h y k!;have A:=h z k!;cases b<;>simp[CO,j,q,A]
   |_::_::_::_::_=>cases b<;>rfl
 |_=>rfl
section
variable {P:Program} {H H':Az}
theorem aG(h:H'[N]? =H[N]?):Tm H' N n=Tm H N n:=by grind[Tm]
theorem zS(h: ∀id∈qQ s,H'[id]? =H[id]?):QM H' s n=QM H s n:=by cases s<;>simp only[QM];rw[h _ (by simp[qQ])]
theorem ul(h: ∀id∈qQ s,H'[id]? =H[id]?):shift H' n s=shift H n s:=by cases s<;>simp only[shift];grind[aG,qQ]
def ACU(h: ∀id∈qQ s,H'[id]? =H[id]?):uL P H' b s=uL P H b s:=rfl
theorem AAn(h: ∀id∈ACk f T,H'[id]? =H[id]?):CO P f H' T=CO P f H T:=by
 have j: ∀x∈T.operands,∀id∈qQ (BJ f x),H'[id]? =H[id]? :=λx j id n=>h id (by unfold ACk;rw[Hh];exact⟨x,by simpa using j,n⟩);cases T with
 |load t a=>grind[Op.operands,CO,jD,zS]
 |nilCheck x=>grind[Op.operands,CO,aG,qQ]
 |convert s d x=>
  have g:=j x (by simp[Op.operands]);have hr:rowsOf H' (BJ f x)=rowsOf H (BJ f x):=by generalize BJ f x=v at g;cases v<;>simp only[rowsOf];grind[qQ]
  simp only[CO,Xe];grind[BJ]
 |fieldAddr s x k=>grind[Op.operands,CO,WU,ul]
 |indexAddr t x i=>have g:=j x (by simp[Op.operands]);simp only[CO,Wa];split<;>grind[ul,aG,qQ]
 |slice t x p o q=>have g:=j x (by simp[Op.operands]);simp only[CO];generalize BJ f x=v at g;cases v<;>simp only[lG];rw[aG (g _ (by simp[qQ]))]
 |call c=>
  obtain⟨l,args,e⟩:=c;simp only[Op.operands,Call.operands]at j;cases l with
  |value k=>simp[CO]
  |invoke r m=>simp[CO]
  |builtin b=>
   obtain⟨args⟩:=args;obtain⟨e⟩:=e;match args with
   |[]=>simp[CO]
   |[x]=>
    have g:=j x k!;cases b<;>simp only[CO];match e with
    |[]=>rfl
    |[t]=>simp only;exact ACU g
    |_::_::_=>rfl
   |[x,y]=>cases b<;>simp[CO]
   |[x,y,z]=>cases b<;>simp[CO]
   |_::_::_::_::_=>cases b<;>rfl
 |_=>simp only[CO]
def Xg{v:AY}(e:CO P f H o.op=some v):mX P N o f H (ACk f o.op) v:=by intro a b c d;refine Dc (v:=v) ?_ ⟨rfl,rfl⟩;rw[wL (gg c),AAn d];exact e
end
section
variable {P:Program} {N:Nat} {o:Oper} {env:Env} {H:Az} {K:AY->Az->Prop}
theorem qF
  (A:o.op= .call Y) (m:Y.callee= .value g) (G:BJ env g= .fn (.func p) d Z) (D:Enters P p=true)
  (E:EM P p (oH env Y d Z) H K):JM P N o env H K:=by
 apply Cv (by rw[A];rfl);intro X h a w s Q;have k:=DU s.env g;rw[G]at k
 obtain⟨b,e,r,t,C,I,J⟩: ∃b e,a.eval g= .func (.func p) b e∧b.size=d.length∧e.size=Z.length∧
   (∀(j:Nat) (v:AY) (Y:Value),d[j]? =some v->b[j]? =some Y->Bp (cx X h H w) v Y)/\(∀(j:Nat) (v:AY) (Y:Value),Z[j]? =some v->e[j]? =some Y->Bp (cx X h H w) v Y):=by
  generalize a.eval g=cf at k;cases k<;>grind
 have q:(execOp a.eval o).run P w= .ok (.enter p (b++Y.args.map a.eval++e)) w:=by unfold execOp;rw[A];simp only[resolve,m,r,Deferred.ofValue,Sem.run_bind,Sem.run_pure,Result.andThen_ok,invoke,ic D]
 unfold Oper.wp;rw[q];simp only[Oper.upon_enter];have i: ∀(j:Nat) (v:AY) (c:Value),(oH env Y d Z)[j]? =some v->(b++Y.args.map a.eval++e)[j]? =some c->Bp (cx X h H w) v c:=by
  intro j v c l n;unfold oH at l;rcases Au j (d.length+Y.args.size)with y|u;rw[CL w!]at l;rw[Ye w!]at n;rcases Au j d.length with z|f
  grind;rw[Cb f,CE]at l;rw[su o!,cH,t]at n;cases B:Y.args[j-d.length]? with
  |none=>grind
  |some x=>rw[B]at n;rw[P0,B]at l;simp only[Bn,Al]at l n;subst l n;exact DU s.env x
  grind
 refine(E X h w _ s.sim ?_ i).mono ?_;simp[oH,t,C];grind
def TJ(P:Program)(env:Env)(t:TypeId)(len:Nat)(parts:Array (Nat×Operand)):Option (Nat×List AY):=
 match eI P t with
 |some (none,e,sz)=>
  let vs:=parts.toList.map λp=>BJ env p.2
  if 0<sz/\SX P e=true/\parts.toList.map (·.1)=List.range len/\(vs.all λv=>v.solid&&decide (v.cells.length=sz))=true/\len<=4096/\sz<=4096 then some (sz,vs)else none
 |_=>none
theorem V0{len sz:Nat}{vs:List AY}(c:o.op= .buildSlice b len q)(d:TJ P env b len q=some (sz,vs))(t:K (.vs sz vs) H):JM P N o env H K:=by grind[TJ,JM.buildSlice]
theorem dX{t:TypeId}{len sz:Nat}{f:Array (Nat×Operand)}{T:List AY}(ho:o.op= .buildSlice t len f)(r:TJ P env t len f=some (sz,T))
  (hk:K (.sl H.length 0 sz 0 T.length) (H++[.live 0 (T.flatMap AY.cells)])):JM P N o env H K:=by
 unfold TJ at r;split at r
 case h_2=>cases r
 rename_i e y he;simp only at r;split at r
 case isFalse=>cases r
 rename_i L;obtain⟨a5,a3,F,a9,O⟩:=L;simp only[Al,EK]at r;obtain⟨rfl,a8⟩:=r;have ao: ∀v∈T,v.solid=true/\v.cells.length=y:=λv S=>by grind[List.all_eq_true]
 apply Cv (by rw[ho];rfl);intro X h a w s Q;obtain⟨ap,b,hi⟩:=Q5 he;obtain⟨i,z,G,_,hz,a'⟩:=Uk a3;have B:=mF hi G;have hl:T.length=len:=by have k:=congrArg List.length F;grind[List.length]
 let A:List Value:=f.toList.map λp=>a.eval p.2;have V:A.length=len:=by grind[List.length]
 have R: ∀(j:Nat) (v:AY) (c:Value),T[j]? =some v->A[j]? =some c->Bp (cx X h H w) (.agg v.cells) (.agg c.cells)/\v.cells.length=y:=by
  intro j v c S L;have Z:=ao v (BU S);refine⟨?_,Z.2⟩;subst a8;simp only[A,CE]at S L;cases r:f.toList[j]? with
  |none=>rw[r]at S;cases S
  |some p=>rw[r]at S L;simp only[Bn,Al]at S L;subst S L;exact W8 (DU s.env p.2) Z.1
 have J: ∀c∈A,c.cells.size=y:=by
  intro c L;obtain⟨j,g⟩:=Di L;have Y:j<T.length:=by grind[Nat.lt_or_ge,List.getElem?_eq_none]
  obtain⟨k,n⟩:=R j _ c (A4 Y) g;cases k<;>grind
 have ar:(f.map λ(q:Nat×Operand)=>(q.1,a.eval q.2)).toList=(A.zipIdx 0).map λx=>(x.2,x.1):=by
  apply I2;intro j;simp only[Array.toList_map,CE,List.getElem?_zipIdx,D7,A];cases r:f.toList[j]? with
  |none=>rfl
  |some p=>
   have k:(f.toList.map (·.1))[j]? =some p.1:=by rw[CE,r];rfl
   rw[F]at k;have Y:j<len:=by rcases Au j len with n|n;exact n;rw[Cc (by simpa using n)]at k;cases k
   rw[Rb Y]at k;simp only[Al]at k;simp[k]
 have C: ∀l:List Value,(∀c∈l,c.cells.size=y)->(l.flatMap λc=>c.cells.toList).length=l.length*y:=by
  intro l;induction l with
  |nil=>simp
  |cons c l ih=>intro hl;simp only[IA,Aa,Dh,hl c k!,ih (λd M=>hl d (CQ _ M)),Cu,FG];omega
 have W:(A.flatMap λc=>c.cells.toList).length=len*y:=by rw[C A J,V]
 have I: ∃D:Array Value,(execOp a.eval o).run P w= .ok (.value (.slice (some ⟨w.heap.size,0,none⟩) len len)) {w with heap:=w.heap.push (.cells D e)}/\D.toList=A.flatMap λc=>c.cells.toList:=by
  unfold execOp;rw[ho];by_cases h0:len=0;subst h0;have:A=[]:=EL V;refine⟨#[],?_,by rw[this];rfl⟩;have r:f= #[]:=by have k:=congrArg List.length F;simp at k;exact k
  simp[Instr.buildSlice,run_underlying ap,K7 hi,r,Instr.fill,newRow,show Array.range 0= #[]from rfl];refine⟨(A.flatMap λc=>c.cells.toList).toArray,?_,rfl⟩;have ag: ¬len*i.size=0:=by rw[B];exact Nat.mul_ne_zero h0 o!
  have a4: ¬len*i.size>2^24:=by rw[B];have:=mw O.1 O.2;omega
  have hf:=Go.Great.fill_whole (s:=y) a5 A ((Array.range (len*i.size)).map (z.cells[· %z.cells.size]!)) J (by simp[V,B]);have:=run_buildSlice (P:=P) w t e len (f.map λ(q:Nat×Operand)=>(q.1,a.eval q.2)) _ i z ap G hz a4 ag (by rw[ar,B]at*;exact hf);simp only[Sem.run_bind];rw[show(f.map λx=>match x with|(i,x)=>(i,a.eval x))=(f.map λ(q:Nat×Operand)=>(q.1,a.eval q.2))from rfl,this];rfl
 obtain⟨D,I,ad⟩:=I;unfold Oper.wp;rw[I,Oper.upon_value]
 have U: ∀(l:List AY) (m:List Value),m.length=l.length→(∀(j:Nat) (v:AY) (c:Value),l[j]? =some v→m[j]? =some c→Bp (cx X h H w) (.agg v.cells) (.agg c.cells))→
   Bp (cx X h H w) (.agg (l.flatMap AY.cells)) (.agg (m.flatMap λc=>c.cells.toList).toArray):=by
  intro l;induction l with
  |nil=>intro m Z _;have:m=[]:=EL (by simpa using Z);subst this;exact .agg rfl (λj c g=>by simp at g) λj v c g=>by simp at g
  |cons v l ih=>
   intro m Z hr;cases m with
   |nil=>simp at Z
   |cons c m=>
    have r0:=hr 0 v c rfl rfl;have r1:=ih m (by simpa using Z) λj v' c' k n=>hr (j+1) v' c' (by simpa using k) (by simpa using n);cases r0 with
    |agg al a0 a6=>
     cases r1 with
     |agg a2 a1 a7=>
      have e2:(m.flatMap λc=>c.cells.toList).length=(l.flatMap AY.cells).length:=by simpa using a2
      refine .agg (by simp[e2,al]) (λj d g=>?_) λj u d g M=>?_;simp only[IA,YN]at g;rcases Au j c.cells.size with n|n;rw[CL (by simpa using n)]at g;exact a0 j d (by simpa using g);rw[Cb (by simpa using n)]at g;exact a1 _ d (by simpa using g);simp only[IA,YN]at g M;rcases Au j c.cells.size with n|n;rw[CL (by simpa using n)]at M;rw[CL o!]at g;exact a6 j u d g (by simpa using M);rw[Cb (by simpa using n)]at M;rw[Cb o!]at g;rw[Dh,al]at M;exact a7 _ u d g (by simpa using M)
 have ax:=U T A o! λj v c k n=>(R j v c k n).1;have E:D=(A.flatMap λc=>c.cells.toList).toArray:=by rw[<-ad]
 have hh:=QT ax;rw[<-E]at hh;refine⟨_,_,_,_,rfl,hk,.sl (by simp[cx]) (by simp[cx,Gh.at_]) ⟨_,_,by rw[hl]⟩ λ_=>.inr ⟨w.heap.size,len,by simp[cx,Gh.at_],o!,?_,by rw[hl]⟩,s.sim.push D e (0,0) _ hh,Ha.push _ _ _⟩;simp only[cx,Gh.at_,if_true,E,fE,W];omega
theorem mP{y:Operand}{U:IntKind}{sz:Nat}(ho:o.op= .makeSlice b g y)(he:eI P b=some (none,V,sz))(ap:0<sz)(M:SX P V=true)(hz:ZN P V=some d)(R:d.length=sz)
  (hx:BJ env g= .int C i) (hy:BJ env y= .int U a) (h0:0<=i) (h1:i<=a) (h2:a<=16777216) (hk:K (.sl H.length 0 sz 0 i.toNat) (H++[.live 0 (List.replicate i.toNat d).flatten])):JM P N o env H K:=by
 apply Cv (by rw[ho];rfl);intro X h e w s Q;obtain⟨O,l,hi⟩:=Q5 he;obtain⟨z,zv,x,ad,T,S⟩:=Uk M;have k:=mF hi x;obtain⟨n,t,al,ar,D⟩:=eZ (cx X h H w) hz;have:n=z:=by grind[Option.some.inj]
 subst this;have:t=zv:=by grind[Option.some.inj]
 subst this;have W:=DU s.env g;have Y:=DU s.env y;rw[hx]at W;rw[hy]at Y;have ex:e.eval g= .int C i:=by generalize e.eval g=q at W;cases W;rfl
 have ey:e.eval y= .int U a:=by generalize e.eval y=q at Y;cases Y;rfl
 have F:(n.bytes:Int)*a<=281474976710656:=by have:(n.bytes:Int)*a<=1048576*16777216:=Int.mul_le_mul o! h2 o! o!;omega
 have Z:=run_make (P:=P) w b V n t O x T C U i a h0 h1 F o!;have G:(execOp e.eval o).run P w= .ok (.value (.slice (some ⟨w.heap.size,0,none⟩) i.toNat a.toNat)) (w.alloc (.cells (madeCells t.cells (a.toNat*n.size)) V)):=by unfold execOp;grind[Sem.run_bind,Result.andThen_ok,Sem.run_pure]
 unfold Oper.wp;rw[G,Oper.upon_value];have p:t.cells.size=sz:=by rw[S,k]
 have hh:Holds (cx X h H w) (List.replicate i.toNat d).flatten (madeCells t.cells (a.toNat*n.size)) (0,0):=by
  have I:(List.replicate i.toNat d).flatten.length=i.toNat*sz:=by simp[R]
  have A:i.toNat*sz<=a.toNat*n.size:=by rw[k];exact O6 _ o!
  have B: ∀(m j:Nat),j<m*sz->(List.replicate m d).flatten[j]? =d[j%sz]? :=by
   intro m;induction m with
   |zero=>intro j E;omega
   |succ m ih=>intro j E;rw[ms,pe];rcases Au j sz with ao|ag;grind[List.getElem?_append_left,Nat.mod_eq_of_lt];grind[List.getElem?_append_right,Nat.add_mul,Nat.mod_eq_sub_mod]
  refine⟨λj=>t.cells.getD (j%sz) undef,by rw[I,size_madeCells];exact A,λ_ _=>k!,λj v E=>?_⟩;have c:j<i.toNat*sz:=by grind[Nat.lt_or_ge,List.getElem?_eq_none]
  rw[B _ _ c]at E;have u:j%sz<t.cells.size:=by grind[Nat.mod_lt]
  have f:t.cells[j%sz]? =some (t.cells[j%sz]'u):=N2 u;have J:t.cells.getD (j%sz) undef=t.cells[j%sz]'u:=by rw[Q2,f];rfl
  have r:(madeCells t.cells (a.toNat*n.size))[j]? =some (t.cells[j%sz]'u):=by
   unfold madeCells;rw[cH,Array.getElem?_range,if_pos (C7 c A)];have L:j%t.cells.size<t.cells.size:=by rw[p];rw[p]at u;exact u
   rw[Bn,getElem!_pos t.cells _ L];simp only[p]
  simp only[J];cases D with
  |agg q1 q2 q3=>exact⟨r,q2 _ _ f,q3 _ _ _ E f⟩
 refine⟨_,_,_,_,rfl,hk,.sl (by simp[cx]) (by simp[cx,Gh.at_]) ⟨_,_,rfl⟩ λ_=>.inr ⟨w.heap.size,a.toNat,by simp[cx,Gh.at_],o!,?_,rfl⟩,s.sim.push _ V (0,0) _ hh,Ha.push _ _ _⟩;simp[cx,Gh.at_,size_madeCells,k]
end
section
variable {X:Nat->Prop} {h:Gh} {H:Az} {w:World}
def JN.loopSet(s:JN X h H w){L:mW}{r:Loop}(g:H[N]? =some (.lp L))(f:h.io N=some n)(C:w.heap[n]? =some (.loop r))(st:LoopState)(p:Option Code):
  JN X h (H.set N (.lp {L with state:=st,pending:=p})) (w.putObj n (.loop {r with state:=st,pending:=p}))/\Ha h H w h (H.set N (.lp {L with state:=st,pending:=p})) (w.putObj n (.loop {r with state:=st,pending:=p})):=by
 have d:N<H.length:=by rcases Au N H.length with c|c;exact c;rw[Cc c]at g;cases g
 have D:Ha h H w h (H.set N (.lp {L with state:=st,pending:=p})) (w.putObj n (.loop {r with state:=st,pending:=p})):=by refine⟨rfl,rfl,rfl,k!,λk M hn=>?_,k!,λ_ _=>Am _,λ_ _ _=>⟨rfl,rfl⟩,λk B=>?_,λk y O=>?_⟩;refine World.putObj_heap_other λe=>?_;subst e;exact hn ⟨N,_,g,k!,f⟩;obtain⟨i,e,l,j,c⟩:=B;rcases JL d l with⟨G,b⟩|⟨rfl,_⟩;exact .inl ⟨i,e,b,j,c⟩;exact .inl ⟨i,_,g,k!,c⟩;by_cases e:k=n;subst e;exact⟨_,World.putObj_heap_same (sK C)⟩;exact⟨y,by rw[World.putObj_heap_other e,O]⟩
 refine⟨s.of_ext D (λi e l j=>?_) (λi P z A k l c u x T o=>?_),D⟩;rcases JL d l with⟨G,b⟩|⟨rfl,rfl⟩;refine .inl ⟨b,rfl,rfl,rfl,λE a=>World.putObj_heap_other λe=>?_⟩;subst e;exact G (s.inj i N _ _ E b g j k! a f);obtain⟨K,E,S,a,q,l,c,T,o,I,J,F⟩:=s.lp i L g;rw[show(cx X h H w).io i=h.io i from rfl,f]at a;injection a with e;subst e;rw[show(cx X h H w).w.heap=w.heap from rfl,C]at q;injection q with e;injection e with e;subst e;refine .inr (.inr ⟨_,rfl,K,n,_,f,World.putObj_heap_same (sK C),rfl,rfl,T,o,I,J,λt v m=>⟨(F t v m).1,(F t v m).2.later (D.later X)⟩⟩);rcases JL d l with⟨Q,z⟩|⟨rfl,_⟩<;>rcases JL d c with⟨R,A⟩|⟨rfl,_⟩;exact s.inj _ _ _ _ k z A u x T o;exact s.inj _ _ _ _ k z g u k! T o;exact s.inj _ _ _ _ k g A k! x T o;rfl
def JN.kill(s:JN X h H w)(a:N<H.length):JN X h (H.set N .dead) w/\Ha h H w h (H.set N .dead) w:=by
 have n:Ha h H w h (H.set N .dead) w:=by refine⟨rfl,rfl,rfl,Am _,λk r hn=>rfl,k!,λ_ _=>Am _,λ_ _ _=>⟨rfl,rfl⟩,λk t=>?_,λk y u=>⟨y,u⟩⟩;obtain⟨i,e,d,b,j⟩:=t;rcases JL a d with⟨q,c⟩|⟨rfl,rfl⟩;exact .inl ⟨i,e,c,b,j⟩;exact(b rfl).elim
 refine⟨s.of_ext n (λi e d b=>?_) (λi x l m k d j f g o p=>?_),n⟩;rcases JL a d with⟨q,c⟩|⟨rfl,rfl⟩;exact .inl ⟨c,rfl,rfl,rfl,λv _=>rfl⟩;exact(b rfl).elim;rcases JL a d with⟨z,l⟩|⟨rfl,rfl⟩;rcases JL a j with⟨A,m⟩|⟨rfl,rfl⟩;exact s.inj _ _ _ _ k l m f g o p;exact(g rfl).elim;exact(f rfl).elim
end
def Rs:Env->List Tmp->List AY->Env
 |env,t::ts,v::vs=>Rs (env.put t v) ts vs
 |env,_,_=>env
theorem ml{x:Cx}: ∀(d:List Tmp) (e:List AY) (b:List Value) (env:Env) (a:Act),(∀t∈d,t<a.tmps.size)→b.length=e.length→
  (∀(j:Nat) (v:AY) (c:Value),e[j]? =some v->b[j]? =some c->Bp x v c)->Oz x env a->
  Oz x (Rs env d e) {a with tmps:=(d.zip b).foldl (λ(tmps:Array Value) (q:Tmp×Value)=>tmps.setIfInBounds q.1 q.2) a.tmps}
 |[],e,b,env,a,_,_,_,h=>by simpa[Rs]using h
 |t::d,[],b,env,a,_,hl,_,h=>by have:b=[]:=EL q!;subst this;simpa[Rs]using h
 |t::d,v::e,c::b,env,a,ht,hl,hr,h=>by
  have f:=h.put (ht t k!) (hr 0 v c rfl rfl);exact ml d e b (env.put t v) (a.put (some t) c) (λu i=>by rw[eU];exact ht u (CQ _ i)) q!
   (λj k g f l=>hr (j+1) k g q! q!) f
def ke: ∀(l:List (Tmp×Value)) (a:Array Value),(l.foldl (λ(tmps:Array Value) (q:Tmp×Value)=>tmps.setIfInBounds q.1 q.2) a).size=a.size
 |[],a=>rfl
 |q::l,a=>by rw[lT,ke l];simp
def AEc(id:Nat)(K:AY->Az->Prop):Exit->Env->Az->Prop
 | .normal,_,H=> ∃L,H[id]? =some (.lp L)/\K (.bool true) (H.set id (.lp {L with state:=.ready,pending:=none}))
 | .ret,_,H=> ∃L,H[id]? =some (.lp L)/\K (.bool false) (H.set id (.lp {L with state:=.done,pending:=some .ret}))
 | .exit k,_,H=> ∃L,H[id]? =some (.lp L)/\K (.bool false) (H.set id (.lp {L with state:=.done,pending:=some (.exit k)}))
 |_,_,_=>False
section
variable {P:Program} {N:Nat} {o:Oper} {env:Env} {H:Az} {K:AY->Az->Prop}
theorem JM.yield{L:mW}(ho:o.op= .call Y)(O:Y.callee= .value g)(hf:BJ env g= .yf n)(he:H[n]? =some (.lp L))
  (hn:Y.args.size=L.params.size) (a4:(L.params.toList.all λt=>decide (t<L.n))=true)
  (hw:M2 P L.n L.assign (Rs L.env L.params.toList (Y.args.toList.map (BJ env))) H λe env1 H1=>e= .normal/\ ∃A,H1[n]? =some (.lp A)/\A.state= .ready/\M2 P L.n L.body env1 (H1.set n (.lp {A with state:=.busy})) (AEc n K)):JM P N o env H K:=by
 intro ro X h a w s Q;obtain⟨hg,B,r,F,hb,h1,h2,h3,h4,h5,h6,h7⟩:=s.sim.lp n L he;have F:h.io n=some B:=F;have hb:w.heap[B]? =some (.loop r):=hb;have G:=DU s.env g;rw[hf]at G;have ag:a.eval g= .func (.yield B) #[] #[]:=by generalize a.eval g=cf at G;cases G<;>grind
 have c:(execOp a.eval o).run P w= .ok (.round B r.fn ((r.params.zip (Y.args.map a.eval)).foldl (λtmps (t,a)=>tmps.setIfInBounds t a) r.tmps) r.assign r.body) w:=by unfold execOp;rw[ho];simp only[resolve,O,ag,Deferred.ofValue,Sem.run_bind,Sem.run_pure,Result.andThen_ok,invoke];rw[show(#[]++Y.args.map a.eval:Array Value)=Y.args.map a.eval by simp];exact run_yield hb (by rw[Array.size_map,hn,h3])
 refine⟨λ_ _=>trivial,?_⟩;rw[Oper.semAt_eq _ _ _ (λY hc=>by rw[ho]at hc;cases hc),c,Oper.uponIn_round];refine⟨(λh=>by cases h),?_⟩;let R:Ending->World->Prop:=λe I=> ∃Y v y M,e= .returned Y/\K v M/\Bp (cx X y M I) v Y/\JN X y M I/\Ha h H w y M I;refine RoundIn.mono (R:=R) ?_ (by rintro e I ⟨c',v,y,M,rfl,k,hv,hs,hx⟩;exact⟨c',v,y,M,rfl,k,hv,hs,hx⟩);apply roundIn_of_wpIn trivial;have a0:((r.params.zip (Y.args.map a.eval)).foldl (λtmps (t,a)=>tmps.setIfInBounds t a) r.tmps)=((L.params.toList.zip (Y.args.toList.map a.eval)).foldl (λ(tmps:Array Value) (q:Tmp×Value)=>tmps.setIfInBounds q.1 q.2) r.tmps):=by grind[Array.toList_zip,Array.toList_map]
 rw[a0,h4,h5];have Z:St X h L.n (Rs L.env L.params.toList (Y.args.toList.map (BJ env))) H {tmps:=(L.params.toList.zip (Y.args.toList.map a.eval)).foldl (λ(tmps:Array Value) (q:Tmp×Value)=>tmps.setIfInBounds q.1 q.2) r.tmps,defers:=[]} w:=by
  refine⟨s.sim,?_,by rw[ke,h6]⟩;refine ml (x:=cx X h H w) L.params.toList (Y.args.toList.map (BJ env)) (Y.args.toList.map a.eval) L.env {tmps:=r.tmps,defers:=[]} (λt ht=>?_) k! (λj v d hj hd=>?_) (λt v m=>⟨by rw[h6];exact(h7 t v m).1,(h7 t v m).2⟩);grind;rw[CE]at hj hd;cases hx:Y.args.toList[j]? with
  |none=>grind
  |some x=>rw[hx]at hj hd;simp only[Bn,Al]at hj hd;subst hj hd;exact DU s.env x
 refine wpIn_mono (hw (some B) X h _ w Z λl e=>by injection e with e;subst e;exact⟨r,hb⟩) ?_;rintro e a1 w1 ⟨y,env1,H1,⟨rfl,A,S,ax,E⟩,s1,x1,_⟩;obtain⟨U,J,r1,f,p,q1,q2,q3,q4,q5,q6,q7⟩:=s1.sim.lp n A S;have f:y.io n=some J:=f;have p:w1.heap[J]? =some (.loop r1):=p;have V:n<H.length:=by rcases Au n H.length with h2|h2;exact h2;grind[List.getElem?_eq_none]
 have eB:J=B:=by have:=(x1.same n V (by rw[show y.gen n=0 from U,show h.gen n=0 from hg])).1;rw[f,F]at this;injection this
 subst eB;obtain⟨ap,ad⟩:=s1.sim.loopSet S f p .busy A.pending;have ao:({r1 with state:=.busy}:Loop)={r1 with state:=.busy,pending:=A.pending}:=by rw[<-q2]
 refine⟨_,run_beginRound p (by rw[q1,ax]),?_⟩;rw[ao];refine wpIn_mono (E (some J) X y a1 _ ⟨ap,s1.env.later (ad.later X),s1.size⟩ λl e=>by injection e with e;subst e;exact⟨_,World.putObj_heap_same (sK p)⟩) ?_;rintro e a2 w2 ⟨D,env2,H2,q,s2,x2,_⟩
 have C: ∀(b:Option Code) (u:mW),H2[n]? =some (.lp u)→K (.bool b.isNone) (H2.set n (.lp {u with state:=if b.isNone then .ready else .done,pending:=b}))→
   ∃v I,(Instr.endRound J b).run P w2= .ok v I/\R (.returned v) I:=by
  intro b u T hk;obtain⟨al,B2,r2,i,z,p1,p2,p3,p4,p5,p6,p7⟩:=s2.sim.lp n u T;have i:D.io n=some B2:=i;have z:w2.heap[B2]? =some (.loop r2):=z;have W:n<H1.length:=C7 V x1.n;have eB:B2=J:=by have:=(x2.same n (by simpa using W) (by rw[show D.gen n=0 from al,show y.gen n=0 from U])).1;rw[i,f]at this;injection this
  subst eB;obtain⟨ar,a3⟩:=s2.sim.loopSet T i z (if b.isNone then .ready else .done) b;exact⟨_,_,run_endRound b z,_,_,D,_,rfl,hk,.bool _,ar,((x1.trans ad).trans x2).trans a3⟩
 cases e with
 |normal=>obtain⟨u,q1,q2⟩:=q;exact C none u q1 q2
 |ret=>obtain⟨u,q1,q2⟩:=q;exact C (some .ret) u q1 q2
 |exit k=>obtain⟨u,q1,q2⟩:=q;exact C (some (.exit k)) u q1 q2
 |_=>exact q.elim
end
section
variable {P:Program} {N:Nat} {env:Env} {H:Az} {Q:Exit->Env->Az->Prop}
def AEW(P:Program)(N:Nat)(env:Env)(id:Nat)(Q:Exit->Env->Az->Prop)(H:Az):Prop:=
 ∃L,H[id]? =some (.lp L)/\L.state≠ .busy/\(match L.pending with
  |none=>Q .normal env (H.set id .dead)
  |some c=>M2 P N c env (H.set id .dead) Q)
def AAE{args:Array Value}{R:Ending->World->Prop}(h:Calls P p args j R):CallsIn (FR m) n P p args j R:=by
 have a:CallsIn Fence.wide n P p args j R:=callsIn_wide.2 h;cases m with
 |none=>exact a
 |some l=>exact a
theorem mO{f:Operand}{y:Array Tmp}{assign body:Code}{first o:List AY}{G:FuncId}(env0:Env)(al: ∀p∈env0,p∈env)(hf:BJ env f= .fn (.func G) first o)(hE:Enters P G=true)
  (U:EM P G (first++[.yf H.length]++o) (H++[.lp ⟨N,env0,y,assign,body,.ready,none⟩]) λ_ C=>AEW P N env H.length Q C):M2 P N (.rangeFunc f y assign body) env H Q:=by
 intro r X h a w s k;have Y:=DU s.env f;rw[hf]at Y
 obtain⟨b,g,ao,n1,n2,ax,a0⟩: ∃b g,a.eval f= .func (.func G) b g∧b.size=first.length∧g.size=o.length∧
   (∀(j:Nat) (v:AY) (c:Value),first[j]? =some v->b[j]? =some c->Bp (cx X h H w) v c)/\(∀(j:Nat) (v:AY) (c:Value),o[j]? =some v->g[j]? =some c->Bp (cx X h H w) v c):=by
  generalize a.eval f=cf at Y;cases Y<;>grind
 have K: ∀(i:World) (rc:Loop) (mark:List Deferred),JN X h H i→Ha h H w h H i→rc.state= .ready→rc.pending=none→rc.tmps=a.tmps→rc.params=y→rc.assign=assign→rc.body=body→mark.Nodup→
   (∀d∈mark,∃D,d={target:=.collected D,args:= #[]}/\w.heap.size<=D/\i.heap[D]? =some (.deferred (some [])))->
   CallsIn (FR r) (0-1) P G (b++ #[.func (.yield i.heap.size) #[] #[]]++g) (i.alloc (.loop rc))
    (rangePost (FR r) 0 P i.heap.size (λe a' Z=> ∃F E C,Q e E C/\St X F N E C a' Z/\Ha h H w F C Z/\aJ a w a' Z) {a with defers:=mark++a.defers}):=by
  intro i rc mark s0 A e1 e2 e3 e4 e5 e6 ap V;have xp:=Ha.push (h:=h) (H:=H) (w:=i) (.loop rc) 0 (.lp ⟨N,env0,y,assign,body,.ready,none⟩);have sp:=s0.push_any (.loop rc) 0 (.lp ⟨N,env0,y,assign,body,.ready,none⟩) λ_=>.inr ⟨_,rfl,by simp[cx,Gh.at_],i.heap.size,rc,by simp[cx,Gh.at_],by show(i.heap.push (.loop rc))[i.heap.size]? =_;simp,e1,e2,e4,e5,e6,by rw[e3];exact s.size,λt v m=>by obtain⟨m1,m2⟩:=s.env t v (al _ m);refine⟨by rw[<-s.size];exact m1,?_⟩;rw[e3];exact m2.later ((A.trans xp).later X)⟩;have ea:i.alloc (.loop rc)={i with heap:=i.heap.push (.loop rc)}:=rfl;rw[ea];generalize a4:({i with heap:=i.heap.push (.loop rc)}:World)=W1 at xp sp;generalize a5:h.at_ H.length (some i.heap.size) 0 0=g1 at xp sp;have R:g1.gen H.length=0/\g1.io H.length=some i.heap.size:=by grind[Gh.at_]
  have hl:=(A.trans xp).later X;have ar:(b++ #[Value.func (.yield i.heap.size) #[] #[]]++g).size=(first++[AY.yf H.length]++o).length:=by simp[n1,n2];omega
  have S: ∀(j:Nat) (v:AY) (c:Value),(first++[AY.yf H.length]++o)[j]? =some v->(b++ #[Value.func (.yield i.heap.size) #[] #[]]++g)[j]? =some c->Bp (cx X g1 (H++[.lp ⟨N,env0,y,assign,body,.ready,none⟩]) W1) v c:=by
   intro j v c I u;rcases Au j (first.length+1)with a3|a1;rw[CL w!]at I;rw[Ye w!]at u;rcases Au j first.length with ag|a2
   rw[CL ag]at I;rw[Ye o!]at u;exact(ax j v c I u).later hl;have:j=first.length:=o!
   subst this;rw[Cb (Am _),Gd]at I;rw[su o!,n1,Gd]at u;simp at I u;subst I u;exact .yf (by simp[cx]) rfl λ_=>⟨i.heap.size,R.2,rfl⟩
   rw[Cb w!]at I;rw[su w!]at u;refine(a0 _ v c ?_ u).later hl;simpa[n1]using I
  have hC:=U X g1 W1 _ sp ar S;apply (AAE hC).mono;rintro e Z ⟨c,v,F,C,rfl,⟨L,hL,T,hQ⟩,sc,rv,x⟩;obtain⟨hg,B,M,z,hb,q1,q2,q3,q4,q5,q6,q7⟩:=sc.lp H.length L hL;have z:F.io H.length=some B:=z;have hb:Z.heap[B]? =some (.loop M):=hb;have eB:B=i.heap.size:=by have:=(x.same H.length k! (by rw[show F.gen H.length=0 from hg,R.1])).1;rw[z,R.2]at this;injection this
  subst eB;obtain⟨s2,x2⟩:=sc.loopSet hL z hb .exhausted M.pending;have ad:H.length<(C.set H.length (.lp {L with state:=.exhausted,pending:=M.pending})).length:=by have:=x.n;simp at this⊢;omega
  obtain⟨s3,x3⟩:=s2.kill ad;rw[Ya]at s3 x3;have O:=((xp.trans x).trans x2).trans x3;have st:St X F N env (C.set H.length .dead) {a with defers:=mark++a.defers} (Z.putObj i.heap.size (.loop {M with state:=.exhausted,pending:=M.pending})):=⟨s3,λt v m=>⟨(s.env t v m).1,(s.env t v m).2.later ((A.trans O).later X)⟩,s.size⟩
  have df:aJ a w {a with defers:=mark++a.defers} (Z.putObj i.heap.size (.loop {M with state:=.exhausted,pending:=M.pending})):=by refine⟨mark,rfl,ap,λd hd=>?_⟩;obtain⟨D,h1,h2,h3⟩:=V d hd;exact⟨D,h1,h2,O.defs s0 h3⟩
  refine⟨M.pending,_,run_endLoop hb (by rw[q1];exact T),?_⟩;rw[q2]at*;cases hp:L.pending with
  |none=>rw[hp]at hQ st df O;exact⟨F,env,_,hQ,st,A.trans O,df⟩
  |some cd=>rw[hp]at hQ st df O s3;apply wpIn_mono (hQ r X F _ _ st (k.later (A.trans O)));rintro e' a' a6 ⟨h2,env2,H2,q,s',x',d'⟩;exact⟨h2,env2,H2,q,s',(A.trans O).trans x',df.trans s3 (A.trans O) x' d'⟩
 have J: ∀(l:Nat) (W:World),(resolve a.eval (rangeCall f l) 0).run P W= .ok {target:=.fn (.func G) g,args:=b++ #[.func (.yield l) #[] #[]]} W:=by intro l W;have u:a.eval (.const (.func (.yield l) #[] #[]))= .func (.yield l) #[] #[]:=rfl;simp[resolve,ao,u,Deferred.ofValue]
 refine wpIn_rangeFunc λfn _=>?_;cases r with
 |none=>
  have A:Ha h H w h H (w.alloc (.deferred (some []))):=Ha.grow rfl rfl rfl (by show _<=(w.heap.push _).size;simp) λk hk=>by show(w.heap.push _)[k]? =_;grind
  have s0:JN X h H (w.alloc (.deferred (some []))):=s.sim.grow rfl rfl rfl (by show _<=(w.heap.push _).size;simp) λk hk=>by show(w.heap.push _)[k]? =_;rw[Tr,if_neg o!]
  have hm:=K (w.alloc (.deferred (some []))) {state:=.ready,pending:=none,fn,tmps:=a.tmps,params:=y,assign,body,defers:=w.heap.size} [{target:=.collected w.heap.size,args:= #[]}] s0 A rfl rfl rfl rfl rfl rfl k! λd hd=>by simp only[BI]at hd;exact⟨w.heap.size,hd,Am _,World.alloc_heap_new w _⟩
  rw[World.size_alloc]at hm;exact⟨_,_,_,_,_,_,_,_,run_enterLoop_outer fn a.tmps y assign body,J _ _,λ_ _=>trivial,by simp only[invoke];exact ic hE _ _,(λh=>by cases h),hm⟩
 |some l=>
  obtain⟨x,hx⟩:=k l rfl;have hm:=K w {state:=.ready,pending:=none,fn,tmps:=a.tmps,params:=y,assign,body,defers:=x.defers} [] s.sim (Ha.refl _ _ _) rfl rfl rfl rfl rfl rfl k! λd hd=>by cases hd
  exact⟨_,_,_,_,_,_,_,_,run_enterLoop_inner hx fn a.tmps y assign body,J _ _,λ_ _=>trivial,by simp only[invoke];exact ic hE _ _,(λh=>by cases h),hm⟩
end
def isQ:Op->Bool
 | .move _| .assign _| .pick .. | .load .. | .nilCheck _| .binOp .. | .unOp .. | .convert .. | .fieldAddr .. | .field .. | .indexAddr .. | .index .. | .slice .. | .extract .. | .makeFunc .. | .build .. =>true
 | .call c=>match c.callee with| .builtin .len=>true| .builtin .max=>true| .builtin .min=>true|_=>false
 |_=>false
abbrev AH3:=FuncId->List AY->Az->Option (AY×Az)
abbrev AH4:=Nat->Code->Env->Az->Option (Exit×Env×Az)
def xE(P:Program)(env:Env)(H:Az)(op:Op):Option AY:=
 match op with
 | .buildSlice t len parts=>match TJ P env t len parts with|some (sz,vs)=>some (.vs sz vs)|none=>none
 |op=>CO P env H op
def dq(op:Op):Bool:=match op with| .buildSlice .. =>true|op=>isQ op
def xh(ops:Array Oper)(m:List Nat):Nat->List Nat->List Nat
 |0,_=>[]
 |n+1,left=>
  let rdy:=left.filter λi=>left.all λp=>p==i|| !Pf m p i
  let qs:=rdy.filter λi=>match ops[i]? with|some o=>dq o.op|none=>false
  let last:=λi=>left.all λj=>j==i||Pf m i j||H9 ops j
  let es:=rdy.filter λi=>!H9 ops i&&last i
  let as:=rdy.filter λi=>H9 ops i&&last i
  match qs,es,as with
  |i::_,_,_=>i::xh ops m n (left.erase i)
  |[],i::_,_=>i::xh ops m n (left.erase i)
  |[],[],i::_=>i::xh ops m n (left.erase i)
  |[],[],[]=>[]
def AAl(ops:Array Oper):List Nat:=xh ops (IH ops.toList []) ops.size (List.range ops.size)
section
variable {P:Program} {call:AH3} {code:AH4} {H H':Az} {v:AY} {F:List Nat}
theorem kZ{N:Nat}(b:xE P f H o.op=some v):mX P N o f H (ACk f o.op) v:=by
 unfold xE at b;split at b;rename_i t len a i;split at b;rename_i sz l d;injection b with e;subst e;intro c g h k;refine V0 i (sz:=sz) (vs:=l) ?_ ⟨rfl,rfl⟩;rw[<-d];have j:=gg h;unfold TJ;have:(a.toList.map λp=>BJ c p.2)=a.toList.map λp=>BJ f p.2:=M6 λp d=>by grind[Op.operands]
 rw[this];cases b;exact Xg b
end
def qV(F:Fence)(n0:Nat)(P:Program)(c:Code)(K:Exit->Act->World->Prop)(a:Act)(w:World):Prop:=
 ∀(b:Frame) (k:List Item) (cs:List Frame),b.roundOf=F.round->F.fn b.fn->F.room (cs.length+1+n0)->
  ∃e a' w',K e a' w'/\ArrivesIn (Machine.fenced P F) P (lone (b.atR a (.code c:: .inLoop c::k)) cs w) b k cs e a' w'
section
variable {P:Program} {F:Fence} {n0:Nat} {c:Code} {K:Exit->Act->World->Prop} {a:Act} {w:World}
def zD(h:qV F n0 P c K a w):(Code.loop c).wpIn F n0 P K a w:=by intro b k j f g hr;obtain⟨e,i,m,l,d⟩:=h b k j f g hr;exact⟨e,i,m,l,.of_steps (.one (fenced_calm g hr rfl) stepR_loop) d⟩
def vK(h:c.wpIn F n0 P (Exit.then (λt u=>qV F n0 P c K t u) K) a w):qV F n0 P c K a w:=by
 intro b k s p r hr;obtain⟨e,f,g,m,d⟩:=h b (.inLoop c::k) s p r hr;cases e with
 |normal=>obtain⟨o,n,q,j,i⟩:=m b k s p r hr;exact⟨o,n,q,j,.of_steps (StepsIn.trans d (.one (fenced_calm r hr rfl) stepR_inLoop)) i⟩
 |exit id=>exact⟨_,f,g,m,.pass (x:=.inLoop c) rfl (λ_ _=>.inl k!) d⟩
 |goto l=>exact⟨_,f,g,m,.pass (x:=.inLoop c) rfl (λ_ _=>.inl k!) d⟩
 |ret=>exact⟨_,f,g,m,.pass (x:=.inLoop c) rfl (λ_ _=>.inl k!) d⟩
 |panic v=>exact⟨_,f,g,m,.pass (x:=.inLoop c) rfl (λ_ _=>.inl k!) d⟩
 |outgrown=>exact⟨_,f,g,m,.pass (x:=.inLoop c) rfl (λ_ _=>.inl k!) d⟩
theorem aE(h:qV F n0 P c K a w)(m: ∀e a w,K e a w->z e a w):qV F n0 P c z a w:=by intro b k i d j hr;obtain⟨e,l,o,n,g⟩:=h b k i d j hr;grind
end
def M3(P:Program)(N:Nat)(c:Code)(env:Env)(H:Az)(Q:Exit->Env->Az->Prop):Prop:=
 ∀(r:Option Nat) (X:Nat->Prop) (h:Gh) (a:Act) (w:World),St X h N env H a w->nk r w->
  qV (FR r) 0 P c (λe a' w'=> ∃h' env' H',Q e env' H'/\St X h' N env' H' a' w'/\Ha h H w h' H' w'/\aJ a w a' w') a w
section
variable {P:Program} {N:Nat} {env:Env} {H:Az} {Q:Exit->Env->Az->Prop}
theorem M3.mono(h:M3 P N c env H Q)(i: ∀e b d,Q e b d->B e b d):M3 P N c env H B:=by intro r X g a w s k;apply aE (h r X g a w s k);grind
def M2.of_loopW(h:M3 P N c env H Q):M2 P N (.loop c) env H Q:=λr X g a w s k=>zD (h r X g a w s k)
def Tf(h:M2 P N c env H (wV (λb f=> ∃env2 d,Fv N H.length b f env2 d/\M3 P N c env2 d Q) Q)):M3 P N c env H Q:=by
 intro r X g a w s k;refine vK (wpIn_mono (h r X g a w s k) ?_);rintro e a2 t ⟨m,env2,d,q,o,v,j⟩;cases e with
 |normal=>obtain⟨l,F,n,B⟩:=q;obtain⟨z,p,A,C⟩:=n.2 X m a2 t o;have i:=Fv.ext rfl n.1 A C v;apply aE (B r X z a2 t p (k.later i));rintro e G I ⟨y,b,f,D,E,u,x⟩;exact⟨y,b,f,D,E,i.trans u,j.trans p.sim i u x⟩
 |_=>exact⟨m,env2,d,q,o,v,j⟩
def vL(P:Program)(N:Nat)(c:Code)(env:Env)(H:Az)(Q:Exit->Env->Az->Prop):Prop:=
 match c with
 | .loop x=>M3 P N x env H Q
 |c=>M2 P N c env H Q
def vL.awp(h:vL P N c env H Q):M2 P N c env H Q:=by unfold vL at h;split at h;exact .of_loopW h;exact h
def D5(hn: ∀x,c≠ .loop x)(h:M2 P N c env H Q):vL P N c env H Q:=by simp_all[vL]
def vL.mono(h:vL P N c env H Q)(f: ∀e a b,Q e a b->B e a b):vL P N c env H B:=by
 cases c with
 |loop x=>exact M3.mono h f
 |_=>exact M2.mono h f
def M3.weak{d:Az}(y:Fv N H.length env H f d)(h:M3 P N c f d Q):M3 P N c env H Q:=by intro r X g a w s k;obtain⟨m,t,n,o⟩:=y.2 X g a w s;apply aE (h r X m a w t k);rintro e v x ⟨l,b,i,q,p,u,j⟩;exact⟨l,b,i,q,p,(Fv.ext rfl y.1 n o (Ha.refl g H w)).trans u,j⟩
def vL.weak{a:Az}(b:Fv N H.length env H f a)(h:vL P N c f a Q):vL P N c env H Q:=by
 cases c with
 |loop x=>exact M3.weak b h
 |_=>exact M2.weak b h
def M2.after(h:M2 P N c env H (λe b f=> ∃env2 d,Fv N H.length b f env2 d/\Q e env2 d)):M2 P N c env H Q:=by intro r X g a w s k;apply wpIn_mono (h r X g a w s k);rintro e j v ⟨m,b,f,⟨env2,d,i,q⟩,t,x,l⟩;obtain⟨n,u,o,p⟩:=i.2 X m j v t;exact⟨n,env2,d,q,u,Fv.ext rfl i.1 o p x,l⟩
def M3.after(h:M3 P N c env H (λe b f=> ∃env2 d,Fv N H.length b f env2 d/\Q e env2 d)):M3 P N c env H Q:=by intro r X g a w s k;apply aE (h r X g a w s k);rintro e j v ⟨m,b,f,⟨env2,d,i,q⟩,t,x,l⟩;obtain⟨n,u,o,p⟩:=i.2 X m j v t;exact⟨n,env2,d,q,u,Fv.ext rfl i.1 o p x,l⟩
def vL.after(h:vL P N c env H (λe a d=> ∃env2 b,Fv N H.length a d env2 b/\Q e env2 b)):vL P N c env H Q:=by
 cases c with
 |loop x=>exact M3.after h
 |_=>exact M2.after h
end
def C6(v:AY)(H:Az):AY->Az->Prop:=λu H'=>u=v/\H'=H
def Yl(e:Exit)(env:Env)(H:Az):Exit->Env->Az->Prop:=λe1 env1 H1=>e1=e/\env1=env/\H1=H
def callT(ρ:Operand->AY):Op->Option (Sum (FuncId×List AY) (Nat×List AY))
 | .call c=>
  match c.callee with
  | .value f=>
   match ρ f with
   | .fn (.func F) first caps=>some (.inl (F,first++c.args.toList.map ρ++caps))
   | .yf id=>some (.inr (id,c.args.toList.map ρ))
   |_=>none
  |_=>none
 |_=>none
def AGM(H:Az):List (Nat×FU)->Az
 |[]=>H
 |(i,e)::r=>AGM (H.set i e) r
section
variable {X:Nat->Prop} {h:Gh} {H:Az} {w:World}
def JN.regen(s:JN X h H w){id g g':Nat}{cs:List AY}(n:H[id]? =some (FU.live g cs))(I:g≤g'):
  JN X (h.at_ id (h.io id) g' (h.cap id)) (H.set id (.live g' cs)) w/\Ha h H w (h.at_ id (h.io id) g' (h.cap id)) (H.set id (.live g' cs)) w:=by
 obtain⟨q,p⟩:=s.live id g cs n;have l:h.gen id=g:=q;have t:id<H.length:=by rcases Au id H.length with z|z;exact z;rw[Cc z]at n;cases n
 rcases p with⟨F,A⟩|⟨B,j,T,G,f,D,L,o,E,C,c⟩;have d:h.io id=none:=F;rcases Nat.eq_or_lt_of_le I with e|M;subst e;have x:h.at_ id (h.io id) g (h.cap id)=h:=by unfold Gh.at_;cases h;simp only[Gh.mk.injEq];refine⟨funext λi=>?_,funext λi=>?_,funext λi=>?_⟩;split<;>simp_all;split;rename_i r;subst r;exact l.symm;rfl;split<;>simp_all
 have y:H.set id (.live g cs)=H:=by apply I2;intro i;rw[cD];split;rename_i r;subst r;exact n.symm;rfl
 rw[x,y];exact⟨s,Ha.refl _ _ _⟩;subst A;obtain⟨m,rfl⟩: ∃m,g'=m+1:=⟨g'-1,o!⟩
 have key: ∀(v:Gh) (u:Az) (k:Nat),v=h.at_ id none (g+k) (h.cap id)->u=H.set id (.live (g+k) [])->(JN X v u w/\Ha h H w v u w)->(JN X (h.at_ id none (g+(k+1)) (h.cap id)) (H.set id (.live (g+(k+1)) [])) w/\Ha h H w (h.at_ id none (g+(k+1)) (h.cap id)) (H.set id (.live (g+(k+1)) [])) w):=by
  intro v u k x y J;subst x y;obtain⟨q1,q2⟩:=J.1.bump (id:=id) (g:=g+k) (cs:=[]) (by simp[t]) (by simp[Gh.at_]);have K:(h.at_ id none (g+k) (h.cap id)).at_ id none (g+k+1) ((h.at_ id none (g+k) (h.cap id)).cap id)=h.at_ id none (g+(k+1)) (h.cap id):=by unfold Gh.at_;simp only[Gh.mk.injEq];refine⟨funext λi=>?_,funext λi=>?_,funext λi=>?_⟩<;>by_cases r:i=id<;>simp[r,fG]
  rw[K,Ya]at q1 q2;exact⟨q1,J.2.trans q2⟩
 have all: ∀k,JN X (h.at_ id none (g+(k+1)) (h.cap id)) (H.set id (.live (g+(k+1)) [])) w/\Ha h H w (h.at_ id none (g+(k+1)) (h.cap id)) (H.set id (.live (g+(k+1)) [])) w:=by
  intro k;induction k with
  |zero=>exact s.bump n d
  |succ k N=>exact key _ _ (k+1) rfl rfl N
 have:=all (m-g);rw[show g+(m-g+1)=m+1 by omega]at this;rw[d];exact this;have b:h.io id=some B:=D;have a:j.size=h.cap id:=o;have:=s.upd (g':=g') (B:=B) (arr:=j) (T:=T) (fz:=G) (w':=w) n I (λ_=>⟨b,a.symm⟩) (.inl b) L (λ_ _ _=>rfl) rfl rfl rfl (Am _) ⟨f,E,C,c⟩;rw[a]at this;rw[b];exact this
end
section
variable {P:Program} {N:Nat} {o:Oper} {env:Env} {H:Az} {K:AY->Az->Prop}
def Bp.regen{id g g' sz off n:Nat}(a:h.gen id=g)(X:Bp (cx M h H j) (.sl id g sz off n) r):
  Bp (cx M (h.at_ id (h.io id) g' (h.cap id)) (H.set id I) j) (.sl id g' sz off n) r:=by
 cases X with
 |sl b i d f=>refine .sl (by simpa[cx]using b) (by simp[cx,Gh.at_]) d λ_=>?_;have:=f a;simpa[cx,Gh.at_]using this
def JM.regen{id g g' sz off n:Nat}{cs:List AY}{H1:Az}(j:g<=g')(d:H1[id]? =some (FU.live g cs))(h:JM P N o env H λv b=>v= .sl id g sz off n/\b=H1)(k:K (.sl id g' sz off n) (H1.set id (.live g' cs))):JM P N o env H K:=by intro r X f a w s Q;apply Wd (h r X f a w s Q);rintro p t ⟨c,v,q,b,i,⟨rfl,rfl⟩,l,e,m⟩;obtain⟨q1,q2⟩:=e.regen (g':=g') d j;exact⟨c,_,_,_,i,k,Bp.regen (e.live id g cs d).1 l,q1,m.trans q2⟩
theorem SO{sx xx:Operand}{t e:TypeId}{id g g' n sz m:Nat}{cs news:List AY}(ho:o.op= .call {callee:=.builtin .append,args:= #[sx,xx],argTypes:= #[t,t]})(he:eI P t=some (none,e,sz))(S:0<sz)(b3:SX P e=true)
  (hs:BJ env sx= .sl id g sz 0 n) (Z:H[id]? =some (FU.live g cs)) (hn:cs.length=n*sz) (hx:Nz H sz (BJ env xx)=some (m,news)) (bb:n+m<=16777216)
  (b7:g<g'\/(g'=g/\m=0)) (hk:K (.sl id g' sz 0 (n+m)) (H.set id (.live g' (cs++news)))):JM P N o env H K:=by
 apply Cv (by rw[ho];rfl);intro X h a w s Q;obtain⟨a6,b,hi⟩:=Q5 he;obtain⟨i,z,y,bm,hz,b5⟩:=Uk b3;have u:=mF hi y;have rs:=DU s.env sx;rw[hs]at rs;have rx:=DU s.env xx;obtain⟨ao,a8⟩:=s.sim.live id g cs Z;have bN:h.gen id=g:=ao;have L:id<H.length:=by rcases Au id H.length with U|U;exact U;grind[List.getElem?_eq_none]
 have a5:Nz H sz (.sl id g sz 0 n)=some (n,cs):=by grind[Nz]
 unfold Oper.wp;have bt:(h.io id=none/\n=0/\a.eval sx= .slice none 0 0)\/ ∃B cap,h.io id=some B/\n<=cap/\cap*sz<=h.cap id/\a.eval sx= .slice (some ⟨B,0,none⟩) n cap:=by
  generalize a.eval sx=c at rs;cases rs with
  |sl p q r hc=>rcases hc ao with⟨h1,U,_,h3⟩|⟨B,cap,h1,U,h3,h4⟩;exact .inl ⟨h1,U,h3⟩;exact .inr ⟨B,cap,h1,U,by simpa[cx]using h3,h4⟩
 have al: ∀(l:Option Addr) (cap:Nat),a.eval sx= .slice l n cap→cap<n+m→0<m→
   Oper.upon P o a (λa' V=> ∃c v h' H',a'=a.put o.dst c/\K v H'/\Bp (cx X h' H' V) v c/\JN X h' H' V/\Ha h H w h' H' V) Q ((execOp a.eval o).run P w):=by
  intro l cap A a1 b1;have sd:=s.sim.drew;obtain⟨ax,ag,G,a7,O,d,D,_,J⟩:=Ox (P:=P) sd (rx.later (Ha.drew.later X)) S hx;obtain⟨_,_,_,_,_,_,_,a2,_⟩:=Ox (P:=P) s.sim rx S hx;obtain⟨_,_,os,_,_,R,a4,_,bG⟩:=Ox (P:=P) sd (rs.later (Ha.drew.later X)) S a5;obtain⟨C,hC,E⟩:=qt (ty:=o.type) (base:=l) (n:=n) (cap:=cap) (os:=os) a6 y hz bm a2 (by rw[u,<-A];exact bG) (by rw[u];exact J) a1 bb;rw[RV ho (by rw[A];exact E),Oper.upon_value];have hh:Holds (cx X h H w.drew) (cs++news) (os.toArray++G.toArray++Builtin.zeroCells z.cells (C-(n+m))) (0,0):=vr R d a4 D;obtain⟨q1,q2⟩:=sd.upd (g':=g') (B:=w.heap.size) (T:=e) (fz:=(0,0)) (w':={w.drew with heap:=w.drew.heap.push (.cells (os.toArray++G.toArray++Builtin.zeroCells z.cells (C-(n+m))) e)}) Z o! (λbd=>o!)
   (.inr (Am _)) (by show(w.heap.push _)[w.heap.size]? =_;simp) (λk hk bd=>by show(w.heap.push _)[k]? =w.heap[k]?;rw[Tr,if_neg bd]) rfl rfl rfl (by show w.heap.size<=(w.heap.push _).size;simp) hh
  refine⟨_,_,_,_,rfl,hk,.sl (by simpa[cx]using L) (by simp[cx,Gh.at_]) ⟨_,_,rfl⟩ λ_=>.inr ⟨w.heap.size,C,by simp[cx,Gh.at_],hC,?_,rfl⟩,q1,Ha.drew.trans q2⟩;have e1:G.length=m*sz:=by rw[d.1,O]
  have e2:os.length=n*sz:=by rw[R.1,hn]
  simp only[cx,Gh.at_,if_true,Array.size_append,fE,ZO,b5,u,e1,e2];have:(C-(n+m))*sz+(n*sz+m*sz)=C*sz:=by rw[<-FG,<-FG];congr 1;omega
  omega
 rcases bt with⟨F,rfl,A⟩|⟨B,cap,F,b6,I,A⟩;rcases WL m with hm|hm;subst hm;obtain⟨ax,ag,G,a7,O,d,D,M,J⟩:=Ox (P:=P) s.sim rx S hx;have a3:news=[]:=EL o!;subst a3;have bz:cs=[]:=EL o!;subst bz;have b4:G=[]:=EL d.1;subst b4;have E:=nB (ty:=o.type) (base:=none) (n:=0) (cap:=0) (w':=w) a6 y M (by rw[u];exact J) o! rfl;rw[RV ho (by rw[A];exact E),Oper.upon_value];obtain⟨q1,q2⟩:=s.sim.regen (g':=g') Z o!;rw[F]at q1 q2;rw[D4]at hk;exact⟨_,_,_,_,rfl,hk,.sl (by simpa[cx]using L) (by simp[cx,Gh.at_]) ⟨_,_,rfl⟩ λ_=>.inl ⟨by simp[cx,Gh.at_],rfl,rfl,rfl⟩,q1,q2⟩;exact al none 0 A o! hm;rcases Au cap (n+m)with b0|a0;exact al _ cap A b0 o!;obtain⟨ax,ag,G,a7,O,d,D,M,J⟩:=Ox (P:=P) s.sim rx S hx;rcases a8 with⟨bl,_⟩|⟨B',W,T,fz,f,ap,hb,ar,b9,a9,Y⟩;rw[show(cx X h H w).io id=h.io id from rfl,F]at bl;cases bl;rw[show(cx X h H w).io id=h.io id from rfl,F]at ap;injection ap with e0;subst e0;have x:W.size=h.cap id:=ar;have e1:G.length=m*sz:=by rw[d.1,O]
 have b2:n*sz+m*sz<=W.size:=by rw[<-FG,x];exact Cz (O6 _ a0) I
 obtain⟨V,ad,p1,p2,p3,p4,p5,p6,p7,p8,p9⟩:=Vj (P:=P) (off:=n*sz) G 0 W w hb o! a9 D;have E:=nB (ty:=o.type) (base:=some ⟨B,0,none⟩) (n:=n) (cap:=cap) (w':=V) a6 y M (by rw[u];exact J) a0 (by rw[u];simp only[O4,D7];exact p1);rw[RV ho (by rw[A];exact E),Oper.upon_value];have hh:Holds (cx X h H w) (cs++news) ad fz:=by
  refine⟨λj=>if n*sz<=j/\j<n*sz+m*sz then G.getD (j-n*sz) undef else f j,by simp[hn,O];omega,by rw[p3];exact a9,λj v hj=>?_⟩;rw[p4];simp only[Qy,e1];rcases Au j cs.length with U|U;rw[CL U]at hj;rw[if_neg o!,if_neg o!];exact Y j v hj;rw[Cb U]at hj;have b8:j-cs.length<news.length:=by rcases Au (j-cs.length) news.length with h3|h3;exact h3;rw[Cc h3]at hj;cases hj
  rw[if_pos o!,if_pos o!];have hg:G[j-n*sz]? =some (G[j-n*sz]' o!):=A4 o!;have eg:G.getD (j-n*sz) undef=G[j-n*sz]' o!:=by rw[Ra,hg];rfl
  rw[eg];refine⟨hg,D _ (Rc _),d.2 _ v _ hj ?_⟩;rw[hn];exact hg
 obtain⟨q1,q2⟩:=s.sim.upd (g':=g') (B:=B) (arr:=ad) (T:=T) (fz:=fz) (w':=V) Z o! (λ_=>⟨F,by rw[p3,x]⟩) (.inl F) p2 (λk _ hk=>p5 k hk) p6 p7 p8 (by rw[p9];exact Am _) hh;refine⟨_,_,_,_,rfl,hk,.sl (by simpa[cx]using L) (by simp[cx,Gh.at_]) ⟨_,_,rfl⟩ λ_=>.inr ⟨B,cap,by simp[cx,Gh.at_],a0,?_,rfl⟩,q1,q2⟩;simp only[cx,Gh.at_,if_true,p3,D7,x];exact I
theorem dW{h:Operand}{m:Nat}(j:o.op= .call {callee:=.builtin .append,args:= #[g,h],argTypes:= #[b,b]})(i:eI P b=some (none,V,n))(f:0<n)(c:SX P V=true)
  (k:BJ env g= .nils) (l:Nz H n (BJ env h)=some (m,d)) (e:m<=16777216) (a:K (.sl H.length m n 0 m) (H++[.live m d])):JM P N o env H K:=by
 apply JM.regen (id:=H.length) (g:=0) (g':=m) (cs:=d) (Bi _) k! (JM.append_nil j i f c k l e ⟨rfl,rfl⟩);grind
theorem UB{t:TypeId}{len sz:Nat}{vs:List AY}(b:o.op= .buildSlice t len q)(c:TJ P env t len q=some (sz,vs))
  (d:K (.sl H.length vs.length sz 0 vs.length) (H++[.live vs.length (vs.flatMap AY.cells)])):JM P N o env H K:=by
 apply JM.regen (id:=H.length) (g:=0) (g':=vs.length) (cs:=vs.flatMap AY.cells) (Bi _) k! (dX b c ⟨rfl,rfl⟩);grind
theorem JM.makeSlice{y:Operand}{r:IntKind}(k:o.op= .makeSlice b g y)(j:eI P b=some (none,V,n))(s:0<n)(e:SX P V=true)(q:ZN P V=some d)(t:d.length=n)
  (m:BJ env g= .int C i) (p:BJ env y= .int r a) (f:0<=i) (h:i<=a) (c:a<=16777216) (u:K (.sl H.length i.toNat n 0 i.toNat) (H++[.live i.toNat (List.replicate i.toNat d).flatten])):JM P N o env H K:=by
 refine JM.regen (id:=H.length) (g:=0) (g':=i.toNat) (cs:=(List.replicate i.toNat d).flatten) (H1:=H++[.live 0 (List.replicate i.toNat d).flatten]) (sz:=n) (off:=0) (n:=i.toNat) (Bi _) k! (mP k j s e q t m p f h c ⟨rfl,rfl⟩) q!
end
section
variable {P:Program} {N:Nat} {o:Oper} {env:Env} {H:Az} {K:AY->Az->Prop}
def mY(s:List UInt8):List AY:=s.map λb=>.int .u8 (b.toNat:Int)
theorem oU{e:TypeId}(q:o.op= .convert b V g)(F:P.underlying b=some S)(y:P.underlying V=some (.slice e))(z:P.underlying e=some (.int .u8))
  (J:BJ env g= .str O) (E:K (.sl H.length 0 1 0 O.length) (H++[.live 0 (mY O)])):JM P N o env H K:=by
 apply Cv (by rw[q];rfl);intro X h a w st Q;have n:=DU st.env g;rw[J]at n;generalize r:a.eval g=c at n;cases n with
 |str t G=>
  have l:t.size=O.length:=by rw[<-G];rfl
  have k:(execOp a.eval o).run P w= .ok (.value (.slice (some ⟨w.heap.size,0,none⟩) t.size (grownCap w t.size 0 e))) (Lib.bytesWorld w e t):=by have:=Lib.run_convert_string_bytes w b V e t F y z;unfold execOp;rw[q];simp[resolve,r,this]
  unfold Oper.wp;rw[k,Oper.upon_value];have B:=grownCap_ge w t.size 0 e;have m:(Lib.bytesCells w e t).size=grownCap w t.size 0 e:=by grind[Lib.bytesCells,Array.size_append,Array.size_map,Array.size_replicate]
  have L:=st.sim.drew;have I:Lib.bytesWorld w e t={w.drew with heap:=w.drew.heap.push (.cells (Lib.bytesCells w e t) e ((Lib.bytesCells w e t).size,(Lib.bytesCells w e t).size+1))}:=by unfold Lib.bytesWorld World.freeze World.alloc;rw[if_neg g!];show World.mk _ _ _ _ _=World.mk _ _ _ _ _;congr 1;apply Array.ext_getElem?;intro j;have m:w.drew.heap.size=w.heap.size:=rfl;grind
  rw[I];have C:Holds (cx X h H w.drew) (mY O) (Lib.bytesCells w e t) ((Lib.bytesCells w e t).size,(Lib.bytesCells w e t).size+1):=by
   refine⟨λj=>.int .u8 ((O.getD j 0).toNat:Int),by simp[mY];omega,λi M=>?_,λj v f=>?_⟩;grind;unfold mY at f;rw[CE]at f;cases p:O[j]? with
   |none=>grind
   |some d=>
    rw[p]at f;simp only[Bn,Al]at f;subst f;have D:j<O.length:=by grind[Nat.lt_or_ge,List.getElem?_eq_none]
    have A:O.getD j 0=d:=by rw[Ra,p];rfl
    refine⟨?_,rfl,?_⟩;grind[Lib.bytesCells,Array.getElem?_append_left];simp only[A];exact .int _ _
  refine⟨_,_,_,_,rfl,E,.sl (by simp[cx]) (by simp[cx,Gh.at_]) ⟨_,_,by rw[l]⟩ λ_=>.inr ⟨w.heap.size,grownCap w t.size 0 e,?_,o!,?_,by rw[l]⟩,L.push _ e _ (mY O) C,Ha.drew.trans (Ha.push _ _ _)⟩;have:w.drew.heap.size=w.heap.size:=rfl;simp[cx,Gh.at_,this];simp only[cx,Gh.at_,if_true];omega
theorem qG{e:TypeId}(f:o.op= .convert b V g)(h:P.underlying b=some S)(c:P.underlying V=some (.slice e))(d:P.underlying e=some (.int .u8))
  (i:BJ env g= .str O) (j:K (.sl H.length O.length 1 0 O.length) (H++[.live O.length (mY O)])):JM P N o env H K:=by
 refine JM.regen (id:=H.length) (g:=0) (g':=O.length) (cs:=mY O) (H1:=H++[.live 0 (mY O)]) (sz:=1) (off:=0) (n:=O.length) (Bi _) k! (oU f h c d i ⟨rfl,rfl⟩) q!
end
def Fv.virtC{N:Nat}{env:Env}{b g i sz:Nat}(Q:H[b]? =some (FU.live g d))(hi:d[i]? =some .nils):
  Fv N H.length env H env (H.set b (.live g (d.set i (.sl H.length 0 sz 0 0)))++[.live 0 []]):=by
 have J:b<H.length:=by rcases Au b H.length with P|P;exact P;rw[Cc P]at Q;cases Q
 refine⟨k!,λX h a w s=>⟨h.at_ H.length none 0 0,?_,λid ao=>by simp[Gh.at_,BZ ao],?_⟩⟩;have O:=s.sim.virt;have hx:=Ha.virt (h:=h) (H:=H) (w:=w);have W:=hx.later X
 have key: ∀(j:Nat) (e:FU),(H.set b (.live g (d.set i (.sl H.length 0 sz 0 0)))++[FU.live 0 []])[j]? =some e→
   (j≠b/\(H++[FU.live 0 []])[j]? =some e)\/(j=b/\e= .live g (d.set i (.sl H.length 0 sz 0 0))):=by
  intro j e p;rcases Au j H.length with y|y;rw[CL (by simpa using y),cD]at p;split at p;rename_i G;subst G;injection p with p;exact .inr ⟨rfl,p.symm⟩;rename_i G;exact .inl ⟨λe=>G e.symm,by rw[CL y];exact p⟩;refine .inl ⟨o!,?_⟩;rw[Cb (by simpa using y)]at p;rw[Cb y];simpa using p
 have E: ∀B,owned (h.at_ H.length none 0 0) (H.set b (.live g (d.set i (.sl H.length 0 sz 0 0)))++[.live 0 []]) B->owned (h.at_ H.length none 0 0) (H++[.live 0 []]) B:=by rintro B ⟨j,e,p,z,o⟩;rcases key j e p with⟨_,q⟩|⟨rfl,rfl⟩;exact⟨j,e,q,z,o⟩;exact⟨j,_,by rw[CL J];exact Q,k!,o⟩
 have C:(cx X (h.at_ H.length none 0 0) (H++[.live 0 []]) w).Later (cx X (h.at_ H.length none 0 0) (H.set b (.live g (d.set i (.sl H.length 0 sz 0 0)))++[.live 0 []]) w):={size:=Am _,keep:=λ_ _ _ _=>rfl,own:=λB _ ho=>ho.imp _root_.id (E B),n:=by simp[cx],gen:=λ_ _=>Am _,same:=λ_ _ _=>⟨rfl,rfl⟩}
 refine⟨⟨λB Y=>⟨(O.out B Y).1,λho=>(O.out B Y).2 (E B ho)⟩,λj g0 ad p=>?_,λj L p=>?_,λj k e e' B q P ar ax h3 h4=>?_,O.bldKeep λj e p Y=>?_⟩,λt v m=>?_,s.size⟩;rcases key j _ p with⟨_,q⟩|⟨rfl,q⟩;obtain⟨U,hh⟩:=O.live j g0 ad q;refine⟨U,?_⟩;rcases hh with⟨o,h0⟩|⟨B,F,T,fz,f,o,I,x,M,K,l⟩;exact .inl ⟨o,h0⟩;exact .inr ⟨B,F,T,fz,f,o,I,x,M,K,λk v u=>⟨(l k v u).1,(l k v u).2.1,(l k v u).2.2.later C⟩⟩;injection q with h5 h6;subst h5 h6;obtain⟨U,hh⟩:=O.live j g0 d (by rw[CL J];exact Q);refine⟨U,?_⟩;rcases hh with⟨o,h0⟩|⟨B,F,T,fz,f,o,I,x,M,K,l⟩;subst h0;simp at hi;refine .inr ⟨B,F,T,fz,f,o,I,x,by simpa using M,K,λk v u=>?_⟩;rw[cD]at u;split at u;rename_i ap;subst ap;split at u;injection u with u;subst u;obtain⟨p1,Z,p3⟩:=l i _ hi;refine⟨p1,Z,?_⟩;generalize f i=c at p3 Z;cases p3;exact .sl (by simp[cx]) (by simp[cx,Gh.at_]) ⟨_,_,rfl⟩ λ_=>.inl ⟨by simp[cx,Gh.at_],rfl,rfl,rfl⟩;cases u;obtain⟨p1,Z,p3⟩:=l k v u;exact⟨p1,Z,p3.later C⟩;rcases key j _ p with⟨_,q⟩|⟨rfl,q⟩;obtain⟨U,B,r,q1,q2,q3,q4,q5,q6,q7,q8,q9⟩:=O.lp j L q;exact⟨U,B,r,q1,q2,q3,q4,q5,q6,q7,q8,λt v m=>⟨(q9 t v m).1,(q9 t v m).2.later C⟩⟩;cases q;have back: ∀{j:Nat} {e:FU},(H.set b (.live g (d.set i (.sl H.length 0 sz 0 0)))++[FU.live 0 []])[j]? =some e->e≠ .dead-> ∃e0,(H++[FU.live 0 []])[j]? =some e0/\e0≠ .dead:=by intro j e p z;rcases key j _ p with⟨_,q⟩|⟨rfl,q⟩;exact⟨e,q,z⟩;exact⟨_,by rw[CL J];exact Q,k!⟩
 obtain⟨A,ag,al⟩:=back q ar;obtain⟨d',R,S⟩:=back P ax;exact O.inj j k _ _ B ag R al S h3 h4;rcases key j _ p with⟨_,q⟩|⟨rfl,q⟩;exact⟨q,rfl,rfl,rfl,λ_ _ _ _ _=>rfl⟩;subst q;cases Y;exact⟨(s.env t v m).1,((s.env t v m).2.later W).later C⟩;rintro B ⟨j,e,p,z,o⟩;rcases Au j H.length with y|y;have D:h.io j=some B:=by simpa[Gh.at_,BZ y]using o
 by_cases V:j=b;subst V;exact⟨j,_,Q,k!,D⟩;rw[CL (by simpa using y),Dw (λe=>V e.symm)]at p;exact⟨j,e,p,z,D⟩;rw[Cb (by simpa using y)]at p;have:j=H.length:=by rcases Nat.eq_or_lt_of_le y with e|P;exact e.symm;rw[Cc w!]at p;cases p
 subst this;simp[Gh.at_]at o
def Bp.nil_vs{x:Cx}(a:0<N)(c:Bp x .nils r):Bp x (.vs N []) r:=by cases c;exact Bp.vs (rows:=[]) (cap:=0) (λ_ _=>undef) (Am _) a (λ_ _ h=>by simp at h) (λh=>(h rfl).elim) λ_ _ _ _ h=>by simp at h
def Fv.subset{N:Nat}{H:Az}(h: ∀q∈W,q∈f):Fv N H.length f H W H:=⟨Am _,λ_ g _ _ s=>⟨g,⟨s.sim,λt v m=>s.env t v (h _ m),s.size⟩,λ_ _=>⟨rfl,rfl,rfl⟩,λ_ h=>h⟩⟩
section
variable {P:Program}
theorem ACB{b:Operand→AY}(h:callT b T=some (.inl (p,d))):
  ∃c f first a,T= .call c/\c.callee= .value f/\b f= .fn (.func p) first a/\d=first++c.args.toList.map b++a:=by
 unfold callT at h;grind
section
variable {N:Nat} {o:Oper} {env:Env} {H H':Az} {v:AY}
def o6{F:FuncId}{vs:List AY}(h:callT (BJ env) o.op=some (.inl (F,vs)))(d:Enters P F=true)(e:EM P F vs H (C6 v H')):JM P N o env H (C6 v H'):=by obtain⟨c,f,first,b,i,a,g,rfl⟩:=ACB h;exact qF i a g d e
end
end
mutual
theorem RU{p q:Nat->Bool}(h: ∀id,p id=true->q id=true): ∀v:AY,v.idsAll p=true->v.idsAll q=true
 | .ptr id g off,k=>h id k
 | .sl id g sz off len,k=>h id k
 | .yf id,k=>h id k
 | .mp id,k=>h id k
 | .itp id m,k=>by simp only[AY.idsAll,BO]at k⊢;exact⟨h id k.1,h m k.2⟩
 | .vptr cs,k=>JK h cs k
 | .vs sz rows,k=>JK h rows k
 | .fn f a b,k=>by simp only[AY.idsAll,BO]at k⊢;exact⟨JK h a k.1,JK h b k.2⟩
 | .agg cs,k=>JK h cs k
 | .tup cs,k=>JK h cs k
 | .bool _,_=>rfl
 | .int _ _,_=>rfl
 | .str _,_=>rfl
 | .nilp,_=>rfl
 | .nils,_=>rfl
 | .nilf,_=>rfl
 | .any,_=>rfl
theorem JK{p q:Nat->Bool}(h: ∀id,p id=true->q id=true): ∀l:List AY,AY.idsAllL p l=true->AY.idsAllL q l=true
 |[],_=>rfl
 |v::r,k=>by simp only[AY.idsAllL,BO]at k⊢;exact⟨RU h v k.1,JK h r k.2⟩
end
mutual
theorem AEX(c d:Nat->Nat): ∀v:AY,(v.ren c).ren d=v.ren λid=>d (c id)
 | .ptr id g i=>rfl
 | .sl id g sz i len=>rfl
 | .yf id=>rfl
 | .mp id=>rfl
 | .itp _ _=>rfl
 | .vptr e=>by simp only[AY.ren,Ui c d e]
 | .vs sz h=>by simp only[AY.ren,Ui c d h]
 | .fn f a b=>by simp only[AY.ren,Ui c d a,Ui c d b]
 | .agg e=>by simp only[AY.ren,Ui c d e]
 | .tup e=>by simp only[AY.ren,Ui c d e]
 | .bool _=>rfl
 | .int _ _=>rfl
 | .str _=>rfl
 | .nilp=>rfl
 | .nils=>rfl
 | .nilf=>rfl
 | .any=>rfl
theorem Ui(a b:Nat->Nat): ∀l:List AY,AY.renL b (AY.renL a l)=AY.renL (λid=>b (a id)) l
 |[]=>rfl
 |v::r=>by simp only[AY.renL,AEX a b v,Ui a b r]
end
mutual
theorem AAN{p q:Nat->Bool}{c:Nat->Nat}(h: ∀id,p id=true->q (c id)=true): ∀v:AY,v.idsAll p=true->(v.ren c).idsAll q=true
 | .ptr id g off,k=>h id k
 | .sl id g sz off len,k=>h id k
 | .yf id,k=>h id k
 | .mp id,k=>h id k
 | .itp id m,k=>by simp only[AY.ren,AY.idsAll,BO]at k⊢;exact⟨h id k.1,h m k.2⟩
 | .vptr cs,k=>Ov h cs k
 | .vs sz rows,k=>Ov h rows k
 | .fn f a b,k=>by simp only[AY.ren,AY.idsAll,BO]at k⊢;exact⟨Ov h a k.1,Ov h b k.2⟩
 | .agg cs,k=>Ov h cs k
 | .tup cs,k=>Ov h cs k
 | .bool _,_=>rfl
 | .int _ _,_=>rfl
 | .str _,_=>rfl
 | .nilp,_=>rfl
 | .nils,_=>rfl
 | .nilf,_=>rfl
 | .any,_=>rfl
theorem Ov{p q:Nat->Bool}{a:Nat->Nat}(h: ∀id,p id=true->q (a id)=true): ∀l:List AY,AY.idsAllL p l=true->AY.idsAllL q (AY.renL a l)=true
 |[],_=>rfl
 |v::r,k=>by simp only[AY.renL,AY.idsAllL,BO]at k⊢;exact⟨AAN h v k.1,Ov h r k.2⟩
end
def Pure(v:AY):Prop:=v.idsAll (λ_=>false)=true
def si(e:FU):Prop:=match e with| .live _ cs=>AY.idsAllL (λ_=>false) cs=true|_=>False
def Pure.all(h:Pure s)(p:Nat->Bool):s.idsAll p=true:=RU (λ_ e=>by cases e) s h
def Pure.ren{v:AY}(h:Pure v)(ρ:Nat->Nat):v.ren ρ=v:=AAt (p:=λ_=>false) (λ_ e=>by cases e) v h
def si.all(h:si I)(p:Nat->Bool):I.idsAll p=true:=by
 cases I with
 |live g a=>exact JK (λ_ I=>by cases I) a h
 |_=>cases h
def si.ren(h:si I)(ρ:Nat->Nat):I.ren ρ=I:=by
 cases I with
 |live g a=>simp only[FU.ren];rw[YG (p:=λ_=>false) (λ_ I=>by cases I) a h]
 |_=>cases h
theorem EM.sub{P:Program}{K:AY→Az→Prop}(bs:List Nat){Qc:AY→Az→Prop}(a:bs.Nodup)(g: ∀b∈bs,b<H.length)
  (t: ∀b∈bs,((H.getD b .dead).idsAll λid=>decide (id∈bs))=true) (k:AY.idsAllL (λid=>decide (id∈bs)) d=true)
  (y:EM P p (AY.renL (bs.idxOf ·) d) (Zz H bs) Qc) (A: ∀v i,Qc v i->K (v.ren (TZ H bs)) (Vf H bs i)):EM P p d H K:=by
 intro X h w c s o f;refine(y (Xs X h H bs) (XA h bs) w c (s.sub a t) (by simpa[Ol]using o) ?_).mono ?_;intro j v n l z;rw[Ol,CE]at l;cases r:d[j]? with
 |none=>grind
 |some u=>rw[r]at l;simp at l;subst l;exact Bp.ren (p:=λid=>decide (id∈bs)) (λid=>xt id) rfl AEm (f j u n r z) (M0 k r)
 rintro e E ⟨n,v,m,i,rfl,q,D,C,x⟩;have B:bs.length<=i.length:=by have:=x.n;simpa[Zz]using this
 exact⟨n,_,Nl h H bs m,Vf H bs i,rfl,A v i q,s.back a g x D,Bp.back a g B C,Ha.back a g x⟩
theorem rX{f:Nat->Nat}: ∀(bs:List Nat) (H a:Az),(∀e∈a,si e)->bq f H bs a=AGM H (bs.zip a)
 |[],H,a,_=>by cases a<;>rfl
 |b::bs,H,[],_=>rfl
 |b::bs,H,e::es,h=>by simp only[bq,List.zip_cons_cons,AGM];rw[(h e k!).ren,rX bs _ es λc d=>h c (by simp[d])]
theorem EM.frame{F c H:Az}(bs:List Nat)(y:EM P p d F (C6 s c))(l:bs.Nodup)(w:F.length=bs.length)(x:c.length=bs.length)
  (m: ∀(j b:Nat) (e:FU),bs[j]? =some b->F[j]? =some e->H[b]? =some e) (o: ∀e∈F,si e) (A: ∀e∈c,si e) (v:Pure s)
  (q:AY.renL (λj=>bs.getD j 0) d=Z) (z:AY.idsAllL (λj=>decide (j<bs.length)) d=true):EM P p Z H (C6 s (AGM H (bs.zip c))):=by
 have get: ∀b∈bs,∃(j:Nat) (e:FU),bs[j]? =some b/\F[j]? =some e/\H[b]? =some e:=by
  intro b i;obtain⟨j,n,e⟩:=WG.1 i;have h:bs[j]? =some b:=q!
  have f:F[j]? =some (F[j]' o!):=A4 o!;exact⟨j,_,h,f,m j b _ h f⟩
 have k: ∀b∈bs,b<H.length:=q!
 have g:Zz H bs=F:=by
  apply I2;intro j;unfold Zz;rw[CE];cases n:bs[j]? with
  |none=>grind[List.getElem?_eq_none_iff,List.getElem?_eq_none]
  |some b=>
   have r:j<bs.length:=by grind[Nat.lt_or_ge,List.getElem?_eq_none]
   have f:F[j]? =some (F[j]' o!):=A4 o!;have a:=m j b _ n f;rw[f,Bn,Ra,a,my,(o _ (Rc _)).ren]
 refine EM.sub bs (Qc:=C6 s c) l k (λb i=>?_) ?_ ?_ ?_;obtain⟨j,e,_,h,f⟩:=get b i;rw[Ra,f,my];exact(o e (BU h)).all _;grind[Ov,List.getElem?_eq_getElem,List.getElem_mem];rw[g,<-q,Ui];grind[AY.renL,YG,qR,List.getElem?_eq_getElem];rintro u t ⟨rfl,rfl⟩;refine⟨v.ren _,?_⟩;grind[Vf,rX,List.drop_eq_nil_of_le]
structure Ur(α:Type)where
 sz:Nat
 f:α->AY
 pos:0<sz
 len: ∀x,(f x).cells.length=sz
 pure: ∀x,Pure (f x)
def Ur.cl(e:Ur R)(l:List R):List AY:=(l.map e.f).flatMap AY.cells
theorem Ur.clen{a:Type}(e:Ur a): ∀l:List a,(e.cl l).length=l.length*e.sz
 |[]=>by simp[Ur.cl]
 |x::l=>by have:=Ur.clen e l;simp only[Ur.cl,Bt,IA,Aa,e.len]at this⊢;grind
def xF(k:IntKind):Ur Int:=⟨1,.int k,g!,λ_=>rfl,λ_=>rfl⟩
abbrev BW:=List UInt8
def ix{α:Type}(l:List α)(i:Int):Option α:=if 0<=i then l[i.toNat]? else none
def app{α:Type}(l xs:List α):Option (List α):=if l.length+xs.length<=16777216 then some (l++xs)else none
theorem AJQ{f:R->AY}{l:List R}{x:R}(h:ix l i=some x):0<=i/\(l.map f)[i.toNat]? =some (f x):=by unfold ix at h;grind
theorem np{l a r:List R}(h:app l a=some r):l.length+a.length<=16777216/\r=l++a:=by grind[app]
def AHV(e:Ur R)(l:List R):ABC e.sz (e.cl l) (l.map e.f):=⟨e.pos,λv b=>by obtain⟨x,_,rfl⟩:=Bl.1 b;exact e.len x,rfl⟩
inductive Step(S R:Type)where
 |next (s:S)
 |done (r:R)
def eP{S R:Type}(body:S->Option (Step S R)):Nat->S->Option R
 |0,_=>none
 |n+1,s=>
  match body s with
  |some (.next s')=>eP body n s'
  |some (.done r)=>some r
  |none=>none
theorem AAU{body:J->Option (Step J R)}{s:J}{r:R}(h:eP body n s=some r):eP body (n+1) s=some r:=by induction n generalizing s<;>grind[eP]
theorem AD4{body:J->Option (Step J R)}{s:J}{r:R}(h:eP body n s=some r)(a:n<=N):eP body N s=some r:=by induction a<;>grind[AAU]
open Classical in
noncomputable def AZ{S R:Type}(body:S->Option (Step S R))(s:S):Option R:=if h: ∃r n,eP body n s=some r then some h.choose else none
theorem lu{body:J->Option (Step J R)}{s:J}{r:R}:AZ body s=some r↔ ∃n,eP body n s=some r:=by
 unfold AZ;constructor;intro h;split at h<;>grind;rintro⟨n,hn⟩;have a: ∃r n,eP body n s=some r:=⟨r,n,hn⟩
 grind[AD4]
theorem Dv(body:J→Option (Step J R))(s:J):AZ body s=match body s with
  |some (.next b)=>AZ body b
  |some (.done r)=>some r
  |none=>none:=by
 apply Option.ext;intro r;rw[lu];constructor
 ·rintro⟨n,h⟩;cases n with
  |zero=>cases h
  |succ n=>
   rw[eP]at h;cases a:body s with
   |none=>rw[a]at h;cases h
   |some q=>
    rw[a]at h;cases q with
    |next b=>exact lu.2 ⟨n,h⟩
    |done r=>exact h
 ·intro h;cases a:body s with
  |none=>rw[a]at h;cases h
  |some q=>
   rw[a]at h;cases q with
   |next b=>obtain⟨n,hn⟩:=lu.1 h;exact⟨n+1,by rw[eP,a];exact hn⟩
   |done c=>exact⟨1,by rw[eP,a];exact h⟩
def ACW{body:J->Option (Step J R)}(C:J->R->Prop)(c: ∀s b r,body s=some (.next b)->C b r->C s r)(d: ∀s r,body s=some (.done r)->C s r){s:J}{r:R}(h:AZ body s=some r):C s r:=by
 obtain⟨n,hn⟩:=lu.1 h;clear h;induction n generalizing s with
 |zero=>cases hn
 |succ n e=>
  rw[eP]at hn;cases a:body s with
  |none=>rw[a]at hn;cases hn
  |some q=>
   rw[a]at hn;cases q with
   |next b=>exact c s b r a (e hn)
   |done f=>injection hn with hn;subst hn;exact d s f a
theorem bnd{x:Option R}{k:R->Option J}{r:J}(h:x.bind k=some r): ∃a,x=some a/\k a=some r:=by cases x<;>grind
abbrev GF(n:Nat)(α:Type):=Fin n->α
def GF.all{n:Nat}{α:Type}(x:α):GF n α:=λ_=>x
def fM(n:Nat)(e:Ur R)(a:GF n R):List AY:=(List.finRange n).flatMap λi=>(e.f (a i)).cells
def ADM(n:Nat)(e:Ur R)(a:GF n R):(fM n e a).length=n*e.sz:=by
 unfold fM;have: ∀l:List (Fin n),(l.flatMap λi=>(e.f (a i)).cells).length=l.length*e.sz:=by
  intro l;induction l with
  |nil=>simp
  |cons x l c=>rw[IA,Aa,c,e.len];simp[FG,mv]
 rw[this,List.length_finRange]
def Fp{n:Nat}(a:GF n R)(i:Int):Option R:=if h:0<=i/\i.toNat<n then some (a ⟨i.toNat,h.2⟩)else none
def XD{n:Nat}(a:GF n R)(i:Int)(v:R):GF n R:=λj=>if(j.val:Int)=i then v else a j
theorem pL{a:GF n R}{x:R}(h:Fp a i=some x):0<=i/\ ∃k:Fin n,i=(k.val:Int)/\a k=x:=by grind[Fp]
theorem ti(g:R→List J)(sz:Nat)(c: ∀x,(g x).length=sz)(l1:List R)(x:R)(l2:List R):
  (l1++x::l2).flatMap g=l1.flatMap g++g x++l2.flatMap g/\(l1.flatMap g).length=l1.length*sz:=by
 induction l1<;>grind
theorem tY(k:Fin n): ∃l1 l2,List.finRange n=l1++k::l2/\l1.length=k.val/\k∉l1/\k∉l2:=by
 refine⟨(List.finRange n).take k.val,(List.finRange n).drop (k.val+1),?_,q!,?_,?_⟩;have a:(List.finRange n).drop k.val=k::(List.finRange n).drop (k.val+1):=by rw[RY k!];simp
 rw[<-a,Da];intro h;obtain⟨i,b,e⟩:=WG.1 h;grind;intro h;obtain⟨i,b,e⟩:=WG.1 h;grind
theorem sy(e:Ur R)(a:GF n R)(k:Fin n): ∃b c,fM n e a=b++(e.f (a k)).cells++c∧b.length=k.val*e.sz∧
  ∀v,fM n e (XD a k.val v)=b++(e.f v).cells++c:=by
 obtain⟨l1,l2,g,h,m,o⟩:=tY k;unfold fM;rw[g];obtain⟨p,q⟩:=ti (λi=>(e.f (a i)).cells) e.sz (λi=>e.len _) l1 k l2;refine⟨_,_,p,by rw[q,h],λv=>?_⟩;have r: ∀j,j≠k->XD a k.val v j=a j:=by grind[XD]
 have l:XD a k.val v k=v:=by grind[XD]
 rw[(ti (λi=>(e.f (XD a k.val v i)).cells) e.sz (λi=>e.len _) l1 k l2).1];grind[List.map_congr_left]
section
variable {α:Type} {n:Nat} (e:Ur α) {a:GF n α} {i:Int} {x:α}
theorem ADN(h:Fp a i=some x)(c b:List AY):(c++fM n e a++b).length=c.length+n*e.sz+b.length∧c.length+i.toNat*e.sz+e.sz≤(c++fM n e a++b).length∧
  ((c++fM n e a++b).drop (c.length+i.toNat*e.sz)).take e.sz=(e.f x).cells/\ ∀v,W7 (c++fM n e a++b) (c.length+i.toNat*e.sz) (e.f v).cells=c++fM n e (XD a i v)++b:=by
 obtain⟨s,k,rfl,rfl⟩:=pL h;obtain⟨d,g,l,m,o⟩:=sy e a k;have p:((k.val:Int)).toNat=k.val:=k!
 have j:=ADM n e a;have r:=e.len (a k);refine⟨q!,?_,?_,λv=>?_⟩;grind;grind;have q:=e.len v;rw[o v,l,p,<-m];have:(c++(d++(e.f (a k)).cells++g)++b)=(c++d)++((e.f (a k)).cells++(g++b)):=k!
 rw[this];unfold W7;rw[<-Aa,Yb,q,<-r,cC,lP o!];simp
theorem ADI{off m:Nat}(c b:List AY)(h:Fp a i=some x)(d:off+m<=e.sz):c.length+i.toNat*e.sz+off+m<=(c++fM n e a++b).length/\((c++fM n e a++b).drop (c.length+i.toNat*e.sz+off)).take m=((e.f x).cells.drop off).take m:=by obtain⟨_,g,j,_⟩:=ADN e h c b;grind[List.drop_take,List.drop_drop]
end
def sapp(a b:BW):Option BW:=if a.length+b.length<=9223372036854775807 then some (a++b)else none
theorem AHW{a b r:BW}(h:sapp a b=some r):(if a.length+b.length<=9223372036854775807 then some (AY.str (a++b))else none)=some (.str r):=by grind[sapp]
def Up(s:BW)(lo hi:Int):Option BW:=if 0<=lo/\lo<=hi/\hi<=s.length then some ((s.drop lo.toNat).take (hi.toNat-lo.toNat))else none
def br(s:List R)(lo hi:Int):Option (List R):=if 0<=lo/\lo<=hi/\hi<=s.length then some ((s.drop lo.toNat).take (hi.toNat-lo.toNat))else none
def GX(l:List Int):BW:=l.map λn=>UInt8.ofNat n.toNat
theorem xw: ∀l:List Int,u8s (l.map (xF .u8).f)=some (GX l)
 |[]=>rfl
 |n::l=>by have:=xw l;simp;simp only[xF]at this⊢;simp only[u8s,this];rfl
def AHE(k:IntKind)(l:List Int):(xF k).cl l=l.map (xF k).f:=by
 unfold Ur.cl;induction l with
 |nil=>rfl
 |cons x l a=>simp only[Bt,IA,a];rfl
theorem AEC(l:List Int)(c:kd P V= .str)(d:kd P b= .bytes):
  Xe P H b V (.vs 1 (l.map (xF .u8).f))=some (.str (GX l)):=by
 simp only[Xe,rowsOf];have:(l.map (xF .u8).f).flatMap AY.cells=l.map (xF .u8).f:=AHE .u8 l;grind[xw]
def AAV{body:J->Option (Step J R)}{C:J->R->Prop}(h: ∀s q,body s=some q->match q with| .next d=> ∀o,C d o->C s o| .done o=>C s o){s:J}{o:R}(b:AZ body s=some o):C s o:=ACW C (λs _ r a c=>h s _ a r c) (λs _ a=>h s _ a) b
def mk(x:R)(l c:Int):Option (List R):=if 0<=l/\l<=c/\c<=16777216 then some (List.replicate l.toNat x)else none
theorem AJR(e:Ur R)(x:R){r:List R}(h:mk x i a=some r):(0<=i/\i<=a/\a<=16777216)/\i.toNat=r.length/\(List.replicate i.toNat (e.f x).cells).flatten=e.cl r:=by unfold mk at h;split at h;rename_i b;injection h with h;subst h;unfold Ur.cl;induction i.toNat<;>grind;cases h
def TS(s:BW):List Int:=s.map λb=>(b.toNat:Int)
def AIW(s:BW):s.length=(TS s).length/\mY s=(xF .u8).cl (TS s):=by
 refine⟨by simp[TS],?_⟩;unfold Ur.cl TS mY;induction s with
 |nil=>rfl
 |cons b r a=>simp only[Bt,a];rfl
def six(s:BW)(i:Int):Option Int:=if 0<=i then(s[i.toNat]?).map λb=>(b.toNat:Int)else none
theorem AIV{s:BW}(h:six s i=some a)(t:kd P b= .str):kz P b (.str s) (.int C i)=some (.int .u8 a):=by grind[six,kz]
def tO(e:Ur R){l:List R}{x:R}(h:ix l i=some x): ∃d j,e.cl l=d++(e.f x).cells++j/\d.length=i.toNat*e.sz/\0<=i/\i.toNat<l.length/\l[i.toNat]? =some x/\ ∀v,e.cl (l.set i.toNat v)=d++(e.f v).cells++j:=by
 unfold ix at h;split at h
 case isFalse=>cases h
 rename_i k;obtain⟨c,n⟩:=Kf.1 h;have m:l=l.take i.toNat++x::l.drop (i.toNat+1):=by rw[<-n,<-RY c,Da]
 have b: ∀v,l.set i.toNat v=l.take i.toNat++v::l.drop (i.toNat+1):=λv=>by rw[List.set_eq_take_append_cons_drop,if_pos c]
 have a: ∀v,e.cl (l.take i.toNat++v::l.drop (i.toNat+1))=e.cl (l.take i.toNat)++(e.f v).cells++e.cl (l.drop (i.toNat+1)):=λv=>by simp[Ur.cl]
 refine⟨e.cl (l.take i.toNat),e.cl (l.drop (i.toNat+1)),?_,?_,k,c,h,λv=>by rw[b,a]⟩;conv=>lhs;rw[m]
 exact a x;rw[e.clen,BM,Q1 (Nat.le_of_lt c)]
def E4{α:Type}(l:List α)(i:Int)(v:α):List α:=l.set i.toNat v
def uP{l:List R}{v:R}(h:l.length=n):(E4 l i v).length=n:=by rw[<-h];exact fB
section
variable {α:Type} (e:Ur α) {l:List α} {i:Int} {x:α}
theorem AG4(h:ix l i=some x)(d:N+n<=e.sz):i.toNat*e.sz+N+n<=(e.cl l).length/\((e.cl l).drop (i.toNat*e.sz+N)).take n=((e.f x).cells.drop N).take n:=by obtain⟨j,k,b,c,_⟩:=tO e h;have g:=e.len x;rw[b,<-c];refine⟨q!,?_⟩;rw[A6,cC,lP o!,Cp,Yc,cC,mu,FY,g,show n-(e.sz-N)=0 by omega];simp
end
mutual
def AY.beq:AY->AY->Bool
 | .bool a,.bool b=>a==b
 | .int k n,.int k' n'=>decide (k=k')&&decide (n=n')
 | .str s,.str t=>decide (s=t)
 | .nilp,.nilp=>true
 | .nils,.nils=>true
 | .nilf,.nilf=>true
 | .ptr a b c,.ptr a' b' c'=>decide (a=a')&&(decide (b=b')&&decide (c=c'))
 | .vptr cs,.vptr ds=>AY.beqL cs ds
 | .vs a cs,.vs b ds=>decide (a=b)&&AY.beqL cs ds
 | .sl a b c d e,.sl a' b' c' d' e'=>decide (a=a')&&(decide (b=b')&&(decide (c=c')&&(decide (d=d')&&decide (e=e'))))
 | .agg cs,.agg ds=>AY.beqL cs ds
 | .tup cs,.tup ds=>AY.beqL cs ds
 |_,_=>false
def AY.beqL:List AY->List AY->Bool
 |[],[]=>true
 |a::r,b::s=>AY.beq a b&&AY.beqL r s
 |_,_=>false
end
mutual
theorem beq_eq: ∀(a b:AY),AY.beq a b=true->a=b
 | .bool a,b,h=>by cases b<;>simp[AY.beq]at h;rw[h]
 | .int k n,b,h=>by cases b<;>simp[AY.beq]at h;rw[h.1,h.2]
 | .str s,b,h=>by cases b<;>simp[AY.beq]at h;rw[h]
 | .nilp,b,h=>by cases b<;>simp[AY.beq]at h;rfl
 | .nils,b,h=>by cases b<;>simp[AY.beq]at h;rfl
 | .nilf,b,h=>by cases b<;>simp[AY.beq]at h;rfl
 | .ptr _ _ _,b,h=>by cases b<;>simp[AY.beq]at h;rw[h.1,h.2.1,h.2.2]
 | .vptr cs,b,h=>by cases b<;>simp[AY.beq]at h;rw[lX cs _ h]
 | .vs a cs,b,h=>by cases b<;>simp[AY.beq]at h;rw[h.1,lX cs _ h.2]
 | .sl _ _ _ _ _,b,h=>by cases b<;>simp[AY.beq]at h;rw[h.1,h.2.1,h.2.2.1,h.2.2.2.1,h.2.2.2.2]
 | .agg cs,b,h=>by cases b<;>simp[AY.beq]at h;rw[lX cs _ h]
 | .tup cs,b,h=>by cases b<;>simp[AY.beq]at h;rw[lX cs _ h]
 | .fn _ _ _,b,h=>by cases b<;>simp[AY.beq]at h
 | .yf _,b,h=>by cases b<;>simp[AY.beq]at h
 | .mp _,b,h=>by cases b<;>simp[AY.beq]at h
 | .itp _ _,b,h=>by cases b<;>simp[AY.beq]at h
 | .any,b,h=>by cases b<;>simp[AY.beq]at h
theorem lX: ∀(a b:List AY),AY.beqL a b=true->a=b
 |[],b,h=>by cases b<;>simp[AY.beqL]at h;rfl
 |x::r,b,h=>by
  cases b with
  |nil=>simp[AY.beqL]at h
  |cons y s=>simp only[AY.beqL,BO]at h;rw[beq_eq x y h.1,lX r s h.2]
end
mutual
inductive Ty where
 |bool
 |int (k:IntKind)
 |str
 |list (t:Ty)
 |arr (n:Nat) (t:Ty)
 |prod (ts:SY)
inductive SY where
 |one (t:Ty)
 |cons (t:Ty) (ts:SY)
end
mutual
@[reducible] def Ty.D:Ty->Type
 | .bool=>Bool
 | .int _=>Int
 | .str=>List UInt8
 | .list t=>List t.D
 | .arr n t=>GF (n+1) t.D
 | .prod ts=>ts.D
@[reducible] def SY.D:SY->Type
 | .one t=>t.D
 | .cons t ts=>t.D×ts.D
end
mutual
def Ty.sz:Ty->Nat
 | .bool=>1
 | .int _=>1
 | .str=>1
 | .list _=>1
 | .arr n t=>(n+1)*t.sz
 | .prod ts=>ts.sz
def SY.sz:SY->Nat
 | .one t=>t.sz
 | .cons t ts=>t.sz+ts.sz
end
mutual
def Ty.enc:(t:Ty)->t.D->AY
 | .bool,b=>.bool b
 | .int k,n=>.int k n
 | .str,s=>.str s
 | .list t,l=>.vs t.sz (l.map t.enc)
 | .arr n t,a=>.agg ((List.finRange (n+1)).flatMap λi=>(t.enc (a i)).cells)
 | .prod ts,x=>.agg (ts.cells x)
def SY.cells:(ts:SY)->ts.D->List AY
 | .one t,x=>(t.enc x).cells
 | .cons t ts,x=>(t.enc x.1).cells++ts.cells x.2
end
mutual
theorem Ty.sz_pos: ∀t:Ty,0<t.sz
 | .bool=>g!
 | .int _=>by simp[Ty.sz]
 | .str=>g!
 | .list _=>by simp[Ty.sz]
 | .arr n t=>by simp only[Ty.sz];exact Nat.mul_pos (Nat.succ_pos n) t.sz_pos
 | .prod a=>by simp only[Ty.sz];exact a.sz_pos
theorem SY.sz_pos: ∀a:SY,0<a.sz
 | .one t=>by simp only[SY.sz];exact t.sz_pos
 | .cons t a=>by simp only[SY.sz];have:=t.sz_pos;omega
end
mutual
theorem Ty.enc_len: ∀(t:Ty) (x:t.D),(t.enc x).cells.length=t.sz
 | .bool,_=>rfl
 | .int _,_=>rfl
 | .str,_=>rfl
 | .list _,_=>rfl
 | .arr n t,a=>by
  show((List.finRange (n+1)).flatMap λi=>(t.enc (a i)).cells).length=(n+1)*t.sz;have: ∀l:List (Fin (n+1)),(l.flatMap λi=>(t.enc (a i)).cells).length=l.length*t.sz:=by
   intro l;induction l with
   |nil=>simp
   |cons x l b=>rw[IA,Aa,b,t.enc_len];simp[FG,mv]
  rw[this,List.length_finRange]
 | .prod ts,x=>ts.cells_len x
theorem SY.cells_len: ∀(a:SY) (x:a.D),(a.cells x).length=a.sz
 | .one t,x=>by simp only[SY.cells,SY.sz];exact t.enc_len x
 | .cons t a,x=>by simp only[SY.cells,SY.sz,Aa];rw[t.enc_len,a.cells_len]
end
mutual
theorem Ty.enc_pure: ∀(t:Ty) (x:t.D),Pure (t.enc x)
 | .bool,_=>rfl
 | .int _,_=>rfl
 | .str,_=>rfl
 | .list t,l=>by unfold Pure;show AY.idsAllL _ (l.map t.enc)=true;rw[Dd];intro v b;obtain⟨x,_,rfl⟩:=Bl.1 b;exact t.enc_pure x
 | .arr n t,a=>by unfold Pure;show AY.idsAllL _ ((List.finRange (n+1)).flatMap λi=>(t.enc (a i)).cells)=true;rw[Dd];intro v b;obtain⟨i,_,b⟩:=Hh.1 b;exact Ve (t.enc_pure _) v b
 | .prod ts,x=>by unfold Pure;show AY.idsAllL _ (ts.cells x)=true;rw[Dd];exact ts.cells_pure x
theorem SY.cells_pure: ∀(b:SY) (x:b.D),∀v∈b.cells x,Pure v
 | .one t,x,v,a=>Ve (t.enc_pure x) v a
 | .cons t b,x,v,a=>by simp only[SY.cells,A1]at a;rcases a with a|a;exact Ve (t.enc_pure _) v a;exact b.cells_pure _ v a
end
def Ty.E(t:Ty):Ur t.D:=⟨t.sz,t.enc,t.sz_pos,t.enc_len,t.enc_pure⟩
mutual
def Ty.beq:Ty->Ty->Bool
 | .bool,.bool=>true
 | .int k,.int k'=>decide (k=k')
 | .str,.str=>true
 | .list t,.list t'=>t.beq t'
 | .arr n t,.arr n' t'=>Nat.beq n n'&&t.beq t'
 | .prod ts,.prod ts'=>ts.beq ts'
 |_,_=>false
def SY.beq:SY->SY->Bool
 | .one t,.one t'=>t.beq t'
 | .cons t ts,.cons t' ts'=>t.beq t'&&ts.beq ts'
 |_,_=>false
end
mutual
theorem Ty.beq_eq: ∀(t a:Ty),t.beq a=true->t=a
 | .bool,a,h=>by cases a<;>simp[Ty.beq]at h;rfl
 | .int k,a,h=>by cases a<;>simp[Ty.beq]at h;rw[h]
 | .str,a,h=>by cases a<;>simp[Ty.beq]at h;rfl
 | .list t,a,h=>by cases a<;>simp[Ty.beq]at h;rw[t.beq_eq _ h]
 | .arr n t,a,h=>by cases a<;>simp[Ty.beq]at h;rw[h.1,t.beq_eq _ h.2]
 | .prod ts,a,h=>by cases a<;>simp[Ty.beq]at h;rw[ts.beq_eq _ h]
theorem SY.beq_eq: ∀(t a:SY),t.beq a=true->t=a
 | .one t,a,h=>by cases a<;>simp[SY.beq]at h;rw[t.beq_eq _ h]
 | .cons t ts,a,h=>by cases a<;>simp[SY.beq]at h;rw[t.beq_eq _ h.1,ts.beq_eq _ h.2]
end
def Ty.cast{t t':Ty}(h:t.beq t'=true)(x:t.D):t'.D:=Ty.beq_eq t t' h▸x
def dY{t a:Ty}(h:t.beq a=true)(x:t.D):a.enc (Ty.cast h x)=t.enc x:=by have:=Ty.beq_eq t a h;subst this;rfl
mutual
def Ty.zero:(t:Ty)->t.D
 | .bool=>false
 | .int _=>(0:Int)
 | .str=>([]:List UInt8)
 | .list t=>([]:List t.D)
 | .arr n t=>(GF.all t.zero:GF (n+1) t.D)
 | .prod ts=>ts.zero
def SY.zero:(ts:SY)->ts.D
 | .one t=>t.zero
 | .cons t ts=>(t.zero,ts.zero)
end
inductive Bs where
 |bl (b:Bool)
 |it (k:IntKind) (n:Int)
 |st (s:List UInt8)
 |ls (t:Ty) (l:List t.D)
 |ar (n:Nat) (t:Ty) (a:GF (n+1) t.D)
 |own (id ver:Nat) (t:Ty) (n:Nat)
 |nil
 |raw (v:AY)
def Bs.w:Bs->Nat
 | .ar n t _=>(n+1)*t.sz
 |_=>1
def Bs.enc:Bs->List AY
 | .bl b=>[.bool b]
 | .it k n=>[.int k n]
 | .st s=>[.str s]
 | .ls t l=>[.vs t.sz (l.map t.enc)]
 | .ar n t a=>((Ty.arr n t).enc a).cells
 | .own id _ t n=>[.sl id n t.sz 0 n]
 | .nil=>[.nils]
 | .raw v=>[v]
def Bs.one:Bs->AY
 | .bl b=>.bool b
 | .it k n=>.int k n
 | .st s=>.str s
 | .ls t l=>.vs t.sz (l.map t.enc)
 | .ar n t a=>(Ty.arr n t).enc a
 | .own id _ t n=>.sl id n t.sz 0 n
 | .nil=>.nils
 | .raw v=>v
def lvs(cs:List Bs):List AY:=cs.flatMap Bs.enc
def Bs.enc_len(x:Bs):x.enc.length=x.w:=by
 cases x with
 |ar n t a=>exact Ty.enc_len (.arr n t) a
 |_=>rfl
inductive TV where
 |c (x:Bs)
 |g (cs:List Bs)
 |aptr (id base n:Nat) (t:Ty) (i:Int) (off:Nat)
 |bptr (id ver:Nat) (t:Ty) (n:Nat) (i:Int) (off:Nat)
 |vptr (cs:List Bs) (post:List AY)
 |tup (vs:List TV)
mutual
def TV.enc:TV->AY
 | .c x=>x.one
 | .g cs=>.agg (lvs cs)
 | .aptr id base _ t i off=>.ptr id 0 (base+i.toNat*t.sz+off)
 | .bptr id _ t n i off=>.ptr id n (i.toNat*t.sz+off)
 | .vptr cs post=>.vptr (lvs cs++post)
 | .tup vs=>.tup (TV.encL vs)
def TV.encL:List TV->List AY
 |[]=>[]
 |v::r=>v.enc::TV.encL r
end
def tT: ∀l:List TV,TV.encL l=l.map TV.enc
 |[]=>rfl
 |v::r=>by simp only[TV.encL,Bt,tT r]
abbrev Bc:=List (Nat×TV)
inductive LS where
 |ready
 |busy
 |ret
 |exit (x:Nat)
def LS.st:LS->LoopState
 | .ready=>.ready
 | .busy=>.busy
 |_=>.done
def LS.pend:LS->Option Code
 | .ret=>some .ret
 | .exit x=>some (.exit x)
 |_=>none
def LS.beq:LS->LS->Bool
 | .ready,.ready=>true
 | .busy,.busy=>true
 | .ret,.ret=>true
 | .exit x,.exit y=>Nat.beq x y
 |_,_=>false
def LS.beq_eq{a b:LS}(h:a.beq b=true):a=b:=by cases a<;>cases b<;>simp only[LS.beq]at h<;>first|rfl|cases h|rw[DR h]
inductive Dr where
 |dead
 |live (ro:Bool) (cs:List Bs)
 |buf (ro:Bool) (t:Ty) (l:List t.D) (n ver:Nat)
 |lp (ro:Bool) (F:FuncId) (n:Nat) (env:Bc) (ps:Array Tmp) (a b:Code) (s:LS)
 |mp (ro:Bool) (k:IntKind) (t:Ty) (es:List (Int×t.D))
abbrev Aq:=List Dr
def B9(env:Bc):Env:=env.map λp=>(p.1,p.2.enc)
def Dr.enc:Dr->FU
 | .dead=>.dead
 | .live _ cs=>.live 0 (lvs cs)
 | .buf _ t l n _=>.live n (t.E.cl l)
 | .lp _ _ n env ps a b s=>.lp ⟨n,B9 env,ps,a,b,s.st,s.pend⟩
 | .mp _ k t es=>.mp k (es.map λp=>(p.1,t.enc p.2))
def BH(H:Aq):Az:=H.map Dr.enc
def Vp:TV:=.c (.raw .any)
def Bc.get:Bc->Nat->TV
 |[],_=>Vp
 |(k,v)::r,t=>match Nat.beq k t with|true=>v|false=>Bc.get r t
def Bc.del(t:Nat):Bc->Bc
 |[]=>[]
 |(k,v)::r=>match Nat.beq k t with|true=>Bc.del t r|false=>(k,v)::Bc.del t r
def Bc.put(env:Bc)(t:Nat)(v:TV):Bc:=(t,v)::Bc.del t env
def Bc.putO(env:Bc):Option Nat->TV->Bc
 |some t,v=>env.put t v
 |none,_=>env
theorem beq_false(h:N≠n):Nat.beq N n=false:=by grind[Nat.eq_of_beq_eq_true]
theorem VC(env:Bc)(t:Nat):(B9 env).get t=(env.get t).enc:=by
 induction env with
 |nil=>simp[B9,Env.get,Bc.get,Vp,TV.enc,Bs.one]
 |cons p r a=>grind[B9,Env.get,Bc.get,Nat.beq_refl,beq_false]
theorem ADi(env:Bc)(t:Nat):B9 (Bc.del t env)=(B9 env).filter λp=>decide (p.1≠t):=by induction env<;>grind[Bc.del,B9,Nat.beq_refl,beq_false]
def oP(env:Bc)(t:Nat)(v:TV):B9 (env.put t v)=(B9 env).put t v.enc:=by simp only[Env.put,<-ADi];rfl
def YO(env:Bc)(t:Option Nat)(v:TV):B9 (env.putO t v)=(B9 env).putO t v.enc:=by
 cases t with
 |none=>rfl
 |some t=>exact oP env t v
def ADd:Value->Bs
 | .bool b=>.bl b
 | .int k n=>.it k n
 | .string s=>.st s.data.toList
 | .pointer none=>.raw .nilp
 | .slice none 0 0=>.nil
 | .nilFunc=>.raw .nilf
 |_=>.raw .any
def cvT:Value->TV
 | .agg cs=>match cs.toList.all (·.oneCell')with|true=>.g (cs.toList.map ADd)|false=>Vp
 |v=>.c (ADd v)
def yZ(v:Value):(ADd v).one=rE v:=by
 cases v with
 |pointer p=>cases p<;>rfl
 |slice a l c=>
  cases a with
  |some _=>rfl
  |none=>
   match l,c with
   |0,0=>rfl
   |0,_+1=>rfl
   |_+1,_=>rfl
 |_=>rfl
theorem ADe(v:Value):(ADd v).enc=[rE v]:=by
 cases v with
 |pointer p=>cases p<;>rfl
 |slice a l c=>
  cases a with
  |some _=>rfl
  |none=>
   match l,c with
   |0,0=>rfl
   |0,_+1=>rfl
   |_+1,_=>rfl
 |_=>rfl
theorem AFP(v:Value):(cvT v).enc=ACJ v:=by
 cases v with
 |agg b=>
  simp only[cvT,ACJ];cases h:b.toList.all (·.oneCell')with
  |false=>simp[Vp,TV.enc,Bs.one]
  |true=>simp only[TV.enc,lvs];induction b.toList<;>grind[ADe]
 |pointer p=>exact yZ (.pointer p)
 |slice a l c=>exact yZ (.slice a l c)
 |_=>rfl
def JO(env:Bc):Operand->TV
 | .tmp t=>env.get t
 | .const v=>cvT v
 | .global _=>Vp
 | .func f=>.c (.raw (.fn (.func f) [] []))
theorem LC(env:Bc)(x:Operand):BJ (B9 env) x=(JO env x).enc:=by
 cases x with
 |tmp t=>exact VC env t
 |const v=>exact(AFP v).symm
 |global _=>rfl
 |func f=>rfl
def Xa:List Bs->Nat->Option (List Bs×List Bs)
 |ls,0=>some ([],ls)
 |[],_+1=>none
 |x::r,n+1=>
  match Nat.ble x.w (n+1)with
  |true=>match Xa r (n+1-x.w)with|some (a,b)=>some (x::a,b)|none=>none
  |false=>none
mutual
def Ty.lvs:(t:Ty)->t.D->List Bs
 | .bool,b=>[.bl b]
 | .int k,n=>[.it k n]
 | .str,s=>[.st s]
 | .list t,l=>[.ls t l]
 | .arr n t,a=>[.ar n t a]
 | .prod ts,x=>ts.lvs x
def SY.lvs:(ts:SY)->ts.D->List Bs
 | .one t,x=>t.lvs x
 | .cons t ts,x=>t.lvs x.1++ts.lvs x.2
end
def Bs.scalar:Bs->Bool
 | .ar .. =>false
 | .raw (.agg _)=>false
 |_=>true
def part(P:Program)(t:TypeId)(cs:List Bs)(off:Nat):Option TV:=
 match Xa cs off with
 |some (_,r)=>
  match tI P t with
  |some (true,n)=>match Xa r n with|some (a,_)=>some (.g a)|none=>none
  |some (false,_)=>match r with|x::_=>(match x.scalar with|true=>some (.c x)|false=>none)|[]=>none
  |none=>none
 |none=>none
section
variable {R:Type}
def okT(o:Option TV)(k:TV->Option R):Option R:=
 match o with
 |some v=>k v
 |none=>none
def ADL(cs:List Bs)(base n:Nat)(t:Ty):Option (GF (n+1) t.D):=
 match Xa cs base with
 |some (_,.ar n' t' a::_)=>if h:(Ty.arr n' t').beq (Ty.arr n t)=true then some (Ty.cast h a)else none
 |_=>none
def j8(H:Aq)(id ver:Nat)(t:Ty):Option (List t.D):=
 match H[id]? with
 |some (.buf _ t' l _ ver')=>match Nat.beq ver ver' with|true=>(if h:(Ty.list t').beq (Ty.list t)=true then some (Ty.cast h l)else none)|false=>none
 |_=>none
def XZ(H:Aq)(id:Nat):Option (List Bs):=
 match H[id]? with
 |some (.live _ cs)=>some cs
 |_=>none
def loadT(P:Program)(H:Aq)(t:TypeId)(v:TV)(k:TV->Option R):Option R:=
 match v with
 | .c (.raw (.ptr id 0 off))=>match XZ H id with|some cs=>okT (part P t cs off) k|none=>none
 | .vptr cs _=>okT (part P t cs 0) k
 | .aptr id base n te i off=>
  match XZ H id with
  |some cs=>match ADL cs base n te with|some a=>(Fp a i).bind λe=>okT (part P t (te.lvs e) off) k|none=>none
  |none=>none
 | .bptr id ver te _ i off=>match j8 H id ver te with|some l=>(ix l i).bind λe=>okT (part P t (te.lvs e) off) k|none=>none
 |_=>none
def tvA:AY->TV
 | .bool b=>.c (.bl b)
 | .int k n=>.c (.it k n)
 | .str s=>.c (.st s)
 |v=>.c (.raw v)
def okA(o:Option AY)(k:TV->Option R):Option R:=
 match o with
 |some v=>k (tvA v)
 |none=>none
def eqT(as bs:List Bs):Bool:=vD (lvs as) (lvs bs)
def AG5(P:Program)(op:BinOp)(t:TypeId)(x y:TV)(k:TV->Option R):Option R:=
 match x,y with
 | .c (.it kx a),.c (.it ky b)=>
  match op with
  | .shl=>cond (decide (b<0)) none (k (.c (.it kx (kx.wrap (a*2^min b.toNat kx.bits)))))
  | .shr=>cond (decide (b<0)) none (k (.c (.it kx (a.fdiv (2^min b.toNat kx.bits)))))
  | .quo=>if kx=ky then cond (b==0) none (k (.c (.it kx (kx.wrap (a.tdiv b)))))else none
  | .rem=>if kx=ky then cond (b==0) none (k (.c (.it kx (a.tmod b))))else none
  |op=>if kx=ky then okA (ph op kx a b) k else none
 | .c (.bl a),.c (.bl b)=>
  match op with
  | .eql=>if kd P t= .bool then k (.c (.bl (a==b)))else none
  | .neq=>if kd P t= .bool then k (.c (.bl (!(a==b))))else none
  |_=>none
 | .c (.st a),.c (.st b)=>
  match op with
  | .add=>(sapp a b).bind λs=>k (.c (.st s))
  |op=>okA (wk op a b) k
 | .g as,.g bs=>
  match ADV P t with
  |some ks=>
   if typed ks (lvs as)=true/\typed ks (lvs bs)=true then
    match op with
    | .eql=>k (.c (.bl (eqT as bs)))
    | .neq=>k (.c (.bl (!eqT as bs)))
    |_=>none
   else none
  |none=>none
 |_,_=>none
def unT(op:UnOp)(v:TV)(k:TV->Option R):Option R:=
 match v with
 | .c x=>okA (unV op x.one) k
 |_=>none
def ADb(P:Program)(H:Aq)(src dst:TypeId)(v:TV)(k:TV->Option R):Option R:=
 match v with
 | .c (.ls (.int .u8) l)=>if kd P dst= .str/\kd P src= .bytes then k (.c (.st (GX l)))else none
 | .c (.own id ver (.int .u8) _)=>if kd P dst= .str/\kd P src= .bytes then(match j8 H id ver (.int .u8)with|some l=>k (.c (.st (GX l)))|none=>none)else none
 | .c (.it kk n)=>okA (Xe P [] src dst (.int kk n)) k
 | .c (.st s)=>okA (Xe P [] src dst (.str s)) k
 |_=>none
def nM(P:Program)(H:Aq)(s f:Nat)(v:TV)(k:TV->Option R):Option R:=
 match fI P s f with
 |some (off,_,n)=>
  match Nat.beq n 0 with
  |true=>none
  |false=>
   match v with
   | .c (.raw (.ptr id 0 o))=>match XZ H id with|some _=>k (.c (.raw (.ptr id 0 (o+off))))|none=>none
   | .vptr cs post=>match Xa cs off with|some (_,r)=>k (.vptr r post)|none=>none
   | .aptr id base n te i o=>match XZ H id with|some _=>k (.aptr id base n te i (o+off))|none=>none
   | .bptr id ver te n i o=>match j8 H id ver te with|some _=>k (.bptr id ver te n i (o+off))|none=>none
   |_=>none
 |none=>none
def AAJ(P:Program)(s f:Nat)(v:TV)(k:TV->Option R):Option R:=
 match fI P s f,v with
 |some (off,t,_),.g cs=>okT (part P t cs off) k
 |_,_=>none
def nQ(P:Program)(H:Aq)(t:TypeId)(v i:TV)(k:TV->Option R):Option R:=
 match i with
 | .c (.it _ i)=>
  match eI P t with
  |some (some len,_,sz)=>
   match v with
   | .c (.raw (.ptr id 0 off))=>
    match XZ H id with
    |some cs=>
     match Xa cs off with
     |some (_,.ar n te a::_)=>if len=n+1/\sz=te.sz then(Fp a i).bind λ_=>k (.aptr id off n te i 0)else none
     |_=>none
    |none=>none
   | .vptr (.ar n te a::r) post=>if len=n+1/\sz=te.sz then(Fp a i).bind λe=>k (.vptr (te.lvs e) ((((Ty.arr n te).enc a).cells.drop (i.toNat*te.sz+te.sz))++(lvs r++post)))else none
   |_=>none
  |some (none,_,sz)=>
   match v with
   | .c (.ls te l)=>if sz=te.sz then(ix l i).bind λe=>k (.vptr (te.lvs e) [])else none
   | .c (.own id ver te n)=>match j8 H id ver te with|some l=>(if sz=te.sz then(ix l i).bind λ_=>k (.bptr id ver te n i 0)else none)|none=>none
   |_=>none
  |none=>none
 |_=>none
def wu(P:Program)(e:TypeId)(sz:Nat)(cs:List Bs)(i:Int)(k:TV->Option R):Nat->Nat->Option R
 |0,_=>none
 |m+1,j=>cond (decide (i=Int.ofNat j)) (okT (part P e cs (j*sz)) k) (wu P e sz cs i k m (j+1))
def AAO(P:Program)(t:TypeId)(v i:TV)(k:TV->Option R):Option R:=
 match i with
 | .c (.it _ i)=>
  match v with
  | .g [.ar n te a]=>
   match eI P t with
   |some (some len,e,sz)=>if len=n+1/\sz=te.sz then(Fp a i).bind λx=>okT (part P e (te.lvs x) 0) k else none
   |_=>none
  | .g cs=>
   match eI P t with
   |some (some len,e,sz)=>match Nat.ble len 16 with|true=>wu P e sz cs i k len 0|false=>none
   |_=>none
  | .c (.st s)=>if kd P t= .str then(six s i).bind λb=>k (.c (.it .u8 b))else none
  |_=>none
 |_=>none
def AB8(d:Int):Option TV->Option Int
 |none=>some d
 |some (.c (.it _ n))=>some n
 |_=>none
def AA1(P:Program)(t:TypeId)(v:TV)(lo hi mx:Option TV)(k:TV->Option R):Option R:=
 match mx with
 |some _=>none
 |none=>
  match v with
  | .c (.st s)=>
   match AB8 0 lo,AB8 s.length hi with
   |some l,some h=>if kd P t= .str then(Up s l h).bind λx=>k (.c (.st x))else none
   |_,_=>none
  | .c (.ls te xs)=>
   match AB8 0 lo,AB8 xs.length hi,eI P t with
   |some l,some h,some (none,_,sz)=>if sz=te.sz then(br xs l h).bind λx=>k (.c (.ls te x))else none
   |_,_,_=>none
  |_=>none
def AHQ(P:Program)(H:Aq)(t:TypeId)(v:TV)(k:TV->Option R):Option R:=
 match P.underlying t,v with
 |some .string,.c (.st s)=>k (.c (.it .i64 s.length))
 |some (.array n _),_=>k (.c (.it .i64 n))
 |some (.slice _),.c (.ls _ l)=>k (.c (.it .i64 l.length))
 |some (.slice _),.c (.own id ver te n)=>match j8 H id ver te with|some _=>k (.c (.it .i64 n))|none=>none
 |some (.slice _),.c .nil=>k (.c (.it .i64 0))
 |_,_=>none
def mmT(mx:Bool)(x y:TV)(k:TV->Option R):Option R:=
 match x,y with
 | .c (.it kx a),.c (.it _ b)=>k (.c (.it kx (if mx then(if b>a then b else a)else(if b<a then b else a))))
 |_,_=>none
def AHR(x y z:TV)(k:TV->Option R):Option R:=
 match x,y,z with
 | .c (.it kx a),.c (.it _ b),.c (.it _ c)=>k (.c (.it kx (if c<(if b<a then b else a)then c else(if b<a then b else a))))
 |_,_,_=>none
def TV.words:TV->Option (List Bs)
 | .c x=>match x.scalar&&x.one.solid with|true=>some [x]|false=>none
 | .g cs=>some cs
 |_=>none
mutual
def Ty.zlvs:(t:Ty)->List Bs
 | .bool=>[.bl false]
 | .int k=>[.it k 0]
 | .str=>[.st []]
 | .list _=>[.nil]
 | .arr n t=>[.ar n t (GF.all t.zero)]
 | .prod ts=>ts.zlvs
def SY.zlvs:SY->List Bs
 | .one t=>t.zlvs
 | .cons t ts=>t.zlvs++ts.zlvs
end
mutual
def AA5(P:Program):Nat->TypeId->Option Ty
 |0,_=>none
 |d+1,t=>
  match P.underlying t with
  |some .bool=>some .bool
  |some (.int k)=>some (.int k)
  |some .string=>some .str
  |some (.slice e)=>(AA5 P d e).map Ty.list
  |some (.array (n+1) e)=>(AA5 P d e).map (Ty.arr n)
  |some (.struct fs)=>(AGk P d fs.toList).map Ty.prod
  |_=>none
def AGk(P:Program):Nat->List Field->Option SY
 |0,_=>none
 |_+1,[]=>none
 |d+1,[f]=>(AA5 P d f.type).map SY.one
 |d+1,f::r=>match AA5 P d f.type,AGk P d r with|some t,some ts=>some (.cons t ts)|_,_=>none
end
def vw:AY->Bs
 | .bool b=>.bl b
 | .int k n=>.it k n
 | .str s=>.st s
 |v=>.raw v
def ux(P:Program)(t:TypeId):Option (List Bs):=
 match ZN P t with
 |some z=>
  match AA5 P 1000 t with
  |some ty=>match AY.beqL z (lvs ty.zlvs)with|true=>some ty.zlvs|false=>some (z.map vw)
  |none=>some (z.map vw)
 |none=>none
def ACq(cs:List Bs)(off:Nat)(vs:List Bs)(n:Nat):Option (List Bs):=
 match Xa cs off with
 |some (a,r)=>match Xa r n with|some (_,b)=>some (a++(vs++b))|none=>none
 |none=>none
def AEs:List Bs->Nat
 |[]=>0
 |x::r=>x.w+AEs r
def yl(p:aK):List Bs->List (Nat×TV)->Option (List Bs)
 |cs,[]=>some cs
 |cs,(i,v)::r=>
  match p.at_ i,v.words with
  |some (off,size),some ws=>
   match Nat.beq (AEs ws) size with
   |true=>match ACq cs off ws size with|some cs'=>yl p cs' r|none=>none
   |false=>none
  |_,_=>none
def AAD(P:Program)(t:TypeId)(parts:List (Nat×TV)):Option TV:=
 match ux P t,placesOf P t with
 |some z,some p=>(yl p z parts).map TV.g
 |_,_=>none
def ud:List TV->Option (List AY)
 |[]=>some []
 | .c x::r=>match x.scalar,ud r with|true,some l=>some (x.one::l)|_,_=>none
 |_=>none
def quT(P:Program)(env:Bc)(H:Aq)(op:Op)(k:TV->Option R):Option R:=
 match op with
 | .move x| .assign x=>k (JO env x)
 | .pick c a b=>match JO env c with| .c (.bl t)=>cond t (k (JO env a)) (k (JO env b))|_=>none
 | .load t a=>loadT P H t (JO env a) k
 | .nilCheck x=>
  match JO env x with
  | .c (.raw (.ptr id 0 off))=>match XZ H id with|some _=>k (.c (.raw (.ptr id 0 off)))|none=>none
  | .c (.raw (.fn (.func f) a b))=>k (.c (.raw (.fn (.func f) a b)))
  | .vptr cs post=>k (.vptr cs post)
  | .aptr id base n te i off=>match XZ H id with|some _=>k (.aptr id base n te i off)|none=>none
  | .bptr id ver te n i off=>match j8 H id ver te with|some _=>k (.bptr id ver te n i off)|none=>none
  |_=>none
 | .binOp op t x y _=>AG5 P op t (JO env x) (JO env y) k
 | .unOp op _ x=>unT op (JO env x) k
 | .convert s d x=>ADb P H s d (JO env x) k
 | .fieldAddr s x f=>nM P H s f (JO env x) k
 | .field s x f=>AAJ P s f (JO env x) k
 | .indexAddr t x i=>nQ P H t (JO env x) (JO env i) k
 | .index t x i=>AAO P t (JO env x) (JO env i) k
 | .slice t x lo hi mx=>AA1 P t (JO env x) (lo.map (JO env)) (hi.map (JO env)) (mx.map (JO env)) k
 | .extract x i=>match JO env x with| .tup vs=>(match vs[i]? with|some v=>k v|none=>none)|_=>none
 | .makeFunc f a b=>match ud (a.toList.map (JO env)),ud (b.toList.map (JO env))with|some l,some m=>k (.c (.raw (.fn f l m)))|_,_=>none
 | .build t parts=>okT (AAD P t (parts.toList.map λp=>(p.1,JO env p.2))) k
 | .call {callee:=.builtin .len,args:=⟨[x]⟩,argTypes:=⟨[t]⟩}=>AHQ P H t (JO env x) k
 | .call {callee:=.builtin .max,args:=⟨[x,y]⟩,.. }=>mmT true (JO env x) (JO env y) k
 | .call {callee:=.builtin .min,args:=⟨[x,y]⟩,.. }=>mmT false (JO env x) (JO env y) k
 | .call {callee:=.builtin .min,args:=⟨[x,y,z]⟩,.. }=>AHR (JO env x) (JO env y) (JO env z) k
 |_=>none
end
end Go.Ab
