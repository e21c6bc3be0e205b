/- Texts of wip, joined and shortened by wip/tools/pack.py; nothing is assumed. -/
import Derived.Test.YtdbincbpjobdpaaGreatK1
import Derived.Laws.MakeOwn
import Derived.RangeFuncNested
import Derived.Lib.ConvBytes
import Derived.Laws.AppendOwn
noncomputable section
set_option linter.all false
namespace Go.Ab
variable {N n:Nat}{R J:Type}{o:Oper}{b V:TypeId}{d Z:List Aa}{f W:Env}{c:Code}{g:Operand}{L:Array Bool}{H:A1}{j:World}{k:List Nat}{m:Option Nat}{p:FuncId}{i a:Int}{q:Array (Nat×Operand)}{r:Value}{s:Aa}{t:Act}{P:Program}{y:Array Oper}{z:Exit->Act->World->Prop}{h:Gh}{B:Exit->Env->A1->Prop}{C:IntKind}{I:Fl}{M:Nat→Prop}{O:List UInt8}{S:TypeDesc}{T:Op}{Y:Call}
section
variable {X:Nat->Prop} {h:Gh} {H:A1} {w:World} {N:Nat} {env env2:Env}
def GD.trans{g:Nat}{l m n:Env}{i j k:A1}(a:GD N g l i m j)(b:GD N g m j n k):GD N g l i n k:=⟨b.1,λX h d w s=>by obtain⟨o,u,e,r⟩:=a.2 X h d w s;obtain⟨p,v,f,t⟩:=b.2 X o d w u;exact⟨p,v,λid c=>⟨(f id c).1.trans (e id c).1,(f id c).2.1.trans (e id c).2.1,(f id c).2.2.trans (e id c).2.2⟩,λB q=>r B (t B q)⟩⟩
def GD.of_le{n0 j:Nat}{e:A1}(a:GD N j f H W e)(h:n0<=j):GD N n0 f H W e:=⟨Dh h a.1,λX g b w s=>by obtain⟨l,n,k,m⟩:=a.2 X g b w s;exact⟨l,n,λid c=>k id (DQ c h),m⟩⟩
def GD.virt{t sz:Nat}(n:env.get t= .nils):GD N H.length env H (env.put t (.sl H.length 0 sz 0 0)) (H++[.live 0 []]):=by
 refine⟨k!,λX g d w s=>⟨g.at_ H.length none 0 0,⟨s.sim.virt,?_,s.size⟩,λid f=>by simp[Gh.at_,Bi f],λB l=>?_⟩⟩;have r:(t,Aa.nils)∈env:=by rcases Nj (env:=env) (t:=t)with e|m;rw[n]at e;cases e;rw[n]at m;exact m
 have x:=HE.virt (h:=g) (H:=H) (w:=w);have a:=s.env.later (x.later X);intro u v m;unfold Env.put at m;rcases Aw.1 m with e|m;injection e with o p;subst o p;obtain⟨q,k⟩:=s.env _ _ r;refine⟨q,?_⟩;generalize d.tmps.getD u undef=c at k;cases k;exact .sl (by simp[cx]) (by simp[cx,Gh.at_]) ⟨_,_,rfl⟩ λ_=>.inl ⟨by simp[cx,Gh.at_],rfl,rfl,rfl⟩;exact a u v (BW.1 m).1;rcases(HE.virt (h:=g) (H:=H) (w:=w)).fresh B l with h|h;exact h;obtain⟨id,e,a,j,b⟩:=l;rcases Ir a with⟨i,a⟩|⟨rfl,rfl⟩;exact⟨id,e,a,j,by simpa[Gh.at_,Bi i]using b⟩;simp[Gh.at_]at b
end
def zr(sz:Nat)(cs:List Aa)(rows:List Aa):Prop:=0<sz/\(∀e∈rows,e.cells.length=sz)/\rows.flatMap Aa.cells=cs
theorem nD{sz:Nat}: ∀{a:List Aa},(∀e∈a,e.cells.length=sz)-> ∀(j:Nat) (e:Aa) (i:Nat) (v:Aa),a[j]? =some e->e.cells[i]? =some v->(a.flatMap Aa.cells)[j*sz+i]? =some v
 |e0::r,h,j,e,i,v,hj,hi=>by
  have b:=h e0 k!;simp;cases j with
  |zero=>grind
  |succ j=>rw[Cj q!,b,show(j+1)*sz+i-sz=j*sz+i from by grind];exact nD (λe c=>h e (CW _ c)) j e i v q! hi
def Bx.froze{id g sz n:Nat}{y:Cx}(s:It M h H j)(P:H[id]? =some (Fl.live g d))(hr:zr sz d Z)(hn:Z.length=n)
  (R:(cx M h H j).Later y) (I:y.w=j) (F: ∀B,h.io id=some B-> ¬y.O B) (a:Bx (cx M h H j) (.sl id g sz 0 n) r):Bx y (.vs sz Z) r:=by
 obtain⟨x,k,rfl⟩:=hr;obtain⟨t,o⟩:=s.live id g _ P;cases a with
 |sl p q Y N=>
  rcases N t with⟨w,U,_,rfl⟩|⟨B,cap,w,m,C,rfl⟩;have:Z=[]:=EZ o!;subst this;exact Bx.vs (rows:=[]) (cap:=0) (λ_ _=>undef) (Ap _) x (λ_ _ h=>by simp at h) (λh=>(h rfl).elim) λ_ _ _ _ h=>by simp at h
  rcases o with⟨E,_⟩|⟨z,J,T,W,f,l,G,A,S,Q,b⟩;rw[E]at w;cases w;have:z=B:=by rw[w]at l;injection l with e;exact e.symm
  subst this;subst hn;refine .vs (λX i=>f (X*sz+i)) m x (λX e u=>k e (BN u)) (λV=>⟨z,0,rfl,F z w,?_,λX e i v u D=>?_⟩) λX e i v u D=>?_;rw[I];exact PD G;obtain⟨K,L,_⟩:=b _ v (nD k X e i v u D);rw[D9,I,PZ (w:=j) G];exact⟨K,L⟩;exact(b _ v (nD k X e i v u D)).2.2.later R
section
variable {X:Nat->Prop} {h:Gh} {H:A1} {w:World}
theorem dN(b:(H.take N)[n]? =some I):n<N/\H[n]? =some I:=q!
def gC{n0 B:Nat}(d:owned h (H.take n0) B):owned h H B:=by obtain⟨id,e,c,b,a⟩:=d;exact⟨id,e,(dN c).2,b,a⟩
def Bx.trunc(hn:N<=H.length)(a:Bx (cx X h H w) s r)(d:(s.idsAll λid=>decide (id<N))=true):Bx (cx X h (H.take N) w) s r:=by have:=Bx.ren (x:=cx X h H w) (y:=cx X h (H.take N) w) (ρ:=λi=>i) (p:=λid=>decide (id<N)) (λi e _=>⟨by simp[cx]at*;omega,rfl,rfl,rfl⟩) rfl (λB b=>by rcases b with b|b;exact .inl b;exact .inr (gC b)) a d;rwa [zX (p:=λid=>decide (id<N)) (λ_ _=>rfl) s d]at this
theorem It.trunc(s:It X h H w)(hn:N<=H.length)(E: ∀e∈H.take N,(e.idsAll λid=>decide (id<N))=true):It X h (H.take N) w:=by refine⟨λB D=>⟨(s.out B D).1,λO=>(s.out B D).2 (gC O)⟩,λid g G c=>?_,λid L c=>?_,λid A e I B i k=>s.inj id A e I B (dN i).2 (dN k).2,s.bldKeep λid e c _=>⟨(dN c).2,rfl,rfl,rfl,λ_ _ _ _ _=>rfl⟩⟩;obtain⟨x,n⟩:=s.live id g G (dN c).2;refine⟨x,?_⟩;rcases n with⟨z,rfl⟩|⟨B,p,T,J,f,d,a,l,y,u,b⟩;exact .inl ⟨z,rfl⟩;refine .inr ⟨B,p,T,J,f,d,a,l,y,u,λj v F=>?_⟩;obtain⟨i,k,q⟩:=b j v F;exact⟨i,k,q.trunc hn (Mi (by simpa[Fl.idsAll]using E _ (BN c)) F)⟩;obtain⟨x,B,r,d,a,i,k,q,K,M,o,C⟩:=s.lp id L (dN c).2;refine⟨x,B,r,d,a,i,k,q,K,M,o,λt v m=>⟨(C t v m).1,(C t v m).2.trunc hn ?_⟩⟩;have P:=E _ (BN c);grind[Fl.idsAll]
end
def IJ:List Oper->List Nat->List Nat
 |[],acc=>acc
 |o::r,acc=>IJ r (acc++[o.after.toList.foldl (λs e=>if Region.binds .any e=true then s|||2^e.on|||acc.getD e.on 0 else s) 0])
def O9(m:List Nat)(i j:Nat):Bool:=(m.getD j 0).testBit i
def uU{b:List Nat}{i:Nat}: ∀(l:List Edge) (s:Nat),(l.foldl (λs e=>if Region.binds .any e=true then s|||2^e.on|||b.getD e.on 0 else s) s).testBit i=true→
  s.testBit i=true\/ ∃e∈l,Region.binds .any e=true/\(e.on=i\/(b.getD e.on 0).testBit i=true)
 |[],s,h=>.inl h
 |e::l,s,h=>by simp only[XZ]at h;rcases uU l _ h with a|⟨f,d,c,g⟩;split at a;rename_i c;simp only[Nat.testBit_or,XV,Nat.testBit_two_pow]at a;rcases a with(a|a)|a;exact .inl a;exact .inr ⟨e,k!,c,.inl (by simpa using a)⟩;exact .inr ⟨e,k!,c,.inr a⟩;exact .inl a;exact .inr ⟨f,CW _ d,c,g⟩
theorem Xc: ∀(l:List Oper) (a:List Nat),(∀k,k<a.length→(IJ l a)[k]? =a[k]?)∧
  ∀(p i:Nat) (o:Oper),l[p]? =some o->O9 (IJ l a) i (a.length+p)=true-> ∃e∈o.after.toList,Region.binds .any e=true/\(e.on=i\/(e.on<a.length+p/\O9 (IJ l a) i e.on=true))
 |[],a=>⟨λ_ _=>rfl,λp i o h=>by simp at h⟩
 |o::l,a=>by
  simp only[IJ];generalize g:o.after.toList.foldl (λs e=>if Region.binds .any e=true then s|||2^e.on|||a.getD e.on 0 else s) 0=x;obtain⟨m,c⟩:=Xc l (a++[x]);refine⟨λk r=>?_,λp i j t b=>?_⟩;grind;cases p with
  |zero=>
   have f:(IJ l (a++[x])).getD a.length 0=x:=q!
   simp only[O9,Su]at b;rw[f,<-g]at b;rcases uU _ _ b with d|⟨e,q,n,d⟩;grind;grind[O9]
  |succ p=>have:=c p i j q! q!;rw[show(a++[x]).length+p=a.length+(p+1)from by simp;omega]at this;exact this
section
variable {ops:Array Oper}
def vC(ops:Array Oper)(L:Array Bool):Prop:= ∀(j:Nat) (o:Oper),ops[j]? =some o->L.getD j false=true-> ∀e∈o.after,Region.binds .any e=true->L.getD e.on false=true
def dJ{L:Array Bool}(k:vC ops L){i:Nat}: ∀(n j:Nat) (o:Oper),j<n->ops[j]? =some o->(∀e∈o.after,Region.binds .any e=true->L.getD e.on false=true)->O9 (IJ ops.toList []) i j=true->L.getD i false=true
 |0,_,_,h,_,_,_=>o!
 |n+1,j,o,hj,ho,hp,hm=>by
  obtain⟨e,r,q,h⟩:=(Xc ops.toList []).2 j i o (by simpa using ho) (by simpa using hm);have a:=hp e (by simpa using r) q;rcases h with rfl|⟨g,c⟩;exact a;have l:e.on<j:=by simpa using g
  cases b:ops[e.on]? with
  |none=>have:O9 (IJ ops.toList []) i e.on=true:=c;obtain⟨s,_⟩:=bC.1 ho;rw[wa]at b;omega
  |some m=>exact dJ k n e.on m o! b (λp f d=>k e.on m b a p f d) c
def tmpsOf(o:Oper):List Nat:=o.op.operands.toList.filterMap λ| .tmp t=>some t|_=>none
def kg(P:Program)(N:Nat)(o:Oper)(env:Env)(H:A1)(rd:List Nat)(v:Aa):Prop:=
 ∀(env':Env) (H':A1),(∀t∈tmpsOf o,env'.get t=env.get t)->(∀id∈rd,H'[id]? =H[id]?)->JJ P N o env' H' λu H''=>u=v/\H''=H'
def Eff(P:Program)(N:Nat)(o:Oper)(env:Env)(H:A1)(F:List Nat)(K:Aa->A1->Prop):Prop:=
 (∀env':Env,(∀t∈tmpsOf o,env'.get t=env.get t)->JJ P N o env' H K)/\ ∀v H',K v H'-> ∀id,id<H.length->id∉F->H'[id]? =H[id]?
def IA(ops:Array Oper)(j:Nat):Bool:=
 match ops[j]? with
 |some o=>match o.op with| .alloc _=>true|_=>false
 |none=>false
def RA(P:Program)(N:Nat)(ops:Array Oper):List Nat->List (Nat×List Nat)->Env->A1->(Env->A1->Prop)->Prop
 |[],_,env,H,Q=>Q env H
 |i::r,pend,env,H,Q=>
  match ops[i]? with
  |none=>False
  |some o=>
   Xi ops o.guard env
    ((IA ops i=false/\ ∃v rd,kg P N o env H rd v/\(∀id∈rd,id<H.length)/\RA P N ops r ((i,rd)::pend) (env.putO o.dst v) H Q)\/
     (IA ops i=false/\ ∃F,(∀j∈r,O9 (IJ ops.toList []) i j=true\/IA ops j=true)/\(∀p∈pend,O9 (IJ ops.toList []) p.1 i=true\/ ∀id∈p.2,id∉F)/\
      ∃K,Eff P N o env H F K/\(∀v H',K v H'->H.length<=H'.length)/\ ∀v H',K v H'->RA P N ops r pend (env.putO o.dst v) H' Q)\/
     ∃t z,o.op= .alloc t/\Yd P t=some z/\(∀j∈r,O9 (IJ ops.toList []) i j=true\/IA ops j=true)/\RA P N ops r pend (env.putO o.dst (.ptr H.length 0 0)) (H++[.live 0 z]) Q)
    (IA ops i=false/\RA P N ops r ((i,[])::pend) (env.putO o.dst (.tup [])) H Q)
def Vo(P:Program)(ops:Array Oper):Bool:=ops.toList.all λo=>match o.op with| .alloc t=>(Yd P t).isSome&&o.guard.isNone|_=>true
def U7(ops:Array Oper)(i:Nat):Option Nat:=(ops[i]?).bind (·.dst)
def AAi(ops:Array Oper)(N:Nat)(l:List Nat):Bool:=
 let m:=IJ ops.toList []
 let n:=ops.size
 Oi N ops.toList&&
 (decide l.Nodup&&((List.range n).all λi=>l.contains i)&&l.all (λi=>decide (i<n)))&&
 ((List.range n).all λi=>match ops[i]? with
  |some o=>(o.after.toList.all λe=>!Region.binds .any e||decide (e.on<i))&&
    (match o.guard with|some (j,_)=>O9 m j i&&decide (j<n)&&(U7 ops j).isSome|none=>true)&&
    (match o.dst with
     |some d=>(List.range n).all λj=>decide (j=i)||(match ops[j]? with
       |some o'=>!decide (o'.dst=some d)&&(!(tmpsOf o').contains d||O9 m i j||O9 m j i)
       |none=>true)
     |none=>true)
  |none=>true)&&
 (l.zipIdx.all λ(i,p)=>l.zipIdx.all λ(j,q)=>!decide (p<q)|| !O9 m j i)
theorem GG(env:Env)(t u:Nat)(v:Aa):(env.put t v).get u=if u=t then v else env.get u:=by unfold Env.put;simp only[Env.get];by_cases h:t=u;grind;rw[if_neg h,if_neg (λe=>h e.symm)];induction env<;>grind[Env.get]
def KN(env:Env):Prop:= ∀t v,(t,v)∈env->env.get t=v
theorem KN.put(h:KN f)(t:Nat)(v:Aa):KN (f.put t v):=by
 intro u x m;rw[GG];rcases Aw.1 m with e|m;grind;obtain⟨a,b⟩:=BW.1 m;have:u≠t:=q!
 rw[if_neg this];exact h u x a
def KN.putO(h:KN f)(t:Option Nat)(v:Aa):KN (f.putO t v):=by
 cases t with
 |none=>exact h
 |some t=>exact h.put t v
theorem cK: ∀{env:Env},(env.map (·.1)).Nodup->KN env
 |[],_=>λ_ _ h=>by cases h
 |(k,w)::r,h=>by
  simp at h;intro t v m;simp only[Env.get];rcases Aw.1 m with e|m;grind;have:k≠t:=q!
  rw[if_neg this];exact cK h.2 t v m
end
structure Wl(ops:Array Oper)(N:Nat)(l:List Nat):Prop where
 dsts:Oi N ops.toList=true
 nodup:l.Nodup
 all: ∀i,i<ops.size->i∈l
 lt: ∀i∈l,i<ops.size
 back: ∀(i:Nat) (o:Oper),ops[i]? =some o-> ∀e∈o.after,Region.binds .any e=true->e.on<i
 guard: ∀(i:Nat) (o:Oper) (j:Nat) (b:Bool),ops[i]? =some o->o.guard=some (j,b)->O9 (IJ ops.toList []) j i=true/\j<ops.size/\ ∃d,U7 ops j=some d
 uniq: ∀(i j d:Nat),U7 ops i=some d->U7 ops j=some d->i=j
 haz: ∀(i j d:Nat) (o:Oper),U7 ops i=some d->ops[j]? =some o->d∈tmpsOf o->i≠j->O9 (IJ ops.toList []) i j=true\/O9 (IJ ops.toList []) j i=true
 ord: ∀(l1 l2:List Nat),l=l1++l2-> ∀i∈l1,∀j∈l2,O9 (IJ ops.toList []) j i=false
theorem Xw(h:U7 y N=some n): ∃o,y[N]? =some o/\o.dst=some n:=by grind[U7]
theorem Vj{i:Nat}(h:y[i]? =some o):i<y.size:=q!
theorem zW(h:AAi y N k=true):Wl y N k:=by
 unfold AAi at h;simp only[BY]at h;obtain⟨⟨⟨x,⟨l,M⟩,z⟩,A⟩,B⟩:=h;have a: ∀(i:Nat) (o:Oper),y[i]? =some o->_:=λi o f=>by have:=GA.1 A i (Hk.2 (Vj f));rw[f]at this;simp only[BY]at this;exact this
 refine⟨x,by simpa using l,λi c=>?_,λi c=>by simpa using List.all_eq_true.1 z i c,λi o f e E C=>?_,λi o j b f F=>?_,λi j d c g=>?_,λi j d o c g n G=>?_,λl1 l2 w i c j g=>?_⟩;simp_all;have:=GA.1 (a i o f).1.1 e (by simpa using E);simpa[C]using this;have:=(a i o f).1.2;rw[F]at this;simp only[BY,decide_eq_true_eq]at this;exact⟨this.1.1,this.1.2,de.1 this.2⟩;obtain⟨o,f,n⟩:=Xw c;obtain⟨O,m,r⟩:=Xw g;have:=(a i o f).2;rw[n]at this;have:=GA.1 this j (Hk.2 (Vj m));rw[m]at this;simp only[r,decide_true,Cw,Bool.false_and,Bool.or_false,decide_eq_true_eq]at this;exact this.symm;obtain⟨L,u,s⟩:=Xw c;have:=(a i L u).2;rw[s]at this;have:=GA.1 this j (Hk.2 (Vj g));rw[g]at this;have D:(tmpsOf o).contains d=true:=by simpa using n
 simp only[D,Cw,Bool.false_or,XV,decide_eq_true_eq,BY]at this;rcases this with h|⟨_,h⟩;omega;exact h;obtain⟨p,H⟩:=Dn c;obtain⟨q,I⟩:=Dn g;have v:p<l1.length:=q!
 have J:(i,p)∈k.zipIdx:=by rw[qz];rw[w,CT v];exact H
 have K:(j,l1.length+q)∈k.zipIdx:=by rw[qz];rw[w,Cj o!];simpa using I
 have:=GA.1 (GA.1 B _ J) _ K;have t:p<l1.length+q:=o!
 simpa[t]using this
section
variable {P:Program} {N:Nat} {ops:Array Oper} {l:List Nat} {Q:Env->A1->Prop} {env0:Env} {X:Nat->Prop} {h0:Gh} {H0:A1} {w0:World} {ds0:List Deferred}
def Opd(ops:Array Oper)(env0:Env)(v:Nat->Aa)(i:Nat)(o:Oper)(ei:Env):Prop:=
 ∀t∈tmpsOf o,(∀k,k≠i->U7 ops k=some t->O9 (IJ ops.toList []) k i=true->ei.get t=v k)/\
  ((∀k,k≠i->U7 ops k=some t->O9 (IJ ops.toList []) k i=false)->ei.get t=env0.get t)
def T4(v:Nat->Aa)(o:Oper)(r:Bool):Prop:=
 match o.guard with
 |none=>r=true
 |some (j,want)=>(∃b,v j= .bool b/\r=(b==want))\/(v j= .tup []/\r=false)
def XR(X:Nat->Prop)(early:Nat->Option Nat)(B:Nat):Prop:=X B\/ ∃i,early i=some B
structure Inv(P:Program)(N:Nat)(ops:Array Oper)(l:List Nat)(Q:Env→A1→Prop)(env0:Env)(X:Nat→Prop)(h0:Gh)(H0:A1)(w0:World)(ds0:List Deferred)
  (l1 l2:List Nat) (v:Nat->Aa) (pend:List (Nat×List Nat)) (env:Env) (H:A1) (h:Gh) (early:Nat->Option Nat) (L:Array Bool) (a:Act) (w:World):Prop where
 split:l=l1++l2
 ra:RA P N ops l2 pend env H Q
 kn:KN env
 keys: ∀t u,(t,u)∈env->t<N
 env1: ∀k∈l1,∀t,U7 ops k=some t->env.get t=v k
 env2: ∀t,(∀k∈l1,U7 ops k≠some t)->env.get t=env0.get t
 sim:It (XR X early) h H w
 nodefer:a.defers=ds0
 size:a.tmps.size=N
 slot1: ∀k t,L.getD k false=true->early k=none->U7 ops k=some t->Bx (cx (XR X early) h H w) (v k) (a.tmps.getD t undef)
 slot2: ∀t,(∀k,L.getD k false=true->U7 ops k≠some t)->Bx (cx (XR X early) h H w) (env0.get t) (a.tmps.getD t undef)
 sub: ∀i,L.getD i false=true->early i=none->i∈l1
 lsz:L.size=ops.size
 closed:vC ops L
 pendq: ∀i∈l1,L.getD i false=false-> ∃o,ops[i]? =some o/\IA ops i=false/\((T4 v o false/\v i= .tup [])\/
  (T4 v o true/\ ∃rd ei,(i,rd)∈pend/\(∀id∈rd,id<H.length)/\KN ei/\(∀t u,(t,u)∈ei->t<N)/\Opd ops env0 v i o ei/\kg P N o ei H rd (v i)))
 ext:HE h0 H0 w0 h H w
 early1: ∀i B,early i=some B->i∈l2/\L.getD i false=true/\w0.heap.size<=B/\B<w.heap.size/\ ∃(o:Oper) (t:TypeId) (z:List Aa) (arr:Array Value),ops[i]? =some o/\o.op= .alloc t/\Yd P t=some z/\
  w.heap[B]? =some (.cells arr t (0,0))/\Bx (cx (XR X early) h H w) (.agg z) (.agg arr)/\ ∀d,o.dst=some d->a.tmps.getD d undef= .pointer (some ⟨B,0,none⟩)
 early2: ∀i j B,early i=some B->early j=some B->i=j
def look(o:Oper)(ei:Env):Env:=ei.filter λp=>(tmpsOf o).contains p.1
theorem xX(o:Oper)(a:Env): ∀t∈tmpsOf o,(look o a).get t=a.get t:=by unfold look;induction a<;>grind[Env.get]
variable {l1 l2:List Nat} {v:Nat->Aa} {pend:List (Nat×List Nat)} {env:Env} {H:A1} {h:Gh} {early:Nat->Option Nat} {L:Array Bool} {a:Act} {w:World}
def Inv.opd(ok:Wl ops N l)(I:Inv P N ops l Q env0 X h0 H0 w0 ds0 l1 l2 v pend env H h early L a w)(m:l2=n::k)(s:ops[n]? =some o):Opd ops env0 v n o env:=by
 intro t u;have r:n∉l1:=by intro b;have:=ok.nodup;rw[I.split,m]at this;exact(QF.1 this).2.2 n b n k! rfl
 refine⟨λi q c g=>?_,λp=>?_⟩;refine I.env1 i ?_ t c;obtain⟨x,f,_⟩:=Xw c;have b:=ok.all i (Vj f);rw[I.split,An]at b;rcases b with b|b;exact b;rw[m]at b;rcases Aw.1 b with e|b;exact(q e).elim;have:=ok.ord (l1++[n]) k (by rw[I.split,m];simp) n k! i b;rw[g]at this;cases this;refine I.env2 t λi b c=>?_;have d:i≠n:=λe=>r (e▸b);rcases ok.haz i n t o c s u d with j|j;rw[p i d c]at j;cases j;have:=ok.ord l1 l2 I.split i b n (by rw[m];simp);rw[j]at this;cases this
def Inv.look(ok:Wl ops N l)(I:Inv P N ops l Q env0 X h0 H0 w0 ds0 l1 l2 v pend env H h early L a w)(y:ops[n]? =some o)(p:L.getD n false=false)
  (J: ∀e∈o.after,Region.binds .any e=true->L.getD e.on false=true) (x: ∀k,O9 (IJ ops.toList []) k n=true->early k=none)  (kn:KN f) (G: ∀t u,(t,u)∈f->t<N) (q:Opd ops env0 v n o f):OP (cx (XR X early) h H w) (look o f) a:=by
 intro t u m;obtain⟨B,K⟩:=BW.1 m;have z:t∈tmpsOf o:=by simpa using K
 refine⟨by rw[I.size];exact G t u B,?_⟩;rw[<-kn t u B];obtain⟨D,E⟩:=q t z;by_cases A: ∃k,k≠n/\U7 ops k=some t/\O9 (IJ ops.toList []) k n=true;obtain⟨k,b,d,c⟩:=A;rw[D k b d c];exact I.slot1 k t (dJ I.closed (n+1) n o o! y J c) (x k c) d;have g: ∀k,k≠n->U7 ops k=some t->O9 (IJ ops.toList []) k n=false:=by
  intro k b d;cases s:O9 (IJ ops.toList []) k n with
  |false=>rfl
  |true=>exact(A ⟨k,b,d,s⟩).elim
 rw[E g];refine I.slot2 t λk i d=>?_;by_cases b:k=n;subst b;rw[p]at i;cases i;rcases ok.haz k n t o d y z b with r|r;rw[g k b d]at r;cases r;obtain⟨C,j,_⟩:=Xw d;have:=dJ I.closed (k+1) k C o! j (λe F s=>I.closed k C j i e F s) r;rw[p]at this;cases this
theorem Inv.wanted(ok:Wl ops N l)(I:Inv P N ops l Q env0 X h0 H0 w0 ds0 l1 l2 v pend env H h early L a w)(z:ops[n]? =some o)(t: ∀k,O9 (IJ ops.toList []) k n=true→early k=none)
  (D: ∀e∈o.after,Region.binds .any e=true->L.getD e.on false=true) {r:Bool} (x:T4 v o r):Region.wanted o (yielded ops a.tmps)=r:=by
 unfold T4 at x;unfold Region.wanted;cases y:o.guard with
 |none=>grind
 |some p=>
  obtain⟨j,i⟩:=p;rw[y]at x;obtain⟨f,G,d,q⟩:=ok.guard n o j i z y;have s:=dJ I.closed (n+1) n o o! z D f;have hr:=I.slot1 j d s (t j f) q;have B:d<a.tmps.size:=by obtain⟨F,C,A⟩:=Xw q;have:=GA.1 ok.dsts F q!;grind[I.size]
  rcases x with⟨b,u,rfl⟩|⟨u,rfl⟩
  case inr=>
   rw[u]at hr;obtain⟨m,g⟩: ∃m,a.tmps.getD d undef= .tuple m:=by generalize a.tmps.getD d undef=c at hr;cases hr;grind
   have E:yielded ops a.tmps j=none:=by unfold yielded;rw[show(ops[j]?).bind (·.dst)=some d from q];simp_all
   grind
  rw[u]at hr;have g:a.tmps.getD d undef= .bool b:=by generalize a.tmps.getD d undef=c at hr;cases hr;rfl
  have E:yielded ops a.tmps j=some b:=by unfold yielded;rw[show(ops[j]?).bind (·.dst)=some d from q];simp_all
  grind
def Inv.noEarly(ok:Wl ops N l)(I:Inv P N ops l Q env0 X h0 H0 w0 ds0 l1 l2 v pend env H h early L a w)(d:n∈l1\/ ∃r,l2=n::r): ∀k,O9 (IJ ops.toList []) k n=true->k≠n->early k=none:=by
 intro k c f;cases g:early k with
 |none=>rfl
 |some B=>have b:=(I.early1 k B g).1;rcases d with d|⟨r,rfl⟩;have:=ok.ord l1 l2 I.split n d k b;rw[c]at this;cases this;rcases Aw.1 b with e|b;exact(f e).elim;have:=ok.ord (l1++[n]) r (by rw[I.split];simp) n k! k b;rw[c]at this;cases this
theorem G9{i:Nat}(a:i<L.size)(j:Nat):(L.setIfInBounds i true).getD j false=if j=i then true else L.getD j false:=by rw[QJ,QJ];grind
theorem Sa(b: ∀a,m=some a->a<t.tmps.size)(a:Nat):(t.put m r).tmps.getD a undef=if m=some a then r else t.tmps.getD a undef:=by
 cases m with
 |none=>simp[Act.put]
 |some m=>simp only[Act.put];rw[QJ,QJ];grind
theorem lg(f:vC ops L)(h:N<L.size)(l:ops[N]? =some o)(m: ∀e∈o.after,Region.binds .any e=true->L.getD e.on false=true):vC ops (L.setIfInBounds N true):=by intro j k c a e g d;rw[G9 h]at a⊢;by_cases b:j=N;grind;rw[if_neg b]at a;rw[f j k c a e g d];simp
end
section
variable {P:Program} {N:Nat} {ops:Array Oper} {l:List Nat} {Q:Env->A1->Prop} {env0:Env} {X:Nat->Prop} {h0:Gh} {H0:A1} {w0:World} {ds0:List Deferred}
variable {l1 l2:List Nat} {v:Nat->Aa} {pend:List (Nat×List Nat)} {env:Env} {H:A1} {h:Gh} {early:Nat->Option Nat} {L:Array Bool} {a:Act} {w:World}
theorem oX(ok:Wl ops N l)(a:ops[n]? =some o): ∀t,o.dst=some t->t<N:=by have:=GA.1 ok.dsts o q!;grind
theorem F6(a:ops[N]? =some o):U7 ops N=o.dst:=by grind[U7]
def Inv.done(ok:Wl ops N l)(I:Inv P N ops l Q env0 X h0 H0 w0 ds0 l1 l2 v pend env H h early L a w){i:Nat}(p:ops[i]? =some o)(r:i∈l1)(ad:L.getD i false=false)
  (hp: ∀e∈o.after,Region.binds .any e=true->L.getD e.on false=true) {c:Value} {A:Gh}  (sim:It (XR X early) A H j) (x:HE h H w A H j) (hv:Bx (cx (XR X early) A H j) (v i) c):
  Inv P N ops l Q env0 X h0 H0 w0 ds0 l1 l2 v pend env H A early (L.setIfInBounds i true) (a.put o.dst c) j:=by
 have n:i<L.size:=by rw[I.lsz];exact Vj p
 have F: ∀t,o.dst=some t->t<a.tmps.size:=λt ht=>by rw[I.size];exact oX ok p t ht
 have O:=x.later (XR X early);have s:i∉l2:=by intro hm;have:=ok.nodup;rw[I.split]at this;exact(QF.1 this).2.2 i r i hm rfl
 refine{split:=I.split,ra:=I.ra,kn:=I.kn,keys:=I.keys,env1:=I.env1,env2:=I.env2,sim:=sim,nodefer:=?_,size:=(dM _ _ _).trans I.size,slot1:=λk t m M f=>?_,slot2:=λt y=>?_,sub:=λC G J=>?_,lsz:=by rw[nt];exact I.lsz,closed:=lg I.closed n p hp,pendq:=λk K g=>?_,ext:=I.ext.trans x,early1:=λk B m=>?_,early2:=I.early2};rw[show(a.put o.dst c).defers=a.defers by cases o.dst<;>rfl];exact I.nodefer;rw[Sa F];rw[G9 n]at m;by_cases b:k=i;subst b;rw[F6 p]at f;rw[if_pos f];exact hv;rw[if_neg b]at m;rw[if_neg (λe=>b (ok.uniq k i t f (by rw[F6 p];exact e)))];exact(I.slot1 k t m M f).later O;rw[Sa F];have R:o.dst≠some t:=by have:=y i (by rw[G9 n,if_pos rfl]);rwa [F6 p]at this
 rw[if_neg R];refine(I.slot2 t λk m=>y k ?_).later O;rw[G9 n];split;rfl;exact m;rw[G9 n]at G;by_cases u:C=i;subst u;exact r;rw[if_neg u]at G;exact I.sub C G J;rw[G9 n]at g;by_cases b:k=i;subst b;simp at g;rw[if_neg b]at g;exact I.pendq k K g;obtain⟨S,V,W,T,o',t,z,D,U,Y,Z,e8,e9,E⟩:=I.early1 k B m;have b:k≠i:=λe=>s (e▸S);refine⟨S,by rw[G9 n,if_neg b];exact V,W,DQ T x.size,o',t,z,D,U,Y,Z,?_,e9.later O,λd q=>?_⟩;exact(x.keep B T (I.sim.out B (.inr ⟨k,m⟩)).2).trans e8;rw[Sa F,if_neg (λe=>b (ok.uniq k i d (by rw[F6 U];exact q) (by rw[F6 p];exact e)))];exact E d q
def Inv.next(ok:Wl ops N l)(I:Inv P N ops l Q env0 X h0 H0 w0 ds0 l1 l2 v pend env H h early L a w){i:Nat}(hl:l2=i::k)(V:ops[i]? =some o){pend':List (Nat×List Nat)}
  (G:IA ops i=false) (bm:RA P N ops k pend' (env.putO o.dst s) H Q) (bl: ∀p∈pend,p∈pend')
  (hq:(T4 v o false/\s= .tup [])\/(T4 v o true/\ ∃rd,(i,rd)∈pend'/\(∀id∈rd,id<H.length)/\kg P N o env H rd s)):
  ∃T,Inv P N ops l Q env0 X h0 H0 w0 ds0 (l1++[i]) k T pend' (env.putO o.dst s) H h early L a w:=by
 have a1:=I.opd ok hl V;have ax:=ok.nodup;rw[I.split,hl]at ax;have Z:i∉l1:=λhm=>(QF.1 ax).2.2 i hm i k! rfl;have ap:early i=none:=by
  cases he:early i with
  |none=>rfl
  |some B=>obtain⟨_,_,_,_,o',t,z,bG,e5,e6,_⟩:=I.early1 i B he;unfold IA at G;rw[e5]at G;simp only[e6]at G;cases G
 have bz:L.getD i false=false:=by
  cases R:L.getD i false with
  |false=>rfl
  |true=>exact(Z (I.sub i R ap)).elim
 let T:Nat->Aa:=λr=>if r=i then s else v r;have F: ∀r,r≠i->T r=v r:=λr g=>by simp[T,g]
 have a2:T i=s:=by simp[T]
 have U: ∀t,(env.putO o.dst s).get t=if o.dst=some t then s else env.get t:=by
  intro t;cases o.dst with
  |none=>simp[Env.putO]
  |some d=>simp only[Env.putO,GG,Ao];by_cases h:d=t;subst h;simp;rw[if_neg h,if_neg (λe=>h e.symm)]
 have al:O9 (IJ ops.toList []) i i=true->False:=by
  intro R;obtain⟨e,he,bN,K⟩:=(Xc ops.toList []).2 i i o (by simpa using V) (by simpa using R);have ao: ∀(n j r:Nat),j<n->O9 (IJ ops.toList []) r j=true->r<j:=by
   intro n;induction n with
   |zero=>intro j r h;omega
   |succ n ih=>
    intro j r hj R;cases ad:ops[j]? with
    |none=>
     have bt:ops.size<=j:=wa.1 ad;have ar: ∀(l:List Oper) (O:List Nat),(IJ l O).length=O.length+l.length:=by
      intro l;induction l with
      |nil=>intro O;rfl
      |cons o l ih=>intro O;simp only[IJ,ih];simp;omega
     have:(IJ ops.toList []).getD j 0=0:=by rw[Qu,Cm (by rw[ar];simpa using bt)];rfl
     unfold O9 at R;rw[this]at R;simp at R
    |some oj=>obtain⟨e,he,a4,A⟩:=(Xc ops.toList []).2 j r oj (by simpa using ad) (by simpa using R);have b0:=ok.back j oj ad e (by simpa using he) a4;rcases A with A|⟨A,h3⟩;omega;have:=ih e.on r o! h3;omega
  have:=ao (i+1) i i o! R;omega
 have a3: ∀{r:Nat} {y:Oper} {ei:Env},r∈l1->ops[r]? =some y->Opd ops env0 v r y ei->Opd ops env0 T r y ei:=by intro r y ei a6 S bb t ht;obtain⟨c1,c2⟩:=bb t ht;refine⟨λq hq M C=>?_,c2⟩;rw[c1 q hq M C,F];rintro rfl;have:=ok.ord l1 l2 I.split r a6 q (by rw[hl];simp);rw[C]at this;cases this
 have f: ∀{o':Oper} {b:Bool},(∀j c,o'.guard=some (j,c)->j≠i)->T4 v o' b->T4 T o' b:=by
  intro o' b a' hw;unfold T4 at hw⊢;cases Y:o'.guard with
  |none=>rw[Y]at hw;exact hw
  |some p=>obtain⟨j,c⟩:=p;rw[Y]at hw;simp only at hw⊢;rw[F j (a' j c Y)];exact hw
 refine⟨T,{split:=by rw[I.split,hl];simp,ra:=bm,kn:=I.kn.putO _ _,keys:=λt x m=>?_,env1:=λr g t M=>?_,env2:=λt a0=>?_,sim:=I.sim,nodefer:=I.nodefer,size:=I.size,slot1:=λr t g a8 M=>?_,slot2:=I.slot2,sub:=λj hj a5=>GI _ (I.sub j hj a5),lsz:=I.lsz,closed:=I.closed,pendq:=λr g a9=>?_,ext:=I.ext,early1:=λr B g=>?_,early2:=I.early2}⟩;cases J:o.dst with
 |none=>rw[J]at m;exact I.keys t x m
 |some d=>rw[J]at m;simp only[Env.putO,Env.put]at m;rcases Aw.1 m with e|m;injection e with e1 _;subst e1;exact oX ok V t J;exact I.keys t x (BW.1 m).1
 rw[U];rcases An.1 g with g|g;have D:r≠i:=λe=>Z (e▸g);rw[F r D,if_neg (λe=>D (ok.uniq r i t M (by rw[F6 V];exact e)))];exact I.env1 r g t M;have:r=i:=by simpa using g
 subst this;rw[F6 V]at M;rw[if_pos M,a2];rw[U];have K:o.dst≠some t:=by have:=a0 i k!;rwa [F6 V]at this
 rw[if_neg K];exact I.env2 t λr g=>a0 r (GI _ g);have D:r≠i:=by rintro rfl;rw[bz]at g;cases g
 rw[F r D];exact I.slot1 r t g a8 M;rcases An.1 g with E|E;have D:r≠i:=λe=>Z (e▸E);obtain⟨y,S,a7,W⟩:=I.pendq r E a9;have u: ∀j c,y.guard=some (j,c)->j≠i:=by rintro j c Y rfl;have:=(ok.guard r y j c S Y).1;have A:=ok.ord l1 l2 I.split r E j (by rw[hl];simp);rw[this]at A;cases A
 refine⟨y,S,a7,?_⟩;rw[F r D];rcases W with⟨K,A⟩|⟨K,rd,ei,A,h3,h4,h5,h6,h7⟩;exact .inl ⟨f u K,A⟩;exact .inr ⟨f u K,rd,ei,bl _ A,h3,h4,h5,a3 E S h6,h7⟩;have:r=i:=by simpa using E
 subst this;have u: ∀j c,o.guard=some (j,c)->j≠r:=by rintro j c Y rfl;exact al (ok.guard j o j c V Y).1
 refine⟨o,V,G,?_⟩;rw[a2];rcases hq with⟨K,A⟩|⟨K,rd,A,h3,h4⟩;exact .inl ⟨f u K,A⟩;refine .inr ⟨f u K,rd,env,A,h3,I.kn,I.keys,λt ht=>?_,h4⟩;obtain⟨c1,c2⟩:=a1 t ht;exact⟨λq hq M C=>by rw[c1 q hq M C,F q hq],c2⟩;obtain⟨e1,e2⟩:=I.early1 r B g;rw[hl]at e1;rcases Aw.1 e1 with e|e1;rw[e,ap]at g;cases g;exact⟨e1,e2⟩
def Inv.guardW(ok:Wl ops N l)(I:Inv P N ops l Q env0 X h0 H0 w0 ds0 l1 l2 v pend env H h early L a w)(G:l2=n::k)(D:ops[n]? =some o){A B:Prop}(c:Xi ops o.guard env A B):
  (T4 v o true/\A)\/(T4 v o false/\B):=by
 unfold Xi at c;unfold T4;cases t:o.guard with
 |none=>rw[t]at c;exact .inl ⟨rfl,c⟩
 |some p=>
  obtain⟨j,g⟩:=p;rw[t]at c;simp only at c⊢;obtain⟨f,S,d,K⟩:=ok.guard n o j g D t;have F:j∈l1:=by
   have m:=ok.all j S;rw[I.split,An]at m;rcases m with m|m;exact m;rw[G]at m;rcases Aw.1 m with e|m;subst e;have J:=ok.back;exfalso;have C:=I.opd ok G D;obtain⟨e,M,R,V⟩:=(Xc ops.toList []).2 j j o (by simpa using D) (by simpa using f);have x: ∀(r q i:Nat),q<r->q<=j->O9 (IJ ops.toList []) i q=true->i<q:=by
    intro r;induction r with
    |zero=>intro q i h;omega
    |succ r U=>
     intro q i W T u;have y:q<ops.size:=by have:=Vj D;omega
     obtain⟨e,M,E,C⟩:=(Xc ops.toList []).2 q i ops[q] (by simp[y]) (by simpa using u);have J:=ok.back q ops[q] (by simp[y]) e (by simpa using M) E;rcases C with C|⟨C,O⟩;omega;have:=U e.on i o! o! O;omega
   have:=x (j+1) j j o! (Ap _) f;omega;have:=ok.ord (l1++[n]) k (by rw[I.split,G];simp) n k! j m;rw[f]at this;cases this
  have z:V7 ops env j=v j:=by unfold V7;rw[show(ops[j]?).bind (·.dst)=some d from K];exact I.env1 j F d K
  rw[z]at c;split at c;rename_i b u;by_cases s:b=g;exact .inl ⟨.inl ⟨b,u,by simp[s]⟩,c.1 s⟩;exact .inr ⟨.inl ⟨b,u,by simp[s]⟩,c.2 (by cases b<;>cases g<;>simp_all)⟩;rename_i u;exact .inr ⟨.inr ⟨u,trivial⟩,c⟩;exact c.elim
end
section
variable {P:Program} {N:Nat} {ops:Array Oper} {l:List Nat} {Q:Env->A1->Prop} {env0:Env} {X:Nat->Prop} {h0:Gh} {H0:A1} {w0:World} {ds0:List Deferred}
theorem V9(a:ops[N]? =some o):IA ops N=true↔ ∃t,o.op= .alloc t:=by grind[IA]
theorem di(h:Vo P ops=true)(i:ops[N]? =some o)(a:o.op= .alloc b):(∃z,Yd P b=some z)/\o.guard=none:=by have:=GA.1 h o (by rw[Array.mem_toList_iff];exact tu i);rw[a]at this;simp at this;grind[Option.isSome_iff_exists]
def Inv.adopt(ok:Wl ops N l)(ha:Vo P ops=true)(hX: ∀B,X B→B<w0.heap.size){l1:List Nat}{v:Nat→Aa}{a7:List (Nat×List Nat)}{env:Env}{H:A1}{h:Gh}{early:Nat→Option Nat}{L:Array Bool}{a:Act}{w:World}
  {i:Nat} {r:List Nat} (I:Inv P N ops l Q env0 X h0 H0 w0 ds0 l1 (i::r) v a7 env H h early L a w) {B:Nat} (hB:early i=some B):
  ∃v' ad H' h' c,Inv P N ops l Q env0 X h0 H0 w0 ds0 (l1++[i]) r v' a7 ad H' h' c L a w:=by
 obtain⟨e1,e2,e3,e4,o,t,z,U,R,ap,hz,bN,b9,bt⟩:=I.early1 i B hB;have cn:IA ops i=true:=(V9 R).2 ⟨t,ap⟩;have hg:=(di ha R ap).2;have a2:=I.ra;simp only[RA,R,hg,Xi,cn,Bool.true_eq_false,false_and,false_or]at a2;obtain⟨M,z',a5,cc,_,a2⟩:=a2;rw[ap]at a5;injection a5 with et;subst et;rw[hz]at cc;injection cc with ez;subst ez;have b8:=ok.nodup;rw[I.split]at b8;have b3:i∉l1:=λhm=>(QF.1 b8).2.2 i hm i k! rfl;let u:Aa:=.ptr H.length 0 0;let v':Nat->Aa:=λk=>if k=i then u else v k;have ax: ∀k,k≠i->v' k=v k:=λk O=>by simp[v',O]
 have ca:v' i=u:=by simp[v']
 let c:Nat->Option Nat:=λk=>if k=i then none else early k;have W: ∀k C,c k=some C->k≠i/\early k=some C:=by intro k C O;simp only[c]at O;split at O;cases O;exact⟨v!,O⟩
 have a3: ∀t,(env.putO o.dst u).get t=if o.dst=some t then u else env.get t:=by
  intro t;cases o.dst with
  |none=>simp[Env.putO]
  |some d=>simp only[Env.putO,GG,Ao];by_cases h:d=t;subst h;simp;rw[if_neg h,if_neg (λe=>h e.symm)]
 have cf: ∀{k:Nat} {K:Oper} {ei:Env},k∈l1->ops[k]? =some K->Opd ops env0 v k K ei->Opd ops env0 v' k K ei:=by intro k K ei a' a1 ap t ht;obtain⟨c1,c2⟩:=ap t ht;refine⟨λq hq hd a6=>?_,c2⟩;rw[c1 q hq hd a6,ax];rintro rfl;have:=ok.ord l1 (q::r) I.split k a' q k!;rw[a6]at this;cases this
 have T: ∀{o':Oper} {b:Bool},(∀j D,o'.guard=some (j,D)->j≠i)->T4 v o' b->T4 v' o' b:=by
  intro o' b bm hw;unfold T4 at hw⊢;cases hg:o'.guard with
  |none=>rw[hg]at hw;exact hw
  |some p=>obtain⟨j,D⟩:=p;rw[hg]at hw;simp only at hw⊢;rw[ax j (bm j D hg)];exact hw
 have ar: ∀C,owned (h.at_ H.length (some B) 0 U.size) (H++[.live 0 z]) C->owned h H C\/C=B:=by rintro C ⟨id,e,he,bm,S⟩;rcases Ir he with⟨s,he⟩|⟨rfl,rfl⟩;exact .inl ⟨id,e,he,bm,by simpa[Gh.at_,Bi s]using S⟩;simp[Gh.at_]at S;exact .inr S.symm
 have hl:(cx (XR X early) h H w).Later (cx (XR X c) (h.at_ H.length (some B) 0 U.size) (H++[.live 0 z]) w):=by refine⟨Ap _,λ_ _ _ _=>rfl,λC _ hO=>?_,by simp[cx],λid A=>by simp only[cx]at A;simp[cx,Gh.at_,Bi A],λid A _=>by simp only[cx]at A;simp[cx,Gh.at_,Bi A]⟩;rcases hO with(hO|⟨k,O⟩)|hO;exact .inl (.inl hO);exact .inl (.inr ⟨k,(W k C O).2⟩);rcases ar C hO with hO|rfl;exact .inr hO;exact .inl (.inr ⟨i,hB⟩)
 have b7: ¬owned h H B:=(I.sim.out B (.inr ⟨i,hB⟩)).2;have b':It (XR X c) (h.at_ H.length (some B) 0 U.size) (H++[.live 0 z]) w:=by
  refine⟨λC V=>?_,λid g cs he=>?_,λid L' he=>?_,λid cB e e' C h1 h2 b5 b6 h3 h4=>?_,I.sim.bldKeep λid e he hB=>?_⟩;have cb:XR X early C:=by rcases V with V|⟨k,O⟩;exact .inl V;exact .inr ⟨k,(W k C O).2⟩
  refine⟨(I.sim.out C cb).1,λR=>?_⟩;rcases ar C R with R|rfl;exact(I.sim.out C cb).2 R;rcases V with V|⟨k,O⟩;have:=hX C V;omega;obtain⟨k1,k2⟩:=W k C O;exact k1 (I.early2 k i C k2 hB);rcases Ir he with⟨s,ao⟩|⟨rfl,e⟩;obtain⟨hg,b1⟩:=I.sim.live id g cs ao;refine⟨by simpa[cx,Gh.at_,Bi s]using hg,?_⟩;rcases b1 with⟨hn,rfl⟩|⟨B1,Z,T',cm,f,S,hb,b0,bl,a9,E⟩;exact .inl ⟨by simpa[cx,Gh.at_,Bi s]using hn,rfl⟩;refine .inr ⟨B1,Z,T',cm,f,by simpa[cx,Gh.at_,Bi s]using S,hb,by simpa[cx,Gh.at_,Bi s]using b0,bl,a9,λj v hj=>?_⟩;obtain⟨p1,p2,p3⟩:=E j v hj;exact⟨p1,p2,p3.later hl⟩;injection e with e1 e2;subst e1 e2;obtain⟨f,bl,a9,E⟩:=Pt (b9.later hl);exact⟨by simp[cx,Gh.at_],.inr ⟨B,U,t,(0,0),f,by simp[cx,Gh.at_],bN,by simp[cx,Gh.at_],bl,a9,E⟩⟩;rcases Ir he with⟨s,ao⟩|⟨rfl,e⟩;obtain⟨hg,B1,r1,S,hb,p1,p2,p3,p4,p5,p6,p7⟩:=I.sim.lp id L' ao;exact⟨by simpa[cx,Gh.at_,Bi s]using hg,B1,r1,by simpa[cx,Gh.at_,Bi s]using S,hb,p1,p2,p3,p4,p5,p6,λt v m=>⟨(p7 t v m).1,(p7 t v m).2.later hl⟩⟩;cases e;rcases Ir h1 with⟨cd,bz⟩|⟨rfl,_⟩<;>rcases Ir h2 with⟨ce,bG⟩|⟨rfl,_⟩;exact I.sim.inj _ _ _ _ C bz bG b5 b6 (by simpa[Gh.at_,Bi cd]using h3) (by simpa[Gh.at_,Bi ce]using h4);simp[Gh.at_]at h4;subst h4;exact(b7 ⟨id,e,bz,b5,by simpa[Gh.at_,Bi cd]using h3⟩).elim;simp[Gh.at_]at h3;subst h3;exact(b7 ⟨cB,e',bG,b6,by simpa[Gh.at_,Bi ce]using h4⟩).elim;rfl;rcases Ir he with⟨s,ao⟩|⟨rfl,e⟩;exact⟨ao,by simp[Gh.at_,Bi s],by simp[Gh.at_,Bi s],by simp[Gh.at_,Bi s],λ_ _ _ _ _=>rfl⟩;subst e;cases hB
 have b2:HE h0 H0 w0 (h.at_ H.length (some B) 0 U.size) (H++[.live 0 z]) w:=by have x:=I.ext;refine⟨x.os,x.tape,x.output,x.size,x.keep,by have:=x.n;simp;omega,λid A=>?_,λid A e=>?_,λC R=>?_,x.loops⟩;have s:id<H.length:=DQ A x.n;simpa[Gh.at_,Bi s]using x.gen id A;have s:id<H.length:=DQ A x.n;have:=x.same id A (by simpa[Gh.at_,Bi s]using e);simpa[Gh.at_,Bi s]using this;rcases ar C R with R|rfl;exact x.fresh C R;exact .inr e3
 refine⟨v',env.putO o.dst u,H++[.live 0 z],h.at_ H.length (some B) 0 U.size,c,?_⟩;refine{split:=by rw[I.split];simp,ra:=a2,kn:=I.kn.putO _ _,keys:=λM y m=>?_,env1:=λk G M F=>?_,env2:=λM a0=>?_,sim:=b',nodefer:=I.nodefer,size:=I.size,slot1:=λk M G cv F=>?_,slot2:=λM a0=>(I.slot2 M a0).later hl,sub:=λj hj co=>?_,lsz:=I.lsz,closed:=I.closed,pendq:=λk a' bb=>?_,ext:=b2,early1:=λk C O=>?_,early2:=λk j C h1 h2=>I.early2 k j C (W k C h1).2 (W j C h2).2};cases al:o.dst with
 |none=>rw[al]at m;exact I.keys M y m
 |some d=>rw[al]at m;simp only[Env.putO,Env.put]at m;rcases Aw.1 m with e|m;injection e with e1 _;subst e1;exact oX ok R M al;exact I.keys M y (BW.1 m).1
 rw[a3];rcases An.1 G with G|G;have J:k≠i:=λe=>b3 (e▸G);rw[ax k J,if_neg (λe=>J (ok.uniq k i M F (by rw[F6 R];exact e)))];exact I.env1 k G M F;have:k=i:=by simpa using G
 subst this;rw[F6 R]at F;rw[if_pos F,ca];rw[a3];have h1:o.dst≠some M:=by have:=a0 i k!;rwa [F6 R]at this
 rw[if_neg h1];exact I.env2 M λk O=>a0 k (GI _ O);by_cases J:k=i;subst J;rw[F6 R]at F;rw[ca,bt M F];exact .ptr (by simp[cx]) (by simp[cx,Gh.at_]) rfl λ_=>⟨B,by simp[cx,Gh.at_],rfl⟩
 rw[ax k J];exact(I.slot1 k M G (by simpa[c,J]using cv) F).later hl;by_cases b4:j=i;subst b4;simp;exact GI _ (I.sub j hj (by simpa[c,b4]using co));rcases An.1 a' with Y|Y;have J:k≠i:=λe=>b3 (e▸Y);obtain⟨K,a1,ct,a8⟩:=I.pendq k Y bb;have a4: ∀j D,K.guard=some (j,D)->j≠i:=by rintro j D hg rfl;have:=(ok.guard k K j D a1 hg).1;have h2:=ok.ord l1 (j::r) I.split k Y j k!;rw[this]at h2;cases h2
 refine⟨K,a1,ct,?_⟩;rw[ax k J];rcases a8 with⟨h1,h2⟩|⟨h1,rd,ei,h2,h3,h4,h5,h6,h7⟩;exact .inl ⟨T a4 h1,h2⟩;refine .inr ⟨T a4 h1,rd,ei,h2,λid A=>by have:=h3 id A;simp;omega,h4,h5,cf Y a1 h6,λad ch he hh=>h7 ad ch he λid A=>?_⟩;rw[hh id A,CT (h3 id A)];have:k=i:=by simpa using Y
 subst this;rw[e2]at bb;cases bb;obtain⟨k1,k2⟩:=W k C O;obtain⟨f1,f2,f3,f4,o',M,z',Z,f5,f6,f7,f8,f9,ci⟩:=I.early1 k C k2;rcases Aw.1 f1 with e|f1;exact(k1 e).elim;exact⟨f1,f2,f3,f4,o',M,z',Z,f5,f6,f7,f8,f9.later hl,ci⟩
def Mid(P:Program)(N:Nat)(ops:Array Oper)(l:List Nat)(Q:Env->A1->Prop)(env0:Env)(X:Nat->Prop)(h0:Gh)(H0:A1)(w0:World)(ds0:List Deferred)(L:Array Bool)(a:Act)(w:World):Prop:=
 ∃l1 l2 v pend env H h early,Inv P N ops l Q env0 X h0 H0 w0 ds0 l1 l2 v pend env H h early L a w
def UP(ok:Wl ops N l)(T:Vo P ops=true)(S: ∀B,X B→B<w0.heap.size){L:Array Bool}{a:Act}{w:World}{i:Nat}{o:Oper}(C:ops[i]? =some o)(g:IA ops i=false)(s: ∀e∈o.after,Region.binds .any e=true→L.getD e.on false=true):
  ∀(l2 l1:List Nat) (v:Nat->Aa) (b:List (Nat×List Nat)) (env:Env) (H:A1) (h:Gh) (early:Nat->Option Nat),Inv P N ops l Q env0 X h0 H0 w0 ds0 l1 l2 v b env H h early L a w->∃l1 l2 v b env H h early,Inv P N ops l Q env0 X h0 H0 w0 ds0 l1 l2 v b env H h early L a w/\(i∈l1\/ ∃r,l2=i::r/\T4 v o true/\∃F,(∀j∈r,O9 (IJ ops.toList []) i j=true\/IA ops j=true)/\(∀p∈b,O9 (IJ ops.toList []) p.1 i=true\/ ∀id∈p.2,id∉F)/\∃K,Eff P N o env H F K/\(∀v y,K v y->H.length<=y.length)/\ ∀v y,K v y->RA P N ops r b (env.putO o.dst v) y Q)
 |[],l1,v,b,env,H,h,early,I=>by have k:=ok.all i (Vj C);rw[I.split,C5]at k;exact⟨l1,[],v,b,env,H,h,early,I,.inl k⟩
 |q::r,l1,v,b,env,H,h,early,I=>by
  by_cases G:i∈l1;exact⟨l1,q::r,v,b,env,H,h,early,I,.inl G⟩
  ·cases E:early q with
   |some B=>obtain⟨O,ar,y,h',m,D⟩:=I.adopt ok T S E;exact UP ok T S C g s r _ O _ _ y h' m D
   |none=>
    have M:=I.ra;have ao:q<ops.size:=ok.lt q (by rw[I.split];simp);have c:ops[q]? =some (ops[q]):=by simp[ao]
    generalize ax:ops[q]=oq at c;have x:(∀j∈r,O9 (IJ ops.toList []) q j=true\/IA ops j=true)->i=q:=by intro f;have k:=ok.all i (Vj C);rw[I.split,An]at k;rcases k with k|k;exact(G k).elim;rcases Aw.1 k with e|k;exact e;rcases f i k with R|R;have hd:=dJ I.closed (i+1) i o o! C s R;have al:=I.sub q hd E;have J:=ok.nodup;rw[I.split]at J;exact((QF.1 J).2.2 q al q k! rfl).elim;rw[g]at R;cases R
    simp only[RA,c]at M;rcases I.guardW ok rfl c M with⟨U,(⟨n,u,rd,hQ,ap,d⟩|⟨n,F,f,V,K,W,Y,Z⟩|⟨t,z,ad,hz,f,d⟩)⟩|⟨U,n,d⟩
    ·obtain⟨O,D⟩:=I.next ok rfl c (pend':=(q,rd)::b) n d (λp s=>CW _ s) (.inr ⟨U,rd,k!,ap,hQ⟩)
     exact UP ok T S C g s r _ O _ _ H h early D
    have A:=x f;subst A;rw[C]at c;injection c with e;subst e;exact⟨l1,i::r,v,b,env,H,h,early,I,.inr ⟨r,rfl,U,F,f,V,K,W,Y,Z⟩⟩;have A:=x f;subst A;have:=(V9 c).2 ⟨t,ad⟩;rw[g]at this;cases this
    ·obtain⟨O,D⟩:=I.next ok rfl c (pend':=(q,[])::b) n d (λp s=>CW _ s) (.inl ⟨U,rfl⟩)
     exact UP ok T S C g s r _ O _ _ H h early D
def Vn{K b:Act->World->Prop}(h:Oper.wpIn (FR m) 0 P o t j K z)(d: ∀t j,K t j->b t j):Oper.wpIn (FR m) 0 P o t j b z:=Oper.wpIn_mono d h
def Inv.make(ok:Wl ops N l)(ha:Vo P ops=true){l1 l2:List Nat}{v:Nat→Aa}{K:List (Nat×List Nat)}{env:Env}{H:A1}{h:Gh}{early:Nat→Option Nat}{L:Array Bool}{a:Act}{w:World}{Q0:Exit→Act→World→Prop}{ro:Option Nat}
  (I:Inv P N ops l Q env0 X h0 H0 w0 ds0 l1 l2 v K env H h early L a w) {i:Nat} {o:Oper} {t:TypeId} (u:ops[i]? =some o) (y:o.op= .alloc t) (a6:L.getD i false=false)
  (hp: ∀e∈o.after,Region.binds .any e=true->L.getD e.on false=true):
  Oper.wpIn (FR ro) 0 P o a w (λa' C=> ∃b,Inv P N ops l Q env0 X h0 H0 w0 ds0 l1 l2 v K env H h b (L.setIfInBounds i true) a' C) Q0:=by
 obtain⟨⟨z,hz⟩,hg⟩:=di ha u y;have bb:IA ops i=true:=(V9 u).2 ⟨t,y⟩;obtain⟨b3,zv,hi,bG,rz⟩:=dR (cx (XR X early) h H w) hz;have a4:(execOp a.eval o).run P w= .ok (.value (.pointer (some ⟨w.heap.size,0,none⟩))) {w with heap:=w.heap.push (.cells zv.cells t)}:=by unfold execOp;rw[y];simp[Instr.alloc,zeroValue,typeInfo,hi,bG,newVar,newRow]
 refine⟨λ_ _=>trivial,?_⟩;rw[Oper.semAt_eq _ _ _ (λc hc=>by rw[y]at hc;cases hc),a4,Oper.uponIn_value];let b:Nat->Option Nat:=λk=>if k=i then some w.heap.size else early k;generalize s:({w with heap:=w.heap.push (.cells zv.cells t)}:World)=C;have b2:C.heap.size=w.heap.size+1:=by rw[<-s];simp
 have q: ∀k,k<w.heap.size->C.heap[k]? =w.heap[k]? :=λk r=>by rw[<-s];simp[TF,Bi r]
 have bz:C.heap[w.heap.size]? =some (.cells zv.cells t):=by rw[<-s];simp
 have U:C.os=w.os:=by rw[<-s]
 have V:C.tape=w.tape:=by rw[<-s]
 have A:C.output=w.output:=by rw[<-s]
 have ap:i∉l1:=by intro hm;obtain⟨o',b1,ar,_⟩:=I.pendq i hm a6;rw[bb]at ar;cases ar
 have bm:i∈l2:=by have:=ok.all i (Vj u);rw[I.split,An]at this;exact this.resolve_left ap
 have bN:early i=none:=by
  cases G:early i with
  |none=>rfl
  |some B=>have:=(I.early1 i B G).2.1;rw[a6]at this;cases this
 have a8:=I.sim.grow U V A o! q;have b0:=(HE.grow (h:=h) (H:=H) U V A o! q).later (XR X early);have J: ∀B,owned h H B->B<w.heap.size:=by rintro B ⟨id,e,G,S,x⟩;exact I.sim.io_at G S x
 have a7: ∀B,XR X b B->XR X early B\/B=w.heap.size:=by rintro B (O|⟨k,r⟩);exact .inl (.inl O);simp only[b]at r;split at r;injection r with e;exact .inr e.symm;exact .inl (.inr ⟨k,r⟩)
 have W:(cx (XR X early) h H w).Later (cx (XR X b) h H C):=by refine⟨by simp only[cx];omega,λB O _=>kp (q B O),λB O Z=>?_,Ap _,λ_ _=>Ap _,λ_ _ _=>⟨rfl,rfl⟩⟩;rcases Z with Z|Z;rcases a7 B Z with D|rfl;exact .inl D;simp only[cx]at O;omega;exact .inr Z
 have a5:It (XR X b) h H C:=by refine⟨λB O=>?_,λid g cs G=>?_,λid L' G=>?_,I.sim.inj,I.sim.bldKeep λid e G _=>⟨G,rfl,rfl,rfl,λB o _ R _=>q B (PD R)⟩⟩;rcases a7 B O with D|rfl;exact a8.out B D;exact⟨o!,λu=>by have:=J _ u;omega⟩;obtain⟨hg,ao⟩:=I.sim.live id g cs G;refine⟨hg,?_⟩;rcases ao with⟨hn,rfl⟩|⟨B,M,T,fz,f,x,R,ad,bt,bl,E⟩;exact .inl ⟨hn,rfl⟩;refine .inr ⟨B,M,T,fz,f,x,(q B (PD R)).trans R,ad,bt,bl,λj v hj=>?_⟩;obtain⟨p1,p2,p3⟩:=E j v hj;exact⟨p1,p2,p3.later W⟩;obtain⟨hg,B1,r1,x,R,p1,p2,p3,p4,p5,p6,p7⟩:=I.sim.lp id L' G;exact⟨hg,B1,r1,x,(q B1 (PD R)).trans R,p1,p2,p3,p4,p5,p6,λt v m=>⟨(p7 t v m).1,(p7 t v m).2.later W⟩⟩
 have p:i<L.size:=by rw[I.lsz];exact Vj u
 have hd: ∀t,o.dst=some t->t<a.tmps.size:=λt ht=>by rw[I.size];exact oX ok u t ht
 refine⟨b,?_⟩;refine{split:=I.split,ra:=I.ra,kn:=I.kn,keys:=I.keys,env1:=I.env1,env2:=I.env2,sim:=a5,nodefer:=?_,size:=(dM _ _ _).trans I.size,slot1:=λk t r a2 al=>?_,slot2:=λt J=>?_,sub:=λj hj ax=>?_,lsz:=by rw[nt];exact I.lsz,closed:=lg I.closed p u hp,pendq:=λk a1 a3=>?_,ext:=I.ext.trans (HE.grow U V A o! q),early1:=λk B r=>?_,early2:=λj k B D Y=>?_};rw[show(a.put o.dst _).defers=a.defers by cases o.dst<;>rfl];exact I.nodefer;have n:k≠i:=by rintro rfl;simp[b]at a2
 rw[G9 p,if_neg n]at r;rw[Sa hd,if_neg (λe=>n (ok.uniq k i t al (by rw[F6 u];exact e)))];exact(I.slot1 k t r (by simpa[b,n]using a2) al).later W;rw[Sa hd];have S:o.dst≠some t:=by have:=J i (by rw[G9 p,if_pos rfl]);rwa [F6 u]at this
 rw[if_neg S];refine(I.slot2 t λk r=>J k ?_).later W;rw[G9 p];split;rfl;exact r;have a0:j≠i:=by rintro rfl;simp[b]at ax
 rw[G9 p,if_neg a0]at hj;exact I.sub j hj (by simpa[b,a0]using ax);have n:k≠i:=λe=>ap (e▸a1);rw[G9 p,if_neg n]at a3;exact I.pendq k a1 a3;by_cases n:k=i;subst n;simp only[b,if_true]at r;injection r with e;subst e;refine⟨bm,by rw[G9 p,if_pos rfl],I.ext.size,o!,o,t,z,zv.cells,u,y,hz,bz,rz.later W,λd F=>?_⟩;rw[Sa hd,if_pos F];simp only[b,if_neg n]at r;obtain⟨e1,e2,e3,e4,o',t',z',M,e5,e6,e7,e8,e9,a9⟩:=I.early1 k B r;refine⟨e1,by rw[G9 p,if_neg n];exact e2,e3,o!,o',t',z',M,e5,e6,e7,(q B e4).trans e8,e9.later W,λd F=>?_⟩;rw[Sa hd,if_neg (λe=>n (ok.uniq k i d (by rw[F6 e5];exact F) (by rw[F6 u];exact e)))];exact a9 d F;simp only[b]at D Y;split at D<;>split at Y;simp_all;injection D with e;have:=(I.early1 k B Y).2.2.2.1;omega;injection Y with e;have:=(I.early1 j B D).2.2.2.1;omega;exact I.early2 j k B D Y
def Mid.step(ok:Wl ops N l)(ha:Vo P ops=true)(hX: ∀B,X B→B<w0.heap.size){L:Array Bool}{a:Act}{w:World}{Q0:Exit→Act→World→Prop}{ro:Option Nat}(M:Mid P N ops l Q env0 X h0 H0 w0 ds0 L a w){i:Nat}{o:Oper}(n:ops[i]? =some o)(E:L.getD i false=false)
  (Y: ∀e∈o.after,Region.binds .any e=true->L.getD e.on false=true):wpOpIn (FR ro) 0 P ops Q0 i (Mid P N ops l Q env0 X h0 H0 w0 ds0 (L.setIfInBounds i true)) a w:=by
 cases a3:IA ops i with
 |true=>
  obtain⟨t,a9⟩:=(V9 n).1 a3;have hg:=(di ha n a9).2;obtain⟨l1,l2,v,s,env,H,h,early,I⟩:=M;unfold wpOpIn;rw[n];simp only;have J:Region.wanted o (yielded ops a.tmps)=true:=by unfold Region.wanted;rw[hg]
  rw[J];simp only[if_true];refine(Vn (I.make ok ha n a9 E Y) ?_);rintro a' w' ⟨al,I'⟩;exact⟨l1,l2,v,s,env,H,h,al,I'⟩
 |false=>
 obtain⟨l1,l2,v,s,env,H,h,early,I⟩:=M;obtain⟨l1,l2,v,s,env,H,h,early,I,A⟩:=UP ok ha hX n a3 Y l2 l1 v s env H h early I;have G: ∀k,O9 (IJ ops.toList []) k i=true->early k=none:=by
  intro k D;by_cases f:k=i;subst f;cases he:early k with
  |none=>rfl
  |some B=>have:=(I.early1 k B he).2.1;rw[E]at this;cases this
  refine I.noEarly ok ?_ k D f;rcases A with h1|⟨r,h1,_⟩;exact .inl h1;exact .inr ⟨r,h1⟩
 unfold wpOpIn;rw[n];simp only;rcases A with ax|⟨r,rfl,J,F,b7,bz,K,a1,bG,bN⟩
 ·obtain⟨o',a7,_,b6⟩:=I.pendq i ax E;rw[n]at a7;injection a7 with e;subst e;rcases b6 with⟨J,ao⟩|⟨J,rd,ei,_,_,kn,T,W,hQ⟩
  ·rw[I.wanted ok n G Y J];simp only[PW,if_false];exact⟨λ_ _=>trivial,l1,l2,v,s,env,H,h,early,I.done ok n ax E Y I.sim (HE.refl _ _ _) (by rw[ao];exact .tup rfl λ_ _ _ h=>by cases h)⟩
  ·rw[I.wanted ok n G Y J];simp only[if_true];refine(Vn (hQ (look o ei) H (xX o ei) (λ_ _=>rfl) ro (XR X early) h a w ⟨I.sim,I.look ok n E Y G kn T W,I.size⟩ Q0) ?_);rintro a' w' ⟨c,u,h',H',rfl,⟨rfl,rfl⟩,hv,sim,x⟩;exact⟨l1,l2,v,s,env,_,h',early,I.done ok n ax E Y sim x hv⟩
 rw[I.wanted ok n G Y J];simp only[if_true];have W:=I.opd ok rfl n;refine(Vn (a1.1 (look o env) (xX o env) ro (XR X early) h a w ⟨I.sim,I.look ok n E Y G I.kn I.keys W,I.size⟩ Q0) ?_);rintro a' w' ⟨c,u,h',H',rfl,T,hv,sim,x⟩;have a6:=ok.nodup;rw[I.split]at a6;have b1:i∉l1:=λhm=>(QF.1 a6).2.2 i hm i k! rfl;have hi:i<L.size:=by rw[I.lsz];exact Vj n
 have hl:=x.later (XR X early);let v':Nat->Aa:=λk=>if k=i then u else v k;have Z: ∀k,k≠i->v' k=v k:=λk T=>by simp[v',T]
 have ao:v' i=u:=by simp[v']
 have hd: ∀t,o.dst=some t->t<a.tmps.size:=λt ht=>by rw[I.size];exact oX ok n t ht
 have ap: ∀t,(env.putO o.dst u).get t=if o.dst=some t then u else env.get t:=by
  intro t;cases o.dst with
  |none=>simp[Env.putO]
  |some d=>simp only[Env.putO,GG,Ao];by_cases h:d=t;subst h;simp;rw[if_neg h,if_neg (λe=>h e.symm)]
 refine⟨l1++[i],r,v',s,env.putO o.dst u,H',h',early,?_⟩;refine{split:=by rw[I.split];simp,ra:=bN u H' T,kn:=I.kn.putO _ _,keys:=λt y m=>?_,env1:=λk g t C=>?_,env2:=λt V=>?_,sim:=sim,nodefer:=?_,size:=(dM _ _ _).trans I.size,slot1:=λk t g b5 C=>?_,slot2:=λt V=>?_,sub:=λj hj b2=>?_,lsz:=by rw[nt];exact I.lsz,closed:=lg I.closed hi n Y,pendq:=λk b3 U=>?_,ext:=I.ext.trans x,early1:=λk B g=>?_,early2:=I.early2};cases R:o.dst with
 |none=>rw[R]at m;exact I.keys t y m
 |some d=>rw[R]at m;simp only[Env.putO,Env.put]at m;rcases Aw.1 m with e|m;injection e with e1 _;subst e1;exact oX ok n t R;exact I.keys t y (BW.1 m).1
 rw[ap];rcases An.1 g with g|g;have f:k≠i:=λe=>b1 (e▸g);rw[Z k f,if_neg (λe=>f (ok.uniq k i t C (by rw[F6 n];exact e)))];exact I.env1 k g t C;have:k=i:=by simpa using g
 subst this;rw[F6 n]at C;rw[if_pos C,ao];rw[ap];have h1:o.dst≠some t:=by have:=V i k!;rwa [F6 n]at this
 rw[if_neg h1];exact I.env2 t λk T=>V k (GI _ T);rw[show(a.put o.dst c).defers=a.defers by cases o.dst<;>rfl];exact I.nodefer;rw[Sa hd];rw[G9 hi]at g;by_cases f:k=i;subst f;rw[F6 n]at C;rw[if_pos C,ao];exact hv;rw[if_neg f]at g;rw[if_neg (λe=>f (ok.uniq k i t C (by rw[F6 n];exact e))),Z k f];exact(I.slot1 k t g b5 C).later hl;rw[Sa hd];have G:o.dst≠some t:=by have:=V i (by rw[G9 hi,if_pos rfl]);rwa [F6 n]at this
 rw[if_neg G];refine(I.slot2 t λk T=>V k ?_).later hl;rw[G9 hi];split;rfl;exact T;rw[G9 hi]at hj;by_cases a4:j=i;subst a4;simp;rw[if_neg a4]at hj;exact GI _ (I.sub j hj b2);rw[G9 hi]at U;by_cases f:k=i;subst f;simp at U;rw[if_neg f]at U;have a5:k∈l1:=by rcases An.1 b3 with h|h;exact h;exact(f (by simpa using h)).elim
 obtain⟨ad,a8,b4,A⟩:=I.pendq k a5 U;have ar:O9 (IJ ops.toList []) i k=false:=ok.ord l1 (i::r) I.split k a5 i k!;have O: ∀{b:Bool},T4 v ad b->T4 v' ad b:=by
  intro b J;unfold T4 at J⊢;cases hg:ad.guard with
  |none=>rw[hg]at J;exact J
  |some p=>
   obtain⟨j,bb⟩:=p;rw[hg]at J;simp only at J⊢;have:j≠i:=by rintro rfl;have:=(ok.guard k ad j bb a8 hg).1;rw[ar]at this;cases this
   rw[Z j this];exact J
 refine⟨ad,a8,b4,?_⟩;rw[Z k f];rcases A with⟨q1,q2⟩|⟨q1,rd,ei,q2,q3,q4,q5,q6,q7⟩;exact .inl ⟨O q1,q2⟩;refine .inr ⟨O q1,rd,ei,q2,λid S=>DQ (q3 id S) (bG u H' T),q4,q5,λt ht=>?_,λa0 bl he hh=>q7 a0 bl he λid S=>?_⟩;obtain⟨c1,c2⟩:=q6 t ht;refine⟨λq hq b0 D=>?_,c2⟩;rw[c1 q hq b0 D,Z];rintro rfl;rw[ar]at D;cases D;rw[hh id S];apply a1.2 u H' T id (q3 id S);rcases bz (k,rd) q2 with h1|h1;have:=dJ I.closed (i+1) i o o! n Y h1;simp only at this;rw[U]at this;cases this;exact h1 id S;obtain⟨e1,e2,e3,e4,o',t,z,bm,e5,e6,e7,e8,e9,bt⟩:=I.early1 k B g;have f:k≠i:=by rintro rfl;rw[E]at e2;cases e2
 refine⟨(Aw.1 e1).resolve_left f,by rw[G9 hi,if_neg f];exact e2,e3,DQ e4 x.size,o',t,z,bm,e5,e6,e7,?_,e9.later hl,λd a2=>?_⟩;exact(x.keep B e4 (I.sim.out B (.inr ⟨k,g⟩)).2).trans e8;rw[Sa hd,if_neg (λe=>f (ok.uniq k i d (by rw[F6 e5];exact a2) (by rw[F6 n];exact e)))];exact bt d a2
theorem Inv.end_(ok:Wl ops N l)(s:Vo P ops=true)(p: ∀B,X B→B<w0.heap.size){L:Array Bool}{a:Act}{w:World}(e: ∀i,i<ops.size→L.getD i false=true):
  ∀(l2 l1:List Nat) (v:Nat->Aa) (c:List (Nat×List Nat)) (env:Env) (H:A1) (h:Gh) (early:Nat->Option Nat),Inv P N ops l Q env0 X h0 H0 w0 ds0 l1 l2 v c env H h early L a w->
  ∃o b g,Q b g/\St X o N b g a w/\HE h0 H0 w0 o g w/\a.defers=ds0
 |q::r,l1,v,c,env,H,h,early,I=>by
  cases j:early q with
  |some B=>obtain⟨G,b,g,o,d,y⟩:=I.adopt ok s p j;exact Inv.end_ ok s p e r _ G _ _ g o d y
  |none=>have J:=I.sub q (e q (ok.lt q (by rw[I.split];simp))) j;have E:=ok.nodup;grind[I.split]
 |[],l1,v,c,env,H,h,early,I=>by
  have D: ∀k,early k=none:=by
   intro k;cases C:early k with
   |none=>rfl
   |some B=>have:=(I.early1 k B C).1;cases this
  have n:XR X early=X:=by funext B;apply propext;constructor;rintro(z|⟨k,x⟩);exact z;grind;exact .inl
  have f:=I.sim;rw[n]at f;refine⟨h,env,H,I.ra,⟨f,λt u m=>⟨by rw[I.size];exact I.keys t u m,?_⟩,I.size⟩,I.ext,I.nodefer⟩;rw[<-n,<-I.kn t u m];by_cases F: ∃k∈l1,U7 ops k=some t;have⟨k,x,A⟩:=F;rw[I.env1 k x t A];grind[Xw,I.slot1,Vj];grind[I.env2,I.slot2,I.sub]
def Mid.end_(ok:Wl ops N l)(x:Vo P ops=true)(u: ∀B,X B→B<w0.heap.size){w:World}(M:Mid P N ops l Q env0 X h0 H0 w0 ds0 L t w)(hr:Region.ready .any ops L=[]):
  ∃o b g,Q b g/\St X o N b g t w/\HE h0 H0 w0 o g w/\t.defers=ds0:=by
 obtain⟨l1,l2,v,f,env,H,h,early,I⟩:=M;have c: ∀(n i:Nat),i<n->i<ops.size->L.getD i false=true:=by
  intro n;induction n with
  |zero=>intro i h;omega
  |succ n z=>
   intro i q d;cases p:L.getD i false with
   |true=>rfl
   |false=>
    have m:i<L.size:=by rw[I.lsz];exact d
    have j:L.getD i true=false:=by rw[QJ,Nf m]at p⊢;simpa using p
    have a:ops[i]? =some (ops[i]):=by simp[d]
    have s:i∈Region.ready .any ops L:=by rw[mem_ready];refine⟨j,_,a,λe y k=>?_⟩;have r:=ok.back i _ a e y k;exact z e.on o! o!
    rw[hr]at s;cases s
 exact Inv.end_ ok x u (λi q=>c (i+1) i o! q) l2 l1 v f env H h early I
theorem uS{p q:Nat->Bool}(h: ∀j,q j=true->p j=true): ∀l:List Nat,(l.filter q).length<=(l.filter p).length
 |[]=>k!
 |y::r=>by have a:=uS h r;grind
theorem filter_lt{p:Nat->Bool}{i:Nat}{q:Nat->Bool}(b: ∀j,q j=(p j&& !decide (j=i))): ∀(l:List Nat),i∈l->p i=true->(l.filter q).length<(l.filter p).length
 |x::r,h,hp=>by
  have d:=uS (p:=p) (q:=q) (λj a=>by rw[b]at a;simp at a;exact a.1) r;by_cases e:x=i;grind;have c:i∈r:=q!
  have f:=filter_lt b r c hp;grind
theorem Mid.any(ok:Wl ops N l)(k:Vo P ops=true)(g: ∀B,X B→B<w0.heap.size){f:Exit→Act→World→Prop}{ro:Option Nat}(e: ∀L a w,Mid P N ops l Q env0 X h0 H0 w0 ds0 L a w→Region.ready .any ops L=[]→f .normal a w):
  ∀(b:Nat) (L:Array Bool) (a:Act) (w:World),((List.range ops.size).filter λi=>!L.getD i false).length<=b->Mid P N ops l Q env0 X h0 H0 w0 ds0 L a w->wpAnyIn (FR ro) 0 P .any ops f b L a w
 |0,L,a,w,hf,M=>by
  have hr:Region.ready .any ops L=[]:=by
   cases u:Region.ready .any ops L with
   |nil=>rfl
   |cons i r=>
    have d:i∈Region.ready .any ops L:=q!
    rw[mem_ready]at d;have:i∈(List.range ops.size).filter λi=>!L.getD i false:=q!
    grind
  exact⟨hr,e L a w M hr⟩
 |b+1,L,a,w,hf,M=>by
  refine⟨λhr=>e L a w M hr,λi d=>?_⟩;rw[mem_ready]at d;have⟨x,o,m,t⟩:=d;have c:L.getD i false=false:=q!
  refine wpOpIn_mono (λs v n=>Mid.any ok k g e b _ s v ?_ n) (Mid.step ok k g M m c t);have:=filter_lt (p:=λi=>!L.getD i false) (i:=i) (q:=λj=>!(L.setIfInBounds i true).getD j false) (λj=>by rw[G9 q!];by_cases h:j=i<;>simp[h]) (List.range ops.size) (Hk.2 (Vj m)) (by simp[c]);omega
def jB{K:Exit→Env→A1→Prop}(C:P.follows .mixedOrders=true)(l:List Nat)(q:AAi ops N l=true)(r:Vo P ops=true)(p:(f.map (·.1)).Nodup)
  (h:RA P N ops l [] f H (K .normal)):Lh P N (.region n ops true) f H K:=by
 intro ro X g a w s _;have ok:=zW q;have b: ∀i,(Array.replicate ops.size false).getD i false=false:=by intro i;rw[QJ];by_cases d:i<ops.size;simp[d];simp[d]
 have E:({w with drawn:=w.drawn+1}:World)=w.drew:=rfl;apply wpIn_region_any C;rw[E];refine Mid.any (Q:=K .normal) (env0:=f) (X:=X) (h0:=g) (H0:=H) (w0:=w) (ds0:=a.defers) ok r (λB c=>(s.sim.out B c).1) (λL I O M hr=>?_) ops.size _ a w.drew ?_ ?_;obtain⟨A,R,y,D,F,G,z⟩:=M.end_ ok r (λB c=>(s.sim.out B c).1) hr;exact⟨A,R,y,D,F,G,.same z⟩;exact Dh (Fy _ _) k!;have x:=HE.drew (h:=g) (H:=H) (w:=w);have S:XR X (λ_=>none)=X:=by funext B;apply propext;constructor;rintro(c|⟨k,e⟩);exact c;cases e;exact .inl
 refine⟨[],l,λ_=>.any,[],f,H,g,λ_=>none,?_⟩;refine{split:=rfl,ra:=h,kn:=cK p,keys:=(λt u m=>by have:=(s.env t u m).1;rw[s.size]at this;exact this),env1:=(λk e=>by cases e),env2:=λt _=>rfl,sim:=(by rw[S];exact s.sim.drew),nodefer:=rfl,size:=s.size,slot1:=(λk t e _=>by rw[b]at e;cases e),slot2:=λt _=>(by rw[S];exact(jA s.env t).later (x.later X)),sub:=(λi d=>by rw[b]at d;cases d),lsz:=k!,closed:=(λj o J v=>by rw[b]at v;cases v),pendq:=(λi d=>by cases d),ext:=x,early1:=(λi B c=>by cases c),early2:=(λi j B c=>by cases c)}
end
def nR:Aa->List Nat
 | .ptr id _ _=>[id]
 | .sl id _ _ _ _=>[id]
 |_=>[]
def ABk(env:Env)(op:Op):List Nat:=op.operands.toList.flatMap λx=>nR (BM env x)
theorem fH(h: ∀t∈tmpsOf o,W.get t=f.get t): ∀x∈o.op.operands,BM W x=BM f x:=by
 intro x b;cases x with
 |tmp t=>apply h t;unfold tmpsOf;rw[OX];exact⟨.tmp t,q!,rfl⟩
 |_=>rfl
def sY{l:List Operand}(h: ∀x∈l,BM W x=BM f x):l.map (BM W)=l.map (BM f):=Mk h
theorem ut(h: ∀x∈T.operands,BM W x=BM f x):Ce P W H T=Ce P f H T:=by
 cases T with
 |move x=>grind[Ce,Op.operands]
 |assign x=>grind[Ce,Op.operands]
 |pick c a b=>grind[Ce,Op.operands]
 |load t a=>grind[Ce,Op.operands]
 |nilCheck x=>grind[Ce,Op.operands]
 |binOp T t x y E=>grind[Ce,Op.operands]
 |unOp T t x=>grind[Ce,Op.operands]
 |convert s d x=>grind[Ce,Op.operands]
 |fieldAddr s x e=>grind[Ce,Op.operands]
 |field s x e=>grind[Ce,Op.operands]
 |indexAddr t x i=>grind[Ce,Op.operands]
 |index t x i=>grind[Ce,Op.operands]
 |extract x i=>grind[Ce,Op.operands]
 |slice t x u o v=>
  have C:u.map (BM W)=u.map (BM f):=by cases u with|none=>rfl|some y=>simp[h y (by simp[Op.operands])]
  have B:o.map (BM W)=o.map (BM f):=by cases o with|none=>rfl|some y=>simp[h y (by simp[Op.operands])]
  have D:v.map (BM W)=v.map (BM f):=by cases v with|none=>rfl|some y=>simp[h y (by simp[Op.operands])]
  grind[Ce,Op.operands]
 |makeFunc e a b=>simp only[Ce];rw[sY λx j=>h x (by simp only[Op.operands];exact Array.mem_append_left _ (by simpa using j)),sY λx j=>h x (by simp only[Op.operands];exact Array.mem_append_right _ (by simpa using j))]
 |build t g=>
  simp only[Ce];have:(g.toList.map λp=>(p.1,BM W p.2))=g.toList.map λp=>(p.1,BM f p.2):=Mk λp w=>by rw[h p.2 (by simp only[Op.operands,List.mem_toArray,Br];exact⟨p,w,rfl⟩)]
  rw[this]
 |call c=>
  obtain⟨n,args,k⟩:=c;simp only[Op.operands,Call.operands]at h;cases n with
  |value e=>simp[Ce]
  |invoke r m=>simp[Ce]
  |builtin b=>
   obtain⟨args⟩:=args;obtain⟨k⟩:=k;match args with
   |[]=>simp[Ce]
   |[x]=>
    have j:=h x k!;cases b<;>simp[Ce];match k with
    |[]=>rfl
    |[t]=>simp[j]
    |_::_::_=>rfl
   |[x,y]=>have j:=h x k!;have q:=h y k!;cases b<;>simp[Ce,j,q]
   |[x,y,z]=>have j:=h x k!;have q:=h y k!;have A:=h z k!;cases b<;>simp[Ce,j,q,A]
   |_::_::_::_::_=>cases b<;>rfl
 |_=>rfl
section
variable {P:Program} {H H':A1}
theorem ZV(h:H'[N]? =H[N]?):TB H' N n=TB H N n:=by grind[TB]
theorem xt(h: ∀id∈nR s,H'[id]? =H[id]?):Pp H' s n=Pp H s n:=by cases s<;>simp only[Pp];rw[h _ (by simp[nR])]
theorem tF(h: ∀id∈nR s,H'[id]? =H[id]?):shift H' n s=shift H n s:=by cases s<;>simp only[shift];grind[ZV,nR]
def ABP(h: ∀id∈nR s,H'[id]? =H[id]?):sR P H' b s=sR P H b s:=rfl
theorem zR(h: ∀id∈ABk f T,H'[id]? =H[id]?):Ce P f H' T=Ce P f H T:=by
 have j: ∀x∈T.operands,∀id∈nR (BM f x),H'[id]? =H[id]? :=λx j id n=>h id (by unfold ABk;rw[Hj];exact⟨x,by simpa using j,n⟩);cases T with
 |load t a=>grind[Op.operands,Ce,gT,xt]
 |nilCheck x=>grind[Op.operands,Ce,ZV,nR]
 |convert s d x=>
  have g:=j x (by simp[Op.operands]);have hr:rowsOf H' (BM f x)=rowsOf H (BM f x):=by generalize BM f x=v at g;cases v<;>simp only[rowsOf];grind[nR]
  simp only[Ce,Wo];grind[BM]
 |fieldAddr s x k=>grind[Op.operands,Ce,Ve,tF]
 |indexAddr t x i=>have g:=j x (by simp[Op.operands]);simp only[Ce,Vk];split<;>grind[tF,ZV,nR]
 |slice t x p o q=>have g:=j x (by simp[Op.operands]);simp only[Ce];generalize BM f x=v at g;cases v<;>simp only[gH];rw[ZV (g _ (by simp[nR]))]
 |call c=>
  obtain⟨l,args,e⟩:=c;simp only[Op.operands,Call.operands]at j;cases l with
  |value k=>simp[Ce]
  |invoke r m=>simp[Ce]
  |builtin b=>
   obtain⟨args⟩:=args;obtain⟨e⟩:=e;match args with
   |[]=>simp[Ce]
   |[x]=>
    have g:=j x k!;cases b<;>simp only[Ce];match e with
    |[]=>rfl
    |[t]=>simp only;exact ABP g
    |_::_::_=>rfl
   |[x,y]=>cases b<;>simp[Ce]
   |[x,y,z]=>cases b<;>simp[Ce]
   |_::_::_::_::_=>cases b<;>rfl
 |_=>simp only[Ce]
def Wp{v:Aa}(e:Ce P f H o.op=some v):kg P N o f H (ABk f o.op) v:=by intro a b c d;refine Dq (v:=v) ?_ ⟨rfl,rfl⟩;rw[ut (fH c),zR d];exact e
end
section
variable {P:Program} {N:Nat} {o:Oper} {env:Env} {H:A1} {K:Aa->A1->Prop}
theorem od
  (A:o.op= .call Y) (m:Y.callee= .value g) (G:BM env g= .fn (.func p) d Z) (D:Enters P p=true)
  (E:Ek P p (ml env Y d Z) H K):JJ P N o env H K:=by
 apply C1 (by rw[A];rfl);intro X h a w s Q;have k:=Dj s.env g;rw[G]at k
 obtain⟨b,e,r,t,C,I,J⟩: ∃b e,a.eval g= .func (.func p) b e∧b.size=d.length∧e.size=Z.length∧
   (∀(j:Nat) (v:Aa) (Y:Value),d[j]? =some v->b[j]? =some Y->Bx (cx X h H w) v Y)/\(∀(j:Nat) (v:Aa) (Y:Value),Z[j]? =some v->e[j]? =some Y->Bx (cx X h H w) v Y):=by
  generalize a.eval g=cf at k;cases k<;>grind
 have q:(execOp a.eval o).run P w= .ok (.enter p (b++Y.args.map a.eval++e)) w:=by unfold execOp;rw[A];simp only[resolve,m,r,Deferred.ofValue,Sem.run_bind,Sem.run_pure,Result.andThen_ok,invoke,gF D]
 unfold Oper.wp;rw[q];simp only[Oper.upon_enter];have i: ∀(j:Nat) (v:Aa) (f:Value),(ml env Y d Z)[j]? =some v->(b++Y.args.map a.eval++e)[j]? =some f->Bx (cx X h H w) v f:=by
  intro j v f l n;unfold ml at l;rcases Ay j (d.length+Y.args.size)with y|u;rw[CT w!]at l;rw[Xq w!]at n;rcases Ay j d.length with z|c
  grind;rw[Cj c,CN]at l;rw[rC o!,bE,t]at n;cases B:Y.args[j-d.length]? with
  |none=>grind
  |some x=>rw[B]at n;rw[PV,B]at l;simp only[Bs,Ao]at l n;subst l n;exact Dj s.env x
  grind
 refine(E X h w _ s.sim ?_ i).mono ?_;simp[ml,t,C];grind
def Sd(P:Program)(env:Env)(t:TypeId)(len:Nat)(parts:Array (Nat×Operand)):Option (Nat×List Aa):=
 match eI P t with
 |some (none,e,sz)=>
  let vs:=parts.toList.map λp=>BM env p.2
  if 0<sz/\Ro P e=true/\parts.toList.map (·.1)=List.range len/\(vs.all λv=>v.solid&&decide (v.cells.length=sz))=true/\len<=4096/\sz<=4096 then some (sz,vs)else none
 |_=>none
theorem U8{len sz:Nat}{vs:List Aa}(c:o.op= .buildSlice b len q)(d:Sd P env b len q=some (sz,vs))(t:K (.vs sz vs) H):JJ P N o env H K:=by grind[Sd,JJ.buildSlice]
theorem cM{t:TypeId}{len sz:Nat}{f:Array (Nat×Operand)}{T:List Aa}(ho:o.op= .buildSlice t len f)(r:Sd P env t len f=some (sz,T))
  (hk:K (.sl H.length 0 sz 0 T.length) (H++[.live 0 (T.flatMap Aa.cells)])):JJ P N o env H K:=by
 unfold Sd at r;split at r
 case h_2=>cases r
 rename_i e y he;simp only at r;split at r
 case isFalse=>cases r
 rename_i L;obtain⟨a6,a4,F,a',O⟩:=L;simp only[Ao,EX]at r;obtain⟨rfl,a9⟩:=r;have ap: ∀v∈T,v.solid=true/\v.cells.length=y:=λv S=>by grind[List.all_eq_true]
 apply C1 (by rw[ho];rfl);intro X h a w s Q;obtain⟨ar,b,hi⟩:=QN he;obtain⟨i,z,G,_,hz,bb⟩:=Tx a4;have B:=kK hi G;have hl:T.length=len:=by have k:=congrArg List.length F;grind[List.length]
 let A:List Value:=f.toList.map λp=>a.eval p.2;have V:A.length=len:=by grind[List.length]
 have R: ∀(j:Nat) (v:Aa) (c:Value),T[j]? =some v->A[j]? =some c->Bx (cx X h H w) (.agg v.cells) (.agg c.cells)/\v.cells.length=y:=by
  intro j v c S L;have Z:=ap v (BN S);refine⟨?_,Z.2⟩;subst a9;simp only[A,CN]at S L;cases r:f.toList[j]? with
  |none=>rw[r]at S;cases S
  |some p=>rw[r]at S L;simp only[Bs,Ao]at S L;subst S L;exact WE (Dj s.env p.2) Z.1
 have J: ∀c∈A,c.cells.size=y:=by
  intro c L;obtain⟨j,g⟩:=Dn L;have Y:j<T.length:=by grind[Nat.lt_or_ge,List.getElem?_eq_none]
  obtain⟨k,n⟩:=R j _ c (Av Y) g;cases k<;>grind
 have ax:(f.map λ(q:Nat×Operand)=>(q.1,a.eval q.2)).toList=(A.zipIdx 0).map λx=>(x.2,x.1):=by
  apply Iw;intro j;simp only[Array.toList_map,CN,List.getElem?_zipIdx,D9,A];cases r:f.toList[j]? with
  |none=>rfl
  |some p=>
   have k:(f.toList.map (·.1))[j]? =some p.1:=by rw[CN,r];rfl
   rw[F]at k;have Y:j<len:=by rcases Ay j len with n|n;exact n;rw[Cm (by simpa using n)]at k;cases k
   rw[Qv Y]at k;simp only[Ao]at k;simp[k]
 have C: ∀l:List Value,(∀c∈l,c.cells.size=y)->(l.flatMap λc=>c.cells.toList).length=l.length*y:=by
  intro l;induction l with
  |nil=>simp
  |cons c l ih=>intro hl;simp only[ID,Ac,Du,hl c k!,ih (λd M=>hl d (CW _ M)),Bn,EW];omega
 have W:(A.flatMap λc=>c.cells.toList).length=len*y:=by rw[C A J,V]
 have I: ∃D:Array Value,(execOp a.eval o).run P w= .ok (.value (.slice (some ⟨w.heap.size,0,none⟩) len len)) {w with heap:=w.heap.push (.cells D e)}/\D.toList=A.flatMap λc=>c.cells.toList:=by
  unfold execOp;rw[ho];by_cases h0:len=0;subst h0;have:A=[]:=EZ V;refine⟨#[],?_,by rw[this];rfl⟩;have r:f= #[]:=by have k:=congrArg List.length F;simp at k;exact k
  simp[Instr.buildSlice,run_underlying ar,K3 hi,r,Instr.fill,newRow,show Array.range 0= #[]from rfl];refine⟨(A.flatMap λc=>c.cells.toList).toArray,?_,rfl⟩;have al: ¬len*i.size=0:=by rw[B];exact Nat.mul_ne_zero h0 o!
  have a5: ¬len*i.size>2^24:=by rw[B];have:=lM O.1 O.2;omega
  have hf:=Go.Great.fill_whole (s:=y) a6 A ((Array.range (len*i.size)).map (z.cells[· %z.cells.size]!)) J (by simp[V,B]);have:=run_buildSlice (P:=P) w t e len (f.map λ(q:Nat×Operand)=>(q.1,a.eval q.2)) _ i z ar G hz a5 al (by rw[ax,B]at*;exact hf);simp only[Sem.run_bind];rw[show(f.map λx=>match x with|(i,x)=>(i,a.eval x))=(f.map λ(q:Nat×Operand)=>(q.1,a.eval q.2))from rfl,this];rfl
 obtain⟨D,I,ad⟩:=I;unfold Oper.wp;rw[I,Oper.upon_value]
 have U: ∀(l:List Aa) (m:List Value),m.length=l.length→(∀(j:Nat) (v:Aa) (c:Value),l[j]? =some v→m[j]? =some c→Bx (cx X h H w) (.agg v.cells) (.agg c.cells))→
   Bx (cx X h H w) (.agg (l.flatMap Aa.cells)) (.agg (m.flatMap λc=>c.cells.toList).toArray):=by
  intro l;induction l with
  |nil=>intro m Z _;have:m=[]:=EZ (by simpa using Z);subst this;exact .agg rfl (λj c g=>by simp at g) λj v c g=>by simp at g
  |cons v l ih=>
   intro m Z hr;cases m with
   |nil=>simp at Z
   |cons c m=>
    have r0:=hr 0 v c rfl rfl;have r1:=ih m (by simpa using Z) λj v' c' k n=>hr (j+1) v' c' (by simpa using k) (by simpa using n);cases r0 with
    |agg ao a1 a7=>
     cases r1 with
     |agg a3 a2 a8=>
      have e2:(m.flatMap λc=>c.cells.toList).length=(l.flatMap Aa.cells).length:=by simpa using a3
      refine .agg (by simp[e2,ao]) (λj d g=>?_) λj u d g M=>?_;simp only[ID,jp]at g;rcases Ay j c.cells.size with n|n;rw[CT (by simpa using n)]at g;exact a1 j d (by simpa using g);rw[Cj (by simpa using n)]at g;exact a2 _ d (by simpa using g);simp only[ID,jp]at g M;rcases Ay j c.cells.size with n|n;rw[CT (by simpa using n)]at M;rw[CT o!]at g;exact a7 j u d g (by simpa using M);rw[Cj (by simpa using n)]at M;rw[Cj o!]at g;rw[Du,ao]at M;exact a8 _ u d g (by simpa using M)
 have a0:=U T A o! λj v c k n=>(R j v c k n).1;have E:D=(A.flatMap λc=>c.cells.toList).toArray:=by rw[<-ad]
 have hh:=Pt a0;rw[<-E]at hh;refine⟨_,_,_,_,rfl,hk,.sl (by simp[cx]) (by simp[cx,Gh.at_]) ⟨_,_,by rw[hl]⟩ λ_=>.inr ⟨w.heap.size,len,by simp[cx,Gh.at_],o!,?_,by rw[hl]⟩,s.sim.push D e (0,0) _ hh,HE.push _ _ _⟩;simp only[cx,Gh.at_,if_true,E,dY,W];omega
theorem kU{y:Operand}{U:IntKind}{sz:Nat}(ho:o.op= .makeSlice b g y)(he:eI P b=some (none,V,sz))(ar:0<sz)(M:Ro P V=true)(hz:Yd P V=some d)(R:d.length=sz)
  (hx:BM env g= .int C i) (hy:BM env y= .int U a) (h0:0<=i) (h1:i<=a) (h2:a<=16777216) (hk:K (.sl H.length 0 sz 0 i.toNat) (H++[.live 0 (List.replicate i.toNat d).flatten])):JJ P N o env H K:=by
 apply C1 (by rw[ho];rfl);intro X h t w s Q;obtain⟨O,e,hi⟩:=QN he;obtain⟨c,zv,l,ad,T,S⟩:=Tx M;have k:=kK hi l;obtain⟨n,z,ao,ax,D⟩:=dR (cx X h H w) hz;have:n=c:=by grind[Option.some.inj]
 subst this;have:z=zv:=by grind[Option.some.inj]
 subst this;have W:=Dj s.env g;have Y:=Dj s.env y;rw[hx]at W;rw[hy]at Y;have ex:t.eval g= .int C i:=by generalize t.eval g=q at W;cases W;rfl
 have ey:t.eval y= .int U a:=by generalize t.eval y=q at Y;cases Y;rfl
 have F:(n.bytes:Int)*a<=281474976710656:=by have:(n.bytes:Int)*a<=1048576*16777216:=Int.mul_le_mul o! h2 o! o!;omega
 have Z:=run_make (P:=P) w b V n z O l T C U i a h0 h1 F o!;have G:(execOp t.eval o).run P w= .ok (.value (.slice (some ⟨w.heap.size,0,none⟩) i.toNat a.toNat)) (w.alloc (.cells (madeCells z.cells (a.toNat*n.size)) V)):=by unfold execOp;grind[Sem.run_bind,Result.andThen_ok,Sem.run_pure]
 unfold Oper.wp;rw[G,Oper.upon_value];have p:z.cells.size=sz:=by rw[S,k]
 have hh:Holds (cx X h H w) (List.replicate i.toNat d).flatten (madeCells z.cells (a.toNat*n.size)) (0,0):=by
  have I:(List.replicate i.toNat d).flatten.length=i.toNat*sz:=by simp[R]
  have A:i.toNat*sz<=a.toNat*n.size:=by rw[k];exact Mn _ o!
  have B: ∀(m j:Nat),j<m*sz->(List.replicate m d).flatten[j]? =d[j%sz]? :=by
   intro m;induction m with
   |zero=>intro j E;omega
   |succ m ih=>intro j E;rw[lK,oG];rcases Ay j sz with ap|al;grind[List.getElem?_append_left,Nat.mod_eq_of_lt];grind[List.getElem?_append_right,Nat.add_mul,Nat.mod_eq_sub_mod]
  refine⟨λj=>z.cells.getD (j%sz) undef,by rw[I,size_madeCells];exact A,λ_ _=>k!,λj v E=>?_⟩;have x:j<i.toNat*sz:=by grind[Nat.lt_or_ge,List.getElem?_eq_none]
  rw[B _ _ x]at E;have u:j%sz<z.cells.size:=by grind[Nat.mod_lt]
  have f:z.cells[j%sz]? =some (z.cells[j%sz]'u):=Nf u;have J:z.cells.getD (j%sz) undef=z.cells[j%sz]'u:=by rw[QJ,f];rfl
  have r:(madeCells z.cells (a.toNat*n.size))[j]? =some (z.cells[j%sz]'u):=by
   unfold madeCells;rw[bE,Array.getElem?_range,if_pos (DQ x A)];have L:j%z.cells.size<z.cells.size:=by rw[p];rw[p]at u;exact u
   rw[Bs,getElem!_pos z.cells _ L];simp only[p]
  simp only[J];cases D with
  |agg q1 q2 q3=>exact⟨r,q2 _ _ f,q3 _ _ _ E f⟩
 refine⟨_,_,_,_,rfl,hk,.sl (by simp[cx]) (by simp[cx,Gh.at_]) ⟨_,_,rfl⟩ λ_=>.inr ⟨w.heap.size,a.toNat,by simp[cx,Gh.at_],o!,?_,rfl⟩,s.sim.push _ V (0,0) _ hh,HE.push _ _ _⟩;simp[cx,Gh.at_,size_madeCells,k]
end
section
variable {X:Nat->Prop} {h:Gh} {H:A1} {w:World}
def It.loopSet(s:It X h H w){L:kf}{r:Loop}(g:H[N]? =some (.lp L))(f:h.io N=some n)(C:w.heap[n]? =some (.loop r))(st:LoopState)(p:Option Code):
  It X h (H.set N (.lp {L with state:=st,pending:=p})) (w.putObj n (.loop {r with state:=st,pending:=p}))/\HE h H w h (H.set N (.lp {L with state:=st,pending:=p})) (w.putObj n (.loop {r with state:=st,pending:=p})):=by
 have d:N<H.length:=by rcases Ay N H.length with c|c;exact c;rw[Cm c]at g;cases g
 have D:HE h H w h (H.set N (.lp {L with state:=st,pending:=p})) (w.putObj n (.loop {r with state:=st,pending:=p})):=by refine⟨rfl,rfl,rfl,k!,λk M hn=>?_,k!,λ_ _=>Ap _,λ_ _ _=>⟨rfl,rfl⟩,λk T=>?_,λk y O=>?_⟩;refine World.putObj_heap_other λe=>?_;subst e;exact hn ⟨N,_,g,k!,f⟩;obtain⟨i,e,l,j,c⟩:=T;rcases JI d l with⟨G,b⟩|⟨rfl,_⟩;exact .inl ⟨i,e,b,j,c⟩;exact .inl ⟨i,_,g,k!,c⟩;by_cases e:k=n;subst e;exact⟨_,World.putObj_heap_same (qa C)⟩;exact⟨y,by rw[World.putObj_heap_other e,O]⟩
 refine⟨s.of_ext D (λi e l j=>?_) (λi P z A k l c u x B o=>?_),D⟩;rcases JI d l with⟨G,b⟩|⟨rfl,rfl⟩;refine .inl ⟨b,rfl,rfl,rfl,λE a=>World.putObj_heap_other λe=>?_⟩;subst e;exact G (s.inj i N _ _ E b g j k! a f);obtain⟨K,E,S,a,q,l,c,B,o,I,J,F⟩:=s.lp i L g;rw[show(cx X h H w).io i=h.io i from rfl,f]at a;injection a with e;subst e;rw[show(cx X h H w).w.heap=w.heap from rfl,C]at q;injection q with e;injection e with e;subst e;refine .inr (.inr ⟨_,rfl,K,n,_,f,World.putObj_heap_same (qa C),rfl,rfl,B,o,I,J,λt v m=>⟨(F t v m).1,(F t v m).2.later (D.later X)⟩⟩);rcases JI d l with⟨Q,z⟩|⟨rfl,_⟩<;>rcases JI d c with⟨R,A⟩|⟨rfl,_⟩;exact s.inj _ _ _ _ k z A u x B o;exact s.inj _ _ _ _ k z g u k! B o;exact s.inj _ _ _ _ k g A k! x B o;rfl
def It.kill(s:It X h H w)(a:N<H.length):It X h (H.set N .dead) w/\HE h H w h (H.set N .dead) w:=by
 have n:HE h H w h (H.set N .dead) w:=by refine⟨rfl,rfl,rfl,Ap _,λk r hn=>rfl,k!,λ_ _=>Ap _,λ_ _ _=>⟨rfl,rfl⟩,λk t=>?_,λk y u=>⟨y,u⟩⟩;obtain⟨i,e,d,b,j⟩:=t;rcases JI a d with⟨q,c⟩|⟨rfl,rfl⟩;exact .inl ⟨i,e,c,b,j⟩;exact(b rfl).elim
 refine⟨s.of_ext n (λi e d b=>?_) (λi x l m k d j f g o p=>?_),n⟩;rcases JI a d with⟨q,c⟩|⟨rfl,rfl⟩;exact .inl ⟨c,rfl,rfl,rfl,λv _=>rfl⟩;exact(b rfl).elim;rcases JI a d with⟨z,l⟩|⟨rfl,rfl⟩;rcases JI a j with⟨A,m⟩|⟨rfl,rfl⟩;exact s.inj _ _ _ _ k l m f g o p;exact(g rfl).elim;exact(f rfl).elim
end
def Q9:Env->List Tmp->List Aa->Env
 |env,t::ts,v::vs=>Q9 (env.put t v) ts vs
 |env,_,_=>env
theorem lD{x:Cx}: ∀(d:List Tmp) (e:List Aa) (b:List Value) (env:Env) (a:Act),(∀t∈d,t<a.tmps.size)→b.length=e.length→
  (∀(j:Nat) (v:Aa) (c:Value),e[j]? =some v->b[j]? =some c->Bx x v c)->OP x env a->
  OP x (Q9 env d e) {a with tmps:=(d.zip b).foldl (λ(tmps:Array Value) (q:Tmp×Value)=>tmps.setIfInBounds q.1 q.2) a.tmps}
 |[],e,b,env,a,_,_,_,h=>by simpa[Q9]using h
 |t::d,[],b,env,a,_,hl,_,h=>by have:b=[]:=EZ q!;subst this;simpa[Q9]using h
 |t::d,v::e,c::b,env,a,ht,hl,hr,h=>by
  have f:=h.put (ht t k!) (hr 0 v c rfl rfl);exact lD d e b (env.put t v) (a.put (some t) c) (λu i=>by rw[dM];exact ht u (CW _ i)) q!
   (λj k g f l=>hr (j+1) k g q! q!) f
def jF: ∀(l:List (Tmp×Value)) (a:Array Value),(l.foldl (λ(tmps:Array Value) (q:Tmp×Value)=>tmps.setIfInBounds q.1 q.2) a).size=a.size
 |[],a=>rfl
 |q::l,a=>by rw[XZ,jF l];simp
def ADo(id:Nat)(K:Aa->A1->Prop):Exit->Env->A1->Prop
 | .normal,_,H=> ∃L,H[id]? =some (.lp L)/\K (.bool true) (H.set id (.lp {L with state:=.ready,pending:=none}))
 | .ret,_,H=> ∃L,H[id]? =some (.lp L)/\K (.bool false) (H.set id (.lp {L with state:=.done,pending:=some .ret}))
 | .exit k,_,H=> ∃L,H[id]? =some (.lp L)/\K (.bool false) (H.set id (.lp {L with state:=.done,pending:=some (.exit k)}))
 |_,_,_=>False
section
variable {P:Program} {N:Nat} {o:Oper} {env:Env} {H:A1} {K:Aa->A1->Prop}
theorem JJ.yield{L:kf}(ho:o.op= .call Y)(O:Y.callee= .value g)(hf:BM env g= .yf n)(he:H[n]? =some (.lp L))
  (hn:Y.args.size=L.params.size) (a5:(L.params.toList.all λt=>decide (t<L.n))=true)
  (hw:Lh P L.n L.assign (Q9 L.env L.params.toList (Y.args.toList.map (BM env))) H λe env1 H1=>e= .normal/\ ∃A,H1[n]? =some (.lp A)/\A.state= .ready/\Lh P L.n L.body env1 (H1.set n (.lp {A with state:=.busy})) (ADo n K)):JJ P N o env H K:=by
 intro ro X h a w s Q;obtain⟨hg,B,r,F,hb,h1,h2,h3,h4,h5,h6,h7⟩:=s.sim.lp n L he;have F:h.io n=some B:=F;have hb:w.heap[B]? =some (.loop r):=hb;have G:=Dj s.env g;rw[hf]at G;have al:a.eval g= .func (.yield B) #[] #[]:=by generalize a.eval g=cf at G;cases G<;>grind
 have f:(execOp a.eval o).run P w= .ok (.round B r.fn ((r.params.zip (Y.args.map a.eval)).foldl (λtmps (t,a)=>tmps.setIfInBounds t a) r.tmps) r.assign r.body) w:=by unfold execOp;rw[ho];simp only[resolve,O,al,Deferred.ofValue,Sem.run_bind,Sem.run_pure,Result.andThen_ok,invoke];rw[show(#[]++Y.args.map a.eval:Array Value)=Y.args.map a.eval by simp];exact run_yield hb (by rw[Array.size_map,hn,h3])
 refine⟨λ_ _=>trivial,?_⟩;rw[Oper.semAt_eq _ _ _ (λY hc=>by rw[ho]at hc;cases hc),f,Oper.uponIn_round];refine⟨(λh=>by cases h),?_⟩;let R:Ending->World->Prop:=λe I=> ∃Y v y M,e= .returned Y/\K v M/\Bx (cx X y M I) v Y/\It X y M I/\HE h H w y M I;refine RoundIn.mono (R:=R) ?_ (by rintro e I ⟨c',v,y,M,rfl,k,hv,hs,hx⟩;exact⟨c',v,y,M,rfl,k,hv,hs,hx⟩);apply roundIn_of_wpIn trivial;have a3:((r.params.zip (Y.args.map a.eval)).foldl (λtmps (t,a)=>tmps.setIfInBounds t a) r.tmps)=((L.params.toList.zip (Y.args.toList.map a.eval)).foldl (λ(tmps:Array Value) (q:Tmp×Value)=>tmps.setIfInBounds q.1 q.2) r.tmps):=by grind[Array.toList_zip,Array.toList_map]
 rw[a3,h4,h5];have Z:St X h L.n (Q9 L.env L.params.toList (Y.args.toList.map (BM env))) H {tmps:=(L.params.toList.zip (Y.args.toList.map a.eval)).foldl (λ(tmps:Array Value) (q:Tmp×Value)=>tmps.setIfInBounds q.1 q.2) r.tmps,defers:=[]} w:=by
  refine⟨s.sim,?_,by rw[jF,h6]⟩;refine lD (x:=cx X h H w) L.params.toList (Y.args.toList.map (BM env)) (Y.args.toList.map a.eval) L.env {tmps:=r.tmps,defers:=[]} (λt ht=>?_) k! (λj v d hj hd=>?_) (λt v m=>⟨by rw[h6];exact(h7 t v m).1,(h7 t v m).2⟩);grind;rw[CN]at hj hd;cases hx:Y.args.toList[j]? with
  |none=>grind
  |some x=>rw[hx]at hj hd;simp only[Bs,Ao]at hj hd;subst hj hd;exact Dj s.env x
 refine wpIn_mono (hw (some B) X h _ w Z λl e=>by injection e with e;subst e;exact⟨r,hb⟩) ?_;rintro e a1 w1 ⟨y,env1,H1,⟨rfl,A,S,a0,E⟩,s1,x1,_⟩;obtain⟨U,J,r1,c,p,q1,q2,q3,q4,q5,q6,q7⟩:=s1.sim.lp n A S;have c:y.io n=some J:=c;have p:w1.heap[J]? =some (.loop r1):=p;have V:n<H.length:=by rcases Ay n H.length with h2|h2;exact h2;grind[List.getElem?_eq_none]
 have eB:J=B:=by have:=(x1.same n V (by rw[show y.gen n=0 from U,show h.gen n=0 from hg])).1;rw[c,F]at this;injection this
 subst eB;obtain⟨ar,ad⟩:=s1.sim.loopSet S c p .busy A.pending;have ap:({r1 with state:=.busy}:Loop)={r1 with state:=.busy,pending:=A.pending}:=by rw[<-q2]
 refine⟨_,run_beginRound p (by rw[q1,a0]),?_⟩;rw[ap];refine wpIn_mono (E (some J) X y a1 _ ⟨ar,s1.env.later (ad.later X),s1.size⟩ λl e=>by injection e with e;subst e;exact⟨_,World.putObj_heap_same (qa p)⟩) ?_;rintro e a2 w2 ⟨D,env2,H2,q,s2,x2,_⟩
 have C: ∀(b:Option Code) (u:kf),H2[n]? =some (.lp u)→K (.bool b.isNone) (H2.set n (.lp {u with state:=if b.isNone then .ready else .done,pending:=b}))→
   ∃v I,(Instr.endRound J b).run P w2= .ok v I/\R (.returned v) I:=by
  intro b u T hk;obtain⟨ao,B2,r2,i,z,p1,p2,p3,p4,p5,p6,p7⟩:=s2.sim.lp n u T;have i:D.io n=some B2:=i;have z:w2.heap[B2]? =some (.loop r2):=z;have W:n<H1.length:=DQ V x1.n;have eB:B2=J:=by have:=(x2.same n (by simpa using W) (by rw[show D.gen n=0 from ao,show y.gen n=0 from U])).1;rw[i,c]at this;injection this
  subst eB;obtain⟨ax,a4⟩:=s2.sim.loopSet T i z (if b.isNone then .ready else .done) b;exact⟨_,_,run_endRound b z,_,_,D,_,rfl,hk,.bool _,ax,((x1.trans ad).trans x2).trans a4⟩
 cases e with
 |normal=>obtain⟨u,q1,q2⟩:=q;exact C none u q1 q2
 |ret=>obtain⟨u,q1,q2⟩:=q;exact C (some .ret) u q1 q2
 |exit k=>obtain⟨u,q1,q2⟩:=q;exact C (some (.exit k)) u q1 q2
 |_=>exact q.elim
end
section
variable {P:Program} {N:Nat} {env:Env} {H:A1} {Q:Exit->Env->A1->Prop}
def ADi(P:Program)(N:Nat)(env:Env)(id:Nat)(Q:Exit->Env->A1->Prop)(H:A1):Prop:=
 ∃L,H[id]? =some (.lp L)/\L.state≠ .busy/\(match L.pending with
  |none=>Q .normal env (H.set id .dead)
  |some c=>Lh P N c env (H.set id .dead) Q)
def yk{args:Array Value}{R:Ending->World->Prop}(h:Calls P p args j R):CallsIn (FR m) n P p args j R:=by
 have a:CallsIn Fence.wide n P p args j R:=callsIn_wide.2 h;cases m with
 |none=>exact a
 |some l=>exact a
theorem kT{f:Operand}{z:Array Tmp}{assign body:Code}{first o:List Aa}{G:FuncId}(env0:Env)(ao: ∀p∈env0,p∈env)(hf:BM env f= .fn (.func G) first o)(hE:Enters P G=true)
  (V:Ek P G (first++[.yf H.length]++o) (H++[.lp ⟨N,env0,z,assign,body,.ready,none⟩]) λ_ E=>ADi P N env H.length Q E):Lh P N (.rangeFunc f z assign body) env H Q:=by
 intro r X h a w s k;have Z:=Dj s.env f;rw[hf]at Z
 obtain⟨b,g,ap,n1,n2,a0,a1⟩: ∃b g,a.eval f= .func (.func G) b g∧b.size=first.length∧g.size=o.length∧
   (∀(j:Nat) (v:Aa) (c:Value),first[j]? =some v->b[j]? =some c->Bx (cx X h H w) v c)/\(∀(j:Nat) (v:Aa) (c:Value),o[j]? =some v->g[j]? =some c->Bx (cx X h H w) v c):=by
  generalize a.eval f=cf at Z;cases Z<;>grind
 have M: ∀(i:World) (u:Loop) (mark:List Deferred),It X h H i→HE h H w h H i→u.state= .ready→u.pending=none→u.tmps=a.tmps→u.params=z→u.assign=assign→u.body=body→mark.Nodup→
   (∀d∈mark,∃D,d={target:=.collected D,args:= #[]}/\w.heap.size<=D/\i.heap[D]? =some (.deferred (some [])))->
   CallsIn (FR r) (0-1) P G (b++ #[.func (.yield i.heap.size) #[] #[]]++g) (i.alloc (.loop u))
    (rangePost (FR r) 0 P i.heap.size (λe a' w'=> ∃I F E,Q e F E/\St X I N F E a' w'/\HE h H w I E w'/\ZZ a w a' w') {a with defers:=mark++a.defers}):=by
  intro i u mark s0 C e1 e2 e3 e4 e5 e6 ar Y;have xp:=HE.push (h:=h) (H:=H) (w:=i) (.loop u) 0 (.lp ⟨N,env0,z,assign,body,.ready,none⟩);have sp:=s0.push_any (.loop u) 0 (.lp ⟨N,env0,z,assign,body,.ready,none⟩) λ_=>.inr ⟨_,rfl,by simp[cx,Gh.at_],i.heap.size,u,by simp[cx,Gh.at_],by show(i.heap.push (.loop u))[i.heap.size]? =_;simp,e1,e2,e4,e5,e6,by rw[e3];exact s.size,λt v m=>by obtain⟨m1,m2⟩:=s.env t v (ao _ m);refine⟨by rw[<-s.size];exact m1,?_⟩;rw[e3];exact m2.later ((C.trans xp).later X)⟩;have ea:i.alloc (.loop u)={i with heap:=i.heap.push (.loop u)}:=rfl;rw[ea];generalize a5:({i with heap:=i.heap.push (.loop u)}:World)=W1 at xp sp;generalize a6:h.at_ H.length (some i.heap.size) 0 0=g1 at xp sp;have S:g1.gen H.length=0/\g1.io H.length=some i.heap.size:=by grind[Gh.at_]
  have hl:=(C.trans xp).later X;have ax:(b++ #[Value.func (.yield i.heap.size) #[] #[]]++g).size=(first++[Aa.yf H.length]++o).length:=by simp[n1,n2];omega
  have T: ∀(j:Nat) (v:Aa) (c:Value),(first++[Aa.yf H.length]++o)[j]? =some v->(b++ #[Value.func (.yield i.heap.size) #[] #[]]++g)[j]? =some c->Bx (cx X g1 (H++[.lp ⟨N,env0,z,assign,body,.ready,none⟩]) W1) v c:=by
   intro j v c J y;rcases Ay j (first.length+1)with a4|a2;rw[CT w!]at J;rw[Xq w!]at y;rcases Ay j first.length with al|a3
   rw[CT al]at J;rw[Xq o!]at y;exact(a0 j v c J y).later hl;have:j=first.length:=o!
   subst this;rw[Cj (Ap _),Gl]at J;rw[rC o!,n1,Gl]at y;simp at J y;subst J y;exact .yf (by simp[cx]) rfl λ_=>⟨i.heap.size,S.2,rfl⟩
   rw[Cj w!]at J;rw[rC w!]at y;refine(a1 _ v c ?_ y).later hl;simpa[n1]using J
  have hC:=V X g1 W1 _ sp ax T;apply (yk hC).mono;rintro e w' ⟨c,v,I,E,rfl,⟨L,hL,U,hQ⟩,sc,rv,x⟩;obtain⟨hg,B,O,A,hb,q1,q2,q3,q4,q5,q6,q7⟩:=sc.lp H.length L hL;have A:I.io H.length=some B:=A;have hb:w'.heap[B]? =some (.loop O):=hb;have eB:B=i.heap.size:=by have:=(x.same H.length k! (by rw[show I.gen H.length=0 from hg,S.1])).1;rw[A,S.2]at this;injection this
  subst eB;obtain⟨s2,x2⟩:=sc.loopSet hL A hb .exhausted O.pending;have ad:H.length<(E.set H.length (.lp {L with state:=.exhausted,pending:=O.pending})).length:=by have:=x.n;simp at this⊢;omega
  obtain⟨s3,x3⟩:=s2.kill ad;rw[Xl]at s3 x3;have R:=((xp.trans x).trans x2).trans x3;have st:St X I N env (E.set H.length .dead) {a with defers:=mark++a.defers} (w'.putObj i.heap.size (.loop {O with state:=.exhausted,pending:=O.pending})):=⟨s3,λt v m=>⟨(s.env t v m).1,(s.env t v m).2.later ((C.trans R).later X)⟩,s.size⟩
  have df:ZZ a w {a with defers:=mark++a.defers} (w'.putObj i.heap.size (.loop {O with state:=.exhausted,pending:=O.pending})):=by refine⟨mark,rfl,ar,λd hd=>?_⟩;obtain⟨D,h1,h2,h3⟩:=Y d hd;exact⟨D,h1,h2,R.defs s0 h3⟩
  refine⟨O.pending,_,run_endLoop hb (by rw[q1];exact U),?_⟩;rw[q2]at*;cases hp:L.pending with
  |none=>rw[hp]at hQ st df R;exact⟨I,env,_,hQ,st,C.trans R,df⟩
  |some cd=>rw[hp]at hQ st df R s3;apply wpIn_mono (hQ r X I _ _ st (k.later (C.trans R)));rintro e' a' a7 ⟨h2,env2,H2,q,s',x',d'⟩;exact⟨h2,env2,H2,q,s',(C.trans R).trans x',df.trans s3 (C.trans R) x' d'⟩
 have K: ∀(l:Nat) (W:World),(resolve a.eval (rangeCall f l) 0).run P W= .ok {target:=.fn (.func G) g,args:=b++ #[.func (.yield l) #[] #[]]} W:=by intro l W;have y:a.eval (.const (.func (.yield l) #[] #[]))= .func (.yield l) #[] #[]:=rfl;simp[resolve,ap,y,Deferred.ofValue]
 refine wpIn_rangeFunc λfn _=>?_;cases r with
 |none=>
  have C:HE h H w h H (w.alloc (.deferred (some []))):=HE.grow rfl rfl rfl (by show _<=(w.heap.push _).size;simp) λk hk=>by show(w.heap.push _)[k]? =_;grind
  have s0:It X h H (w.alloc (.deferred (some []))):=s.sim.grow rfl rfl rfl (by show _<=(w.heap.push _).size;simp) λk hk=>by show(w.heap.push _)[k]? =_;rw[TF,if_neg o!]
  have hm:=M (w.alloc (.deferred (some []))) {state:=.ready,pending:=none,fn,tmps:=a.tmps,params:=z,assign,body,defers:=w.heap.size} [{target:=.collected w.heap.size,args:= #[]}] s0 C rfl rfl rfl rfl rfl rfl k! λd hd=>by simp only[A6]at hd;exact⟨w.heap.size,hd,Ap _,World.alloc_heap_new w _⟩
  rw[World.size_alloc]at hm;exact⟨_,_,_,_,_,_,_,_,run_enterLoop_outer fn a.tmps z assign body,K _ _,λ_ _=>trivial,by simp only[invoke];exact gF hE _ _,(λh=>by cases h),hm⟩
 |some l=>
  obtain⟨x,hx⟩:=k l rfl;have hm:=M w {state:=.ready,pending:=none,fn,tmps:=a.tmps,params:=z,assign,body,defers:=x.defers} [] s.sim (HE.refl _ _ _) rfl rfl rfl rfl rfl rfl k! λd hd=>by cases hd
  exact⟨_,_,_,_,_,_,_,_,run_enterLoop_inner hx fn a.tmps z assign body,K _ _,λ_ _=>trivial,by simp only[invoke];exact gF hE _ _,(λh=>by cases h),hm⟩
end
def isQ:Op->Bool
 | .move _| .assign _| .pick .. | .load .. | .nilCheck _| .binOp .. | .unOp .. | .convert .. | .fieldAddr .. | .field .. | .indexAddr .. | .index .. | .slice .. | .extract .. | .makeFunc .. | .build .. =>true
 | .call c=>match c.callee with| .builtin .len=>true| .builtin .max=>true| .builtin .min=>true|_=>false
 |_=>false
abbrev AHV:=FuncId->List Aa->A1->Option (Aa×A1)
abbrev AHW:=Nat->Code->Env->A1->Option (Exit×Env×A1)
def vT(P:Program)(env:Env)(H:A1)(op:Op):Option Aa:=
 match op with
 | .buildSlice t len parts=>match Sd P env t len parts with|some (sz,vs)=>some (.vs sz vs)|none=>none
 |op=>Ce P env H op
def dq(op:Op):Bool:=match op with| .buildSlice .. =>true|op=>isQ op
def wE(ops:Array Oper)(m:List Nat):Nat->List Nat->List Nat
 |0,_=>[]
 |n+1,left=>
  let rdy:=left.filter λi=>left.all λp=>p==i|| !O9 m p i
  let qs:=rdy.filter λi=>match ops[i]? with|some o=>dq o.op|none=>false
  let last:=λi=>left.all λj=>j==i||O9 m i j||IA ops j
  let es:=rdy.filter λi=>!IA ops i&&last i
  let as:=rdy.filter λi=>IA ops i&&last i
  match qs,es,as with
  |i::_,_,_=>i::wE ops m n (left.erase i)
  |[],i::_,_=>i::wE ops m n (left.erase i)
  |[],[],i::_=>i::wE ops m n (left.erase i)
  |[],[],[]=>[]
def zP(ops:Array Oper):List Nat:=wE ops (IJ ops.toList []) ops.size (List.range ops.size)
section
variable {P:Program} {call:AHV} {code:AHW} {H H':A1} {v:Aa} {F:List Nat}
theorem jD{N:Nat}(b:vT P f H o.op=some v):kg P N o f H (ABk f o.op) v:=by
 unfold vT at b;split at b;rename_i t len a i;split at b;rename_i sz l d;injection b with e;subst e;intro c g h k;refine U8 i (sz:=sz) (vs:=l) ?_ ⟨rfl,rfl⟩;rw[<-d];have j:=fH h;unfold Sd;have:(a.toList.map λp=>BM c p.2)=a.toList.map λp=>BM f p.2:=Mk λp d=>by grind[Op.operands]
 rw[this];cases b;exact Wp b
end
def oy(F:Fence)(n0:Nat)(P:Program)(c:Code)(K:Exit->Act->World->Prop)(a:Act)(w:World):Prop:=
 ∀(b:Frame) (k:List Item) (cs:List Frame),b.roundOf=F.round->F.fn b.fn->F.room (cs.length+1+n0)->
  ∃e a' w',K e a' w'/\ArrivesIn (Machine.fenced P F) P (lone (b.atR a (.code c:: .inLoop c::k)) cs w) b k cs e a' w'
section
variable {P:Program} {F:Fence} {n0:Nat} {c:Code} {K:Exit->Act->World->Prop} {a:Act} {w:World}
def xY(h:oy F n0 P c K a w):(Code.loop c).wpIn F n0 P K a w:=by intro b k j f g hr;obtain⟨e,i,m,l,d⟩:=h b k j f g hr;exact⟨e,i,m,l,.of_steps (.one (fenced_calm g hr rfl) stepR_loop) d⟩
def ti(h:c.wpIn F n0 P (Exit.then (λt u=>oy F n0 P c K t u) K) a w):oy F n0 P c K a w:=by
 intro b k s p r hr;obtain⟨e,f,g,m,d⟩:=h b (.inLoop c::k) s p r hr;cases e with
 |normal=>obtain⟨o,n,q,j,i⟩:=m b k s p r hr;exact⟨o,n,q,j,.of_steps (StepsIn.trans d (.one (fenced_calm r hr rfl) stepR_inLoop)) i⟩
 |exit id=>exact⟨_,f,g,m,.pass (x:=.inLoop c) rfl (λ_ _=>.inl k!) d⟩
 |goto l=>exact⟨_,f,g,m,.pass (x:=.inLoop c) rfl (λ_ _=>.inl k!) d⟩
 |ret=>exact⟨_,f,g,m,.pass (x:=.inLoop c) rfl (λ_ _=>.inl k!) d⟩
 |panic v=>exact⟨_,f,g,m,.pass (x:=.inLoop c) rfl (λ_ _=>.inl k!) d⟩
 |outgrown=>exact⟨_,f,g,m,.pass (x:=.inLoop c) rfl (λ_ _=>.inl k!) d⟩
theorem WA(h:oy F n0 P c K a w)(m: ∀e a w,K e a w->z e a w):oy F n0 P c z a w:=by intro b k i d j hr;obtain⟨e,l,o,n,g⟩:=h b k i d j hr;grind
end
def Js(P:Program)(N:Nat)(c:Code)(env:Env)(H:A1)(Q:Exit->Env->A1->Prop):Prop:=
 ∀(r:Option Nat) (X:Nat->Prop) (h:Gh) (a:Act) (w:World),St X h N env H a w->mS r w->
  oy (FR r) 0 P c (λe a' w'=> ∃h' env' H',Q e env' H'/\St X h' N env' H' a' w'/\HE h H w h' H' w'/\ZZ a w a' w') a w
section
variable {P:Program} {N:Nat} {env:Env} {H:A1} {Q:Exit->Env->A1->Prop}
theorem Js.mono(h:Js P N c env H Q)(i: ∀e b d,Q e b d->B e b d):Js P N c env H B:=by intro r X g a w s k;apply WA (h r X g a w s k);grind
def Lh.of_loopW(h:Js P N c env H Q):Lh P N (.loop c) env H Q:=λr X g a w s k=>xY (h r X g a w s k)
def S4(h:Lh P N c env H (vA (λb f=> ∃env2 d,GD N H.length b f env2 d/\Js P N c env2 d Q) Q)):Js P N c env H Q:=by
 intro r X g a w s k;refine ti (wpIn_mono (h r X g a w s k) ?_);rintro e a2 t ⟨m,env2,d,q,o,v,j⟩;cases e with
 |normal=>obtain⟨l,F,n,B⟩:=q;obtain⟨z,p,A,C⟩:=n.2 X m a2 t o;have i:=GD.ext rfl n.1 A C v;apply WA (B r X z a2 t p (k.later i));rintro e G I ⟨y,b,f,D,E,u,x⟩;exact⟨y,b,f,D,E,i.trans u,j.trans p.sim i u x⟩
 |_=>exact⟨m,env2,d,q,o,v,j⟩
def qU(P:Program)(N:Nat)(c:Code)(env:Env)(H:A1)(Q:Exit->Env->A1->Prop):Prop:=
 match c with
 | .loop x=>Js P N x env H Q
 |c=>Lh P N c env H Q
def qU.awp(h:qU P N c env H Q):Lh P N c env H Q:=by unfold qU at h;split at h;exact .of_loopW h;exact h
def EI(hn: ∀x,c≠ .loop x)(h:Lh P N c env H Q):qU P N c env H Q:=by simp_all[qU]
def qU.mono(h:qU P N c env H Q)(f: ∀e a b,Q e a b->B e a b):qU P N c env H B:=by
 cases c with
 |loop x=>exact Js.mono h f
 |_=>exact Lh.mono h f
def Js.weak{d:A1}(y:GD N H.length env H f d)(h:Js P N c f d Q):Js P N c env H Q:=by intro r X g a w s k;obtain⟨m,t,n,o⟩:=y.2 X g a w s;apply WA (h r X m a w t k);rintro e v x ⟨l,b,i,q,p,u,j⟩;exact⟨l,b,i,q,p,(GD.ext rfl y.1 n o (HE.refl g H w)).trans u,j⟩
def qU.weak{a:A1}(b:GD N H.length env H f a)(h:qU P N c f a Q):qU P N c env H Q:=by
 cases c with
 |loop x=>exact Js.weak b h
 |_=>exact Lh.weak b h
def Lh.after(h:Lh P N c env H (λe b f=> ∃env2 d,GD N H.length b f env2 d/\Q e env2 d)):Lh P N c env H Q:=by intro r X g a w s k;apply wpIn_mono (h r X g a w s k);rintro e j v ⟨m,b,f,⟨env2,d,i,q⟩,t,x,l⟩;obtain⟨n,u,o,p⟩:=i.2 X m j v t;exact⟨n,env2,d,q,u,GD.ext rfl i.1 o p x,l⟩
def Js.after(h:Js P N c env H (λe b f=> ∃env2 d,GD N H.length b f env2 d/\Q e env2 d)):Js P N c env H Q:=by intro r X g a w s k;apply WA (h r X g a w s k);rintro e j v ⟨m,b,f,⟨env2,d,i,q⟩,t,x,l⟩;obtain⟨n,u,o,p⟩:=i.2 X m j v t;exact⟨n,env2,d,q,u,GD.ext rfl i.1 o p x,l⟩
def qU.after(h:qU P N c env H (λe a d=> ∃env2 b,GD N H.length a d env2 b/\Q e env2 b)):qU P N c env H Q:=by
 cases c with
 |loop x=>exact Js.after h
 |_=>exact Lh.after h
end
def DX(v:Aa)(H:A1):Aa->A1->Prop:=λu H'=>u=v/\H'=H
def Xy(e:Exit)(env:Env)(H:A1):Exit->Env->A1->Prop:=λe1 env1 H1=>e1=e/\env1=env/\H1=H
def callT(ρ:Operand->Aa):Op->Option (Sum (FuncId×List Aa) (Nat×List Aa))
 | .call c=>
  match c.callee with
  | .value f=>
   match ρ f with
   | .fn (.func F) first caps=>some (.inl (F,first++c.args.toList.map ρ++caps))
   | .yf id=>some (.inr (id,c.args.toList.map ρ))
   |_=>none
  |_=>none
 |_=>none
def AFh(H:A1):List (Nat×Fl)->A1
 |[]=>H
 |(i,e)::r=>AFh (H.set i e) r
section
variable {X:Nat->Prop} {h:Gh} {H:A1} {w:World}
def It.regen(s:It X h H w){id g g':Nat}{cs:List Aa}(n:H[id]? =some (Fl.live g cs))(I:g≤g'):
  It X (h.at_ id (h.io id) g' (h.cap id)) (H.set id (.live g' cs)) w/\HE h H w (h.at_ id (h.io id) g' (h.cap id)) (H.set id (.live g' cs)) w:=by
 obtain⟨q,p⟩:=s.live id g cs n;have l:h.gen id=g:=q;have t:id<H.length:=by rcases Ay id H.length with z|z;exact z;rw[Cm z]at n;cases n
 rcases p with⟨F,A⟩|⟨B,j,T,G,f,D,L,o,E,C,c⟩;have d:h.io id=none:=F;rcases Nat.eq_or_lt_of_le I with e|M;subst e;have x:h.at_ id (h.io id) g (h.cap id)=h:=by unfold Gh.at_;cases h;simp only[Gh.mk.injEq];refine⟨funext λi=>?_,funext λi=>?_,funext λi=>?_⟩;split<;>simp_all;split;rename_i r;subst r;exact l.symm;rfl;split<;>simp_all
 have y:H.set id (.live g cs)=H:=by apply Iw;intro i;rw[VX];split;rename_i r;subst r;exact n.symm;rfl
 rw[x,y];exact⟨s,HE.refl _ _ _⟩;subst A;obtain⟨m,rfl⟩: ∃m,g'=m+1:=⟨g'-1,o!⟩
 have key: ∀(v:Gh) (u:A1) (k:Nat),v=h.at_ id none (g+k) (h.cap id)->u=H.set id (.live (g+k) [])->(It X v u w/\HE h H w v u w)->(It X (h.at_ id none (g+(k+1)) (h.cap id)) (H.set id (.live (g+(k+1)) [])) w/\HE h H w (h.at_ id none (g+(k+1)) (h.cap id)) (H.set id (.live (g+(k+1)) [])) w):=by
  intro v u k x y J;subst x y;obtain⟨q1,q2⟩:=J.1.bump (id:=id) (g:=g+k) (cs:=[]) (by simp[t]) (by simp[Gh.at_]);have K:(h.at_ id none (g+k) (h.cap id)).at_ id none (g+k+1) ((h.at_ id none (g+k) (h.cap id)).cap id)=h.at_ id none (g+(k+1)) (h.cap id):=by unfold Gh.at_;simp only[Gh.mk.injEq];refine⟨funext λi=>?_,funext λi=>?_,funext λi=>?_⟩<;>by_cases r:i=id<;>simp[r,dc]
  rw[K,Xl]at q1 q2;exact⟨q1,J.2.trans q2⟩
 have all: ∀k,It X (h.at_ id none (g+(k+1)) (h.cap id)) (H.set id (.live (g+(k+1)) [])) w/\HE h H w (h.at_ id none (g+(k+1)) (h.cap id)) (H.set id (.live (g+(k+1)) [])) w:=by
  intro k;induction k with
  |zero=>exact s.bump n d
  |succ k N=>exact key _ _ (k+1) rfl rfl N
 have:=all (m-g);rw[show g+(m-g+1)=m+1 by omega]at this;rw[d];exact this;have b:h.io id=some B:=D;have a:j.size=h.cap id:=o;have:=s.upd (g':=g') (B:=B) (arr:=j) (T:=T) (fz:=G) (w':=w) n I (λ_=>⟨b,a.symm⟩) (.inl b) L (λ_ _ _=>rfl) rfl rfl rfl (Ap _) ⟨f,E,C,c⟩;rw[a]at this;rw[b];exact this
end
section
variable {P:Program} {N:Nat} {o:Oper} {env:Env} {H:A1} {K:Aa->A1->Prop}
def Bx.regen{id g g' sz off n:Nat}(a:h.gen id=g)(X:Bx (cx M h H j) (.sl id g sz off n) r):
  Bx (cx M (h.at_ id (h.io id) g' (h.cap id)) (H.set id I) j) (.sl id g' sz off n) r:=by
 cases X with
 |sl b i d f=>refine .sl (by simpa[cx]using b) (by simp[cx,Gh.at_]) d λ_=>?_;have:=f a;simpa[cx,Gh.at_]using this
def JJ.regen{id g g' sz off n:Nat}{cs:List Aa}{H1:A1}(j:g<=g')(d:H1[id]? =some (Fl.live g cs))(h:JJ P N o env H λv b=>v= .sl id g sz off n/\b=H1)(k:K (.sl id g' sz off n) (H1.set id (.live g' cs))):JJ P N o env H K:=by intro r X f a w s Q;apply Vn (h r X f a w s Q);rintro p t ⟨c,v,q,b,i,⟨rfl,rfl⟩,l,e,m⟩;obtain⟨q1,q2⟩:=e.regen (g':=g') d j;exact⟨c,_,_,_,i,k,Bx.regen (e.live id g cs d).1 l,q1,m.trans q2⟩
theorem Rl{sx xx:Operand}{t e:TypeId}{id g g' n sz m:Nat}{cs news:List Aa}(ho:o.op= .call {callee:=.builtin .append,args:= #[sx,xx],argTypes:= #[t,t]})(he:eI P t=some (none,e,sz))(S:0<sz)(b5:Ro P e=true)
  (hs:BM env sx= .sl id g sz 0 n) (Z:H[id]? =some (Fl.live g cs)) (hn:cs.length=n*sz) (hx:Jr H sz (BM env xx)=some (m,news)) (bl:n+m<=16777216)
  (b9:g<g'\/(g'=g/\m=0)) (hk:K (.sl id g' sz 0 (n+m)) (H.set id (.live g' (cs++news)))):JJ P N o env H K:=by
 apply C1 (by rw[ho];rfl);intro X h a w s Q;obtain⟨a7,b,hi⟩:=QN he;obtain⟨i,z,y,bz,hz,b7⟩:=Tx b5;have u:=kK hi y;have rs:=Dj s.env sx;rw[hs]at rs;have rx:=Dj s.env xx;obtain⟨ap,a9⟩:=s.sim.live id g cs Z;have b1:h.gen id=g:=ap;have L:id<H.length:=by rcases Ay id H.length with U|U;exact U;grind[List.getElem?_eq_none]
 have a6:Jr H sz (.sl id g sz 0 n)=some (n,cs):=by grind[Jr]
 unfold Oper.wp;have bG:(h.io id=none/\n=0/\a.eval sx= .slice none 0 0)\/ ∃B cap,h.io id=some B/\n<=cap/\cap*sz<=h.cap id/\a.eval sx= .slice (some ⟨B,0,none⟩) n cap:=by
  generalize a.eval sx=c at rs;cases rs with
  |sl p q r hc=>rcases hc ap with⟨h1,U,_,h3⟩|⟨B,cap,h1,U,h3,h4⟩;exact .inl ⟨h1,U,h3⟩;exact .inr ⟨B,cap,h1,U,by simpa[cx]using h3,h4⟩
 have ao: ∀(l:Option Addr) (cap:Nat),a.eval sx= .slice l n cap→cap<n+m→0<m→
   Oper.upon P o a (λa' V=> ∃c v h' H',a'=a.put o.dst c/\K v H'/\Bx (cx X h' H' V) v c/\It X h' H' V/\HE h H w h' H' V) Q ((execOp a.eval o).run P w):=by
  intro l cap A a2 b3;have sd:=s.sim.drew;obtain⟨ax,al,G,a8,O,d,D,_,J⟩:=ON (P:=P) sd (rx.later (HE.drew.later X)) S hx;obtain⟨_,_,_,_,_,_,_,a3,_⟩:=ON (P:=P) s.sim rx S hx;obtain⟨_,_,os,_,_,R,a5,_,b0⟩:=ON (P:=P) sd (rs.later (HE.drew.later X)) S a6;obtain⟨C,hC,E⟩:=pP (ty:=o.type) (base:=l) (n:=n) (cap:=cap) (os:=os) a7 y hz bz a3 (by rw[u,<-A];exact b0) (by rw[u];exact J) a2 bl;rw[Qq ho (by rw[A];exact E),Oper.upon_value];have hh:Holds (cx X h H w.drew) (cs++news) (os.toArray++G.toArray++Builtin.zeroCells z.cells (C-(n+m))) (0,0):=uX R d a5 D;obtain⟨q1,q2⟩:=sd.upd (g':=g') (B:=w.heap.size) (T:=e) (fz:=(0,0)) (w':={w.drew with heap:=w.drew.heap.push (.cells (os.toArray++G.toArray++Builtin.zeroCells z.cells (C-(n+m))) e)}) Z o! (λbm=>o!)
   (.inr (Ap _)) (by show(w.heap.push _)[w.heap.size]? =_;simp) (λk hk bm=>by show(w.heap.push _)[k]? =w.heap[k]?;rw[TF,if_neg bm]) rfl rfl rfl (by show w.heap.size<=(w.heap.push _).size;simp) hh
  refine⟨_,_,_,_,rfl,hk,.sl (by simpa[cx]using L) (by simp[cx,Gh.at_]) ⟨_,_,rfl⟩ λ_=>.inr ⟨w.heap.size,C,by simp[cx,Gh.at_],hC,?_,rfl⟩,q1,HE.drew.trans q2⟩;have e1:G.length=m*sz:=by rw[d.1,O]
  have e2:os.length=n*sz:=by rw[R.1,hn]
  simp only[cx,Gh.at_,if_true,Array.size_append,dY,Ye,b7,u,e1,e2];have:(C-(n+m))*sz+(n*sz+m*sz)=C*sz:=by rw[<-EW,<-EW];congr 1;omega
  omega
 rcases bG with⟨F,rfl,A⟩|⟨B,cap,F,b8,I,A⟩;rcases VU m with hm|hm;subst hm;obtain⟨ax,al,G,a8,O,d,D,M,J⟩:=ON (P:=P) s.sim rx S hx;have a4:news=[]:=EZ o!;subst a4;have bN:cs=[]:=EZ o!;subst bN;have b6:G=[]:=EZ d.1;subst b6;have E:=lT (ty:=o.type) (base:=none) (n:=0) (cap:=0) (w':=w) a7 y M (by rw[u];exact J) o! rfl;rw[Qq ho (by rw[A];exact E),Oper.upon_value];obtain⟨q1,q2⟩:=s.sim.regen (g':=g') Z o!;rw[F]at q1 q2;rw[C5]at hk;exact⟨_,_,_,_,rfl,hk,.sl (by simpa[cx]using L) (by simp[cx,Gh.at_]) ⟨_,_,rfl⟩ λ_=>.inl ⟨by simp[cx,Gh.at_],rfl,rfl,rfl⟩,q1,q2⟩;exact ao none 0 A o! hm;rcases Ay cap (n+m)with b2|a1;exact ao _ cap A b2 o!;obtain⟨ax,al,G,a8,O,d,D,M,J⟩:=ON (P:=P) s.sim rx S hx;rcases a9 with⟨bt,_⟩|⟨B',W,T,fz,f,ar,hb,a0,ca,bb,Y⟩;rw[show(cx X h H w).io id=h.io id from rfl,F]at bt;cases bt;rw[show(cx X h H w).io id=h.io id from rfl,F]at ar;injection ar with e0;subst e0;have x:W.size=h.cap id:=a0;have e1:G.length=m*sz:=by rw[d.1,O]
 have b4:n*sz+m*sz<=W.size:=by rw[<-EW,x];exact Dh (Mn _ a1) I
 obtain⟨V,ad,p1,p2,p3,p4,p5,p6,p7,p8,p9⟩:=Up (P:=P) (off:=n*sz) G 0 W w hb o! bb D;have E:=lT (ty:=o.type) (base:=some ⟨B,0,none⟩) (n:=n) (cap:=cap) (w':=V) a7 y M (by rw[u];exact J) a1 (by rw[u];simp only[OW,D9];exact p1);rw[Qq ho (by rw[A];exact E),Oper.upon_value];have hh:Holds (cx X h H w) (cs++news) ad fz:=by
  refine⟨λj=>if n*sz<=j/\j<n*sz+m*sz then G.getD (j-n*sz) undef else f j,by simp[hn,O];omega,by rw[p3];exact bb,λj v hj=>?_⟩;rw[p4];simp only[Su,e1];rcases Ay j cs.length with U|U;rw[CT U]at hj;rw[if_neg o!,if_neg o!];exact Y j v hj;rw[Cj U]at hj;have b':j-cs.length<news.length:=by rcases Ay (j-cs.length) news.length with h3|h3;exact h3;rw[Cm h3]at hj;cases hj
  rw[if_pos o!,if_pos o!];have hg:G[j-n*sz]? =some (G[j-n*sz]' o!):=Av o!;have eg:G.getD (j-n*sz) undef=G[j-n*sz]' o!:=by rw[Qu,hg];rfl
  rw[eg];refine⟨hg,D _ (Ng _),d.2 _ v _ hj ?_⟩;rw[hn];exact hg
 obtain⟨q1,q2⟩:=s.sim.upd (g':=g') (B:=B) (arr:=ad) (T:=T) (fz:=fz) (w':=V) Z o! (λ_=>⟨F,by rw[p3,x]⟩) (.inl F) p2 (λk _ hk=>p5 k hk) p6 p7 p8 (by rw[p9];exact Ap _) hh;refine⟨_,_,_,_,rfl,hk,.sl (by simpa[cx]using L) (by simp[cx,Gh.at_]) ⟨_,_,rfl⟩ λ_=>.inr ⟨B,cap,by simp[cx,Gh.at_],a1,?_,rfl⟩,q1,q2⟩;simp only[cx,Gh.at_,if_true,p3,D9,x];exact I
theorem cL{h:Operand}{m:Nat}(j:o.op= .call {callee:=.builtin .append,args:= #[g,h],argTypes:= #[b,b]})(i:eI P b=some (none,V,n))(e:0<n)(c:Ro P V=true)
  (k:BM env g= .nils) (l:Jr H n (BM env h)=some (m,d)) (f:m<=16777216) (a:K (.sl H.length m n 0 m) (H++[.live m d])):JJ P N o env H K:=by
 apply JJ.regen (id:=H.length) (g:=0) (g':=m) (cs:=d) (Be _) k! (JJ.append_nil j i e c k l f ⟨rfl,rfl⟩);grind
theorem TY{t:TypeId}{len sz:Nat}{vs:List Aa}(b:o.op= .buildSlice t len q)(c:Sd P env t len q=some (sz,vs))
  (d:K (.sl H.length vs.length sz 0 vs.length) (H++[.live vs.length (vs.flatMap Aa.cells)])):JJ P N o env H K:=by
 apply JJ.regen (id:=H.length) (g:=0) (g':=vs.length) (cs:=vs.flatMap Aa.cells) (Be _) k! (cM b c ⟨rfl,rfl⟩);grind
theorem JJ.makeSlice{y:Operand}{r:IntKind}(k:o.op= .makeSlice b g y)(j:eI P b=some (none,V,n))(e:0<n)(t:Ro P V=true)(q:Yd P V=some d)(l:d.length=n)
  (m:BM env g= .int C i) (p:BM env y= .int r a) (f:0<=i) (h:i<=a) (s:a<=16777216) (u:K (.sl H.length i.toNat n 0 i.toNat) (H++[.live i.toNat (List.replicate i.toNat d).flatten])):JJ P N o env H K:=by
 refine JJ.regen (id:=H.length) (g:=0) (g':=i.toNat) (cs:=(List.replicate i.toNat d).flatten) (H1:=H++[.live 0 (List.replicate i.toNat d).flatten]) (sz:=n) (off:=0) (n:=i.toNat) (Be _) k! (kU k j e t q l m p f h s ⟨rfl,rfl⟩) q!
end
section
variable {P:Program} {N:Nat} {o:Oper} {env:Env} {H:A1} {K:Aa->A1->Prop}
def kh(s:List UInt8):List Aa:=s.map λb=>.int .u8 (b.toNat:Int)
theorem nC{e:TypeId}(q:o.op= .convert b V g)(F:P.underlying b=some S)(y:P.underlying V=some (.slice e))(z:P.underlying e=some (.int .u8))
  (J:BM env g= .str O) (E:K (.sl H.length 0 1 0 O.length) (H++[.live 0 (kh O)])):JJ P N o env H K:=by
 apply C1 (by rw[q];rfl);intro X h a w st Q;have n:=Dj st.env g;rw[J]at n;generalize r:a.eval g=c at n;cases n with
 |str t G=>
  have l:t.size=O.length:=by rw[<-G];rfl
  have k:(execOp a.eval o).run P w= .ok (.value (.slice (some ⟨w.heap.size,0,none⟩) t.size (grownCap w t.size 0 e))) (Lib.bytesWorld w e t):=by have:=Lib.run_convert_string_bytes w b V e t F y z;unfold execOp;rw[q];simp[resolve,r,this]
  unfold Oper.wp;rw[k,Oper.upon_value];have B:=grownCap_ge w t.size 0 e;have m:(Lib.bytesCells w e t).size=grownCap w t.size 0 e:=by grind[Lib.bytesCells,Array.size_append,Array.size_map,Array.size_replicate]
  have L:=st.sim.drew;have I:Lib.bytesWorld w e t={w.drew with heap:=w.drew.heap.push (.cells (Lib.bytesCells w e t) e ((Lib.bytesCells w e t).size,(Lib.bytesCells w e t).size+1))}:=by unfold Lib.bytesWorld World.freeze World.alloc;rw[if_neg g!];show World.mk _ _ _ _ _=World.mk _ _ _ _ _;congr 1;apply Array.ext_getElem?;intro j;have m:w.drew.heap.size=w.heap.size:=rfl;grind
  rw[I];have C:Holds (cx X h H w.drew) (kh O) (Lib.bytesCells w e t) ((Lib.bytesCells w e t).size,(Lib.bytesCells w e t).size+1):=by
   refine⟨λj=>.int .u8 ((O.getD j 0).toNat:Int),by simp[kh];omega,λi M=>?_,λj v d=>?_⟩;grind;unfold kh at d;rw[CN]at d;cases p:O[j]? with
   |none=>grind
   |some f=>
    rw[p]at d;simp only[Bs,Ao]at d;subst d;have D:j<O.length:=by grind[Nat.lt_or_ge,List.getElem?_eq_none]
    have A:O.getD j 0=f:=by rw[Qu,p];rfl
    refine⟨?_,rfl,?_⟩;grind[Lib.bytesCells,Array.getElem?_append_left];simp only[A];exact .int _ _
  refine⟨_,_,_,_,rfl,E,.sl (by simp[cx]) (by simp[cx,Gh.at_]) ⟨_,_,by rw[l]⟩ λ_=>.inr ⟨w.heap.size,grownCap w t.size 0 e,?_,o!,?_,by rw[l]⟩,L.push _ e _ (kh O) C,HE.drew.trans (HE.push _ _ _)⟩;have:w.drew.heap.size=w.heap.size:=rfl;simp[cx,Gh.at_,this];simp only[cx,Gh.at_,if_true];omega
theorem oe{e:TypeId}(f:o.op= .convert b V g)(h:P.underlying b=some S)(c:P.underlying V=some (.slice e))(d:P.underlying e=some (.int .u8))
  (i:BM env g= .str O) (j:K (.sl H.length O.length 1 0 O.length) (H++[.live O.length (kh O)])):JJ P N o env H K:=by
 refine JJ.regen (id:=H.length) (g:=0) (g':=O.length) (cs:=kh O) (H1:=H++[.live 0 (kh O)]) (sz:=1) (off:=0) (n:=O.length) (Be _) k! (nC f h c d i ⟨rfl,rfl⟩) q!
end
def GD.virtC{N:Nat}{env:Env}{b g i sz:Nat}(Q:H[b]? =some (Fl.live g d))(hi:d[i]? =some .nils):
  GD N H.length env H env (H.set b (.live g (d.set i (.sl H.length 0 sz 0 0)))++[.live 0 []]):=by
 have J:b<H.length:=by rcases Ay b H.length with P|P;exact P;rw[Cm P]at Q;cases Q
 refine⟨k!,λX h a w s=>⟨h.at_ H.length none 0 0,?_,λid ap=>by simp[Gh.at_,Bi ap],?_⟩⟩;have O:=s.sim.virt;have hx:=HE.virt (h:=h) (H:=H) (w:=w);have W:=hx.later X
 have key: ∀(j:Nat) (e:Fl),(H.set b (.live g (d.set i (.sl H.length 0 sz 0 0)))++[Fl.live 0 []])[j]? =some e→
   (j≠b/\(H++[Fl.live 0 []])[j]? =some e)\/(j=b/\e= .live g (d.set i (.sl H.length 0 sz 0 0))):=by
  intro j e p;rcases Ay j H.length with y|y;rw[CT (by simpa using y),VX]at p;split at p;rename_i G;subst G;injection p with p;exact .inr ⟨rfl,p.symm⟩;rename_i G;exact .inl ⟨λe=>G e.symm,by rw[CT y];exact p⟩;refine .inl ⟨o!,?_⟩;rw[Cj (by simpa using y)]at p;rw[Cj y];simpa using p
 have E: ∀B,owned (h.at_ H.length none 0 0) (H.set b (.live g (d.set i (.sl H.length 0 sz 0 0)))++[.live 0 []]) B->owned (h.at_ H.length none 0 0) (H++[.live 0 []]) B:=by rintro B ⟨j,e,p,z,o⟩;rcases key j e p with⟨_,q⟩|⟨rfl,rfl⟩;exact⟨j,e,q,z,o⟩;exact⟨j,_,by rw[CT J];exact Q,k!,o⟩
 have C:(cx X (h.at_ H.length none 0 0) (H++[.live 0 []]) w).Later (cx X (h.at_ H.length none 0 0) (H.set b (.live g (d.set i (.sl H.length 0 sz 0 0)))++[.live 0 []]) w):={size:=Ap _,keep:=λ_ _ _ _=>rfl,own:=λB _ ho=>ho.imp _root_.id (E B),n:=by simp[cx],gen:=λ_ _=>Ap _,same:=λ_ _ _=>⟨rfl,rfl⟩}
 refine⟨⟨λB Y=>⟨(O.out B Y).1,λho=>(O.out B Y).2 (E B ho)⟩,λj g0 ad p=>?_,λj L p=>?_,λj k e e' B q P ax a0 h3 h4=>?_,O.bldKeep λj e p Y=>?_⟩,λt v m=>?_,s.size⟩;rcases key j _ p with⟨_,q⟩|⟨rfl,q⟩;obtain⟨U,hh⟩:=O.live j g0 ad q;refine⟨U,?_⟩;rcases hh with⟨o,h0⟩|⟨B,F,T,fz,f,o,I,x,M,K,l⟩;exact .inl ⟨o,h0⟩;exact .inr ⟨B,F,T,fz,f,o,I,x,M,K,λk v u=>⟨(l k v u).1,(l k v u).2.1,(l k v u).2.2.later C⟩⟩;injection q with h5 h6;subst h5 h6;obtain⟨U,hh⟩:=O.live j g0 d (by rw[CT J];exact Q);refine⟨U,?_⟩;rcases hh with⟨o,h0⟩|⟨B,F,T,fz,f,o,I,x,M,K,l⟩;subst h0;simp at hi;refine .inr ⟨B,F,T,fz,f,o,I,x,by simpa using M,K,λk v u=>?_⟩;rw[VX]at u;split at u;rename_i ar;subst ar;split at u;injection u with u;subst u;obtain⟨p1,Z,p3⟩:=l i _ hi;refine⟨p1,Z,?_⟩;generalize f i=c at p3 Z;cases p3;exact .sl (by simp[cx]) (by simp[cx,Gh.at_]) ⟨_,_,rfl⟩ λ_=>.inl ⟨by simp[cx,Gh.at_],rfl,rfl,rfl⟩;cases u;obtain⟨p1,Z,p3⟩:=l k v u;exact⟨p1,Z,p3.later C⟩;rcases key j _ p with⟨_,q⟩|⟨rfl,q⟩;obtain⟨U,B,r,q1,q2,q3,q4,q5,q6,q7,q8,q9⟩:=O.lp j L q;exact⟨U,B,r,q1,q2,q3,q4,q5,q6,q7,q8,λt v m=>⟨(q9 t v m).1,(q9 t v m).2.later C⟩⟩;cases q;have back: ∀{j:Nat} {e:Fl},(H.set b (.live g (d.set i (.sl H.length 0 sz 0 0)))++[Fl.live 0 []])[j]? =some e->e≠ .dead-> ∃e0,(H++[Fl.live 0 []])[j]? =some e0/\e0≠ .dead:=by intro j e p z;rcases key j _ p with⟨_,q⟩|⟨rfl,q⟩;exact⟨e,q,z⟩;exact⟨_,by rw[CT J];exact Q,k!⟩
 obtain⟨A,al,ao⟩:=back q ax;obtain⟨d',R,S⟩:=back P a0;exact O.inj j k _ _ B al R ao S h3 h4;rcases key j _ p with⟨_,q⟩|⟨rfl,q⟩;exact⟨q,rfl,rfl,rfl,λ_ _ _ _ _=>rfl⟩;subst q;cases Y;exact⟨(s.env t v m).1,((s.env t v m).2.later W).later C⟩;rintro B ⟨j,e,p,z,o⟩;rcases Ay j H.length with y|y;have D:h.io j=some B:=by simpa[Gh.at_,Bi y]using o
 by_cases V:j=b;subst V;exact⟨j,_,Q,k!,D⟩;rw[CT (by simpa using y),DU (λe=>V e.symm)]at p;exact⟨j,e,p,z,D⟩;rw[Cj (by simpa using y)]at p;have:j=H.length:=by rcases Nat.eq_or_lt_of_le y with e|P;exact e.symm;rw[Cm w!]at p;cases p
 subst this;simp[Gh.at_]at o
def Bx.nil_vs{x:Cx}(a:0<N)(c:Bx x .nils r):Bx x (.vs N []) r:=by cases c;exact Bx.vs (rows:=[]) (cap:=0) (λ_ _=>undef) (Ap _) a (λ_ _ h=>by simp at h) (λh=>(h rfl).elim) λ_ _ _ _ h=>by simp at h
def GD.subset{N:Nat}{H:A1}(h: ∀q∈W,q∈f):GD N H.length f H W H:=⟨Ap _,λ_ g _ _ s=>⟨g,⟨s.sim,λt v m=>s.env t v (h _ m),s.size⟩,λ_ _=>⟨rfl,rfl,rfl⟩,λ_ h=>h⟩⟩
section
variable {P:Program}
theorem AA6{b:Operand→Aa}(h:callT b T=some (.inl (p,d))):
  ∃c f first a,T= .call c/\c.callee= .value f/\b f= .fn (.func p) first a/\d=first++c.args.toList.map b++a:=by
 unfold callT at h;grind
section
variable {N:Nat} {o:Oper} {env:Env} {H H':A1} {v:Aa}
def nY{F:FuncId}{vs:List Aa}(h:callT (BM env) o.op=some (.inl (F,vs)))(d:Enters P F=true)(e:Ek P F vs H (DX v H')):JJ P N o env H (DX v H'):=by obtain⟨c,f,first,b,i,a,g,rfl⟩:=AA6 h;exact od i a g d e
end
end
mutual
theorem Qo{p q:Nat->Bool}(h: ∀id,p id=true->q id=true): ∀v:Aa,v.idsAll p=true->v.idsAll q=true
 | .ptr id g off,k=>h id k
 | .sl id g sz off len,k=>h id k
 | .yf id,k=>h id k
 | .mp id,k=>h id k
 | .itp id m,k=>by simp only[Aa.idsAll,BY]at k⊢;exact⟨h id k.1,h m k.2⟩
 | .vptr cs,k=>JH h cs k
 | .vs sz rows,k=>JH h rows k
 | .fn f a b,k=>by simp only[Aa.idsAll,BY]at k⊢;exact⟨JH h a k.1,JH h b k.2⟩
 | .agg cs,k=>JH h cs k
 | .tup cs,k=>JH h cs k
 | .bool _,_=>rfl
 | .int _ _,_=>rfl
 | .str _,_=>rfl
 | .nilp,_=>rfl
 | .nils,_=>rfl
 | .nilf,_=>rfl
 | .any,_=>rfl
theorem JH{p q:Nat->Bool}(h: ∀id,p id=true->q id=true): ∀l:List Aa,Aa.idsAllL p l=true->Aa.idsAllL q l=true
 |[],_=>rfl
 |v::r,k=>by simp only[Aa.idsAllL,BY]at k⊢;exact⟨Qo h v k.1,JH h r k.2⟩
end
mutual
theorem ADj(c d:Nat->Nat): ∀v:Aa,(v.ren c).ren d=v.ren λid=>d (c id)
 | .ptr id g i=>rfl
 | .sl id g sz i len=>rfl
 | .yf id=>rfl
 | .mp id=>rfl
 | .itp _ _=>rfl
 | .vptr e=>by simp only[Aa.ren,Tv c d e]
 | .vs sz h=>by simp only[Aa.ren,Tv c d h]
 | .fn f a b=>by simp only[Aa.ren,Tv c d a,Tv c d b]
 | .agg e=>by simp only[Aa.ren,Tv c d e]
 | .tup e=>by simp only[Aa.ren,Tv c d e]
 | .bool _=>rfl
 | .int _ _=>rfl
 | .str _=>rfl
 | .nilp=>rfl
 | .nils=>rfl
 | .nilf=>rfl
 | .any=>rfl
theorem Tv(a b:Nat->Nat): ∀l:List Aa,Aa.renL b (Aa.renL a l)=Aa.renL (λid=>b (a id)) l
 |[]=>rfl
 |v::r=>by simp only[Aa.renL,ADj a b v,Tv a b r]
end
mutual
theorem yv{p q:Nat->Bool}{c:Nat->Nat}(h: ∀id,p id=true->q (c id)=true): ∀v:Aa,v.idsAll p=true->(v.ren c).idsAll q=true
 | .ptr id g off,k=>h id k
 | .sl id g sz off len,k=>h id k
 | .yf id,k=>h id k
 | .mp id,k=>h id k
 | .itp id m,k=>by simp only[Aa.ren,Aa.idsAll,BY]at k⊢;exact⟨h id k.1,h m k.2⟩
 | .vptr cs,k=>OM h cs k
 | .vs sz rows,k=>OM h rows k
 | .fn f a b,k=>by simp only[Aa.ren,Aa.idsAll,BY]at k⊢;exact⟨OM h a k.1,OM h b k.2⟩
 | .agg cs,k=>OM h cs k
 | .tup cs,k=>OM h cs k
 | .bool _,_=>rfl
 | .int _ _,_=>rfl
 | .str _,_=>rfl
 | .nilp,_=>rfl
 | .nils,_=>rfl
 | .nilf,_=>rfl
 | .any,_=>rfl
theorem OM{p q:Nat->Bool}{a:Nat->Nat}(h: ∀id,p id=true->q (a id)=true): ∀l:List Aa,Aa.idsAllL p l=true->Aa.idsAllL q (Aa.renL a l)=true
 |[],_=>rfl
 |v::r,k=>by simp only[Aa.renL,Aa.idsAllL,BY]at k⊢;exact⟨yv h v k.1,OM h r k.2⟩
end
def Pure(v:Aa):Prop:=v.idsAll (λ_=>false)=true
def qu(e:Fl):Prop:=match e with| .live _ cs=>Aa.idsAllL (λ_=>false) cs=true|_=>False
def Pure.all(h:Pure s)(p:Nat->Bool):s.idsAll p=true:=Qo (λ_ e=>by cases e) s h
def Pure.ren{v:Aa}(h:Pure v)(ρ:Nat->Nat):v.ren ρ=v:=zX (p:=λ_=>false) (λ_ e=>by cases e) v h
def qu.all(h:qu I)(p:Nat->Bool):I.idsAll p=true:=by
 cases I with
 |live g a=>exact JH (λ_ I=>by cases I) a h
 |_=>cases h
def qu.ren(h:qu I)(ρ:Nat->Nat):I.ren ρ=I:=by
 cases I with
 |live g a=>simp only[Fl.ren];rw[XP (p:=λ_=>false) (λ_ I=>by cases I) a h]
 |_=>cases h
theorem Ek.sub{P:Program}{K:Aa→A1→Prop}(bs:List Nat){Qc:Aa→A1→Prop}(a:bs.Nodup)(g: ∀b∈bs,b<H.length)
  (t: ∀b∈bs,((H.getD b .dead).idsAll λid=>decide (id∈bs))=true) (k:Aa.idsAllL (λid=>decide (id∈bs)) d=true)
  (y:Ek P p (Aa.renL (bs.idxOf ·) d) (ZB H bs) Qc) (A: ∀v i,Qc v i->K (v.ren (Sy H bs)) (Ul H bs i)):Ek P p d H K:=by
 intro X h w c s o f;refine(y (Xs X h H bs) (WG h bs) w c (s.sub a t) (by simpa[OG]using o) ?_).mono ?_;intro j v n l z;rw[OG,CN]at l;cases r:d[j]? with
 |none=>grind
 |some u=>rw[r]at l;simp at l;subst l;exact Bx.ren (p:=λid=>decide (id∈bs)) (λid=>wO id) rfl ADy (f j u n r z) (Mi k r)
 rintro e E ⟨n,v,m,i,rfl,q,D,C,x⟩;have B:bs.length<=i.length:=by have:=x.n;simpa[ZB]using this
 exact⟨n,_,NK h H bs m,Ul H bs i,rfl,A v i q,s.back a g x D,Bx.back a g B C,HE.back a g x⟩
theorem qH{f:Nat->Nat}: ∀(bs:List Nat) (H a:A1),(∀e∈a,qu e)->am f H bs a=AFh H (bs.zip a)
 |[],H,a,_=>by cases a<;>rfl
 |b::bs,H,[],_=>rfl
 |b::bs,H,e::es,h=>by simp only[am,List.zip_cons_cons,AFh];rw[(h e k!).ren,qH bs _ es λc d=>h c (by simp[d])]
theorem Ek.frame{v c H:A1}(bs:List Nat)(y:Ek P p d v (DX s c))(l:bs.Nodup)(w:v.length=bs.length)(x:c.length=bs.length)
  (m: ∀(j b:Nat) (e:Fl),bs[j]? =some b->v[j]? =some e->H[b]? =some e) (o: ∀e∈v,qu e) (A: ∀e∈c,qu e) (F:Pure s)
  (q:Aa.renL (λj=>bs.getD j 0) d=Z) (z:Aa.idsAllL (λj=>decide (j<bs.length)) d=true):Ek P p Z H (DX s (AFh H (bs.zip c))):=by
 have get: ∀b∈bs,∃(j:Nat) (e:Fl),bs[j]? =some b/\v[j]? =some e/\H[b]? =some e:=by
  intro b i;obtain⟨j,n,e⟩:=VS.1 i;have h:bs[j]? =some b:=q!
  have f:v[j]? =some (v[j]' o!):=Av o!;exact⟨j,_,h,f,m j b _ h f⟩
 have k: ∀b∈bs,b<H.length:=q!
 have g:ZB H bs=v:=by
  apply Iw;intro j;unfold ZB;rw[CN];cases n:bs[j]? with
  |none=>grind[List.getElem?_eq_none_iff,List.getElem?_eq_none]
  |some b=>
   have r:j<bs.length:=by grind[Nat.lt_or_ge,List.getElem?_eq_none]
   have f:v[j]? =some (v[j]' o!):=Av o!;have a:=m j b _ n f;rw[f,Bs,Qu,a,lP,(o _ (Ng _)).ren]
 refine Ek.sub bs (Qc:=DX s c) l k (λb i=>?_) ?_ ?_ ?_;obtain⟨j,e,_,h,f⟩:=get b i;rw[Qu,f,lP];exact(o e (BN h)).all _;grind[OM,List.getElem?_eq_getElem,List.getElem_mem];rw[g,<-q,Tv];grind[Aa.renL,XP,ou,List.getElem?_eq_getElem];rintro u t ⟨rfl,rfl⟩;refine⟨F.ren _,?_⟩;grind[Ul,qH,List.drop_eq_nil_of_le]
structure Rq(α:Type)where
 sz:Nat
 f:α->Aa
 pos:0<sz
 len: ∀x,(f x).cells.length=sz
 pure: ∀x,Pure (f x)
def Rq.cl(e:Rq R)(l:List R):List Aa:=(l.map e.f).flatMap Aa.cells
theorem Rq.clen{a:Type}(e:Rq a): ∀l:List a,(e.cl l).length=l.length*e.sz
 |[]=>by simp[Rq.cl]
 |x::l=>by have:=Rq.clen e l;simp only[Rq.cl,Bl,ID,Ac,e.len]at this⊢;grind
def vU(k:IntKind):Rq Int:=⟨1,.int k,g!,λ_=>rfl,λ_=>rfl⟩
abbrev BT:=List UInt8
def ix{α:Type}(l:List α)(i:Int):Option α:=if 0<=i then l[i.toNat]? else none
def app{α:Type}(l xs:List α):Option (List α):=if l.length+xs.length<=16777216 then some (l++xs)else none
theorem AIk{f:R->Aa}{l:List R}{x:R}(h:ix l i=some x):0<=i/\(l.map f)[i.toNat]? =some (f x):=by unfold ix at h;grind
theorem mV{l a r:List R}(h:app l a=some r):l.length+a.length<=16777216/\r=l++a:=by grind[app]
def AGw(e:Rq R)(l:List R):zr e.sz (e.cl l) (l.map e.f):=⟨e.pos,λv b=>by obtain⟨x,_,rfl⟩:=Br.1 b;exact e.len x,rfl⟩
inductive Step(S R:Type)where
 |next (s:S)
 |done (r:R)
def dH{S R:Type}(body:S->Option (Step S R)):Nat->S->Option R
 |0,_=>none
 |n+1,s=>
  match body s with
  |some (.next s')=>dH body n s'
  |some (.done r)=>some r
  |none=>none
theorem y8{body:J->Option (Step J R)}{s:J}{r:R}(h:dH body n s=some r):dH body (n+1) s=some r:=by induction n generalizing s<;>grind[dH]
theorem ADD{body:J->Option (Step J R)}{s:J}{r:R}(h:dH body n s=some r)(a:n<=N):dH body N s=some r:=by induction a<;>grind[y8]
open Classical in
noncomputable def Ah{S R:Type}(body:S->Option (Step S R))(s:S):Option R:=if h: ∃r n,dH body n s=some r then some h.choose else none
theorem kB{body:J->Option (Step J R)}{s:J}{r:R}:Ah body s=some r↔ ∃n,dH body n s=some r:=by
 unfold Ah;constructor;intro h;split at h<;>grind;rintro⟨n,hn⟩;have a: ∃r n,dH body n s=some r:=⟨r,n,hn⟩
 grind[ADD]
theorem IB(body:J→Option (Step J R))(s:J):Ah body s=match body s with
  |some (.next b)=>Ah body b
  |some (.done r)=>some r
  |none=>none:=by
 apply Option.ext;intro r;rw[kB];constructor
 ·rintro⟨n,h⟩;cases n with
  |zero=>cases h
  |succ n=>
   rw[dH]at h;cases a:body s with
   |none=>rw[a]at h;cases h
   |some q=>
    rw[a]at h;cases q with
    |next b=>exact kB.2 ⟨n,h⟩
    |done r=>exact h
 ·intro h;cases a:body s with
  |none=>rw[a]at h;cases h
  |some q=>
   rw[a]at h;cases q with
   |next b=>obtain⟨n,hn⟩:=kB.1 h;exact⟨n+1,by rw[dH,a];exact hn⟩
   |done c=>exact⟨1,by rw[dH,a];exact h⟩
def ABR{body:J->Option (Step J R)}(C:J->R->Prop)(c: ∀s b r,body s=some (.next b)->C b r->C s r)(d: ∀s r,body s=some (.done r)->C s r){s:J}{r:R}(h:Ah body s=some r):C s r:=by
 obtain⟨n,hn⟩:=kB.1 h;clear h;induction n generalizing s with
 |zero=>cases hn
 |succ n e=>
  rw[dH]at hn;cases a:body s with
  |none=>rw[a]at hn;cases hn
  |some q=>
   rw[a]at hn;cases q with
   |next b=>exact c s b r a (e hn)
   |done f=>injection hn with hn;subst hn;exact d s f a
theorem bnd{x:Option R}{k:R->Option J}{r:J}(h:x.bind k=some r): ∃a,x=some a/\k a=some r:=by cases x<;>grind
abbrev HA(n:Nat)(α:Type):=Fin n->α
def HA.all{n:Nat}{α:Type}(x:α):HA n α:=λ_=>x
def dj(n:Nat)(e:Rq R)(a:HA n R):List Aa:=(List.finRange n).flatMap λi=>(e.f (a i)).cells
def ACR(n:Nat)(e:Rq R)(a:HA n R):(dj n e a).length=n*e.sz:=by
 unfold dj;have: ∀l:List (Fin n),(l.flatMap λi=>(e.f (a i)).cells).length=l.length*e.sz:=by
  intro l;induction l with
  |nil=>simp
  |cons x l c=>rw[ID,Ac,c,e.len];simp[EW,Xn]
 rw[this,List.length_finRange]
def Gj{n:Nat}(a:HA n R)(i:Int):Option R:=if h:0<=i/\i.toNat<n then some (a ⟨i.toNat,h.2⟩)else none
def WK{n:Nat}(a:HA n R)(i:Int)(v:R):HA n R:=λj=>if(j.val:Int)=i then v else a j
theorem nr{a:HA n R}{x:R}(h:Gj a i=some x):0<=i/\ ∃k:Fin n,i=(k.val:Int)/\a k=x:=by grind[Gj]
theorem rp(g:R→List J)(sz:Nat)(c: ∀x,(g x).length=sz)(l1:List R)(x:R)(l2:List R):
  (l1++x::l2).flatMap g=l1.flatMap g++g x++l2.flatMap g/\(l1.flatMap g).length=l1.length*sz:=by
 induction l1<;>grind
theorem rY(k:Fin n): ∃l1 l2,List.finRange n=l1++k::l2/\l1.length=k.val/\k∉l1/\k∉l2:=by
 refine⟨(List.finRange n).take k.val,(List.finRange n).drop (k.val+1),?_,q!,?_,?_⟩;have a:(List.finRange n).drop k.val=k::(List.finRange n).drop (k.val+1):=by rw[PX k!];simp
 rw[<-a,DN];intro h;obtain⟨i,b,e⟩:=VS.1 h;grind;intro h;obtain⟨i,b,e⟩:=VS.1 h;grind
theorem rE(e:Rq R)(a:HA n R)(k:Fin n): ∃b c,dj n e a=b++(e.f (a k)).cells++c∧b.length=k.val*e.sz∧
  ∀v,dj n e (WK a k.val v)=b++(e.f v).cells++c:=by
 obtain⟨l1,l2,g,h,m,o⟩:=rY k;unfold dj;rw[g];obtain⟨p,q⟩:=rp (λi=>(e.f (a i)).cells) e.sz (λi=>e.len _) l1 k l2;refine⟨_,_,p,by rw[q,h],λv=>?_⟩;have r: ∀j,j≠k->WK a k.val v j=a j:=by grind[WK]
 have l:WK a k.val v k=v:=by grind[WK]
 rw[(rp (λi=>(e.f (WK a k.val v i)).cells) e.sz (λi=>e.len _) l1 k l2).1];grind[List.map_congr_left]
section
variable {α:Type} {n:Nat} (e:Rq α) {a:HA n α} {i:Int} {x:α}
theorem ACS(h:Gj a i=some x)(c b:List Aa):(c++dj n e a++b).length=c.length+n*e.sz+b.length∧c.length+i.toNat*e.sz+e.sz≤(c++dj n e a++b).length∧
  ((c++dj n e a++b).drop (c.length+i.toNat*e.sz)).take e.sz=(e.f x).cells/\ ∀v,WD (c++dj n e a++b) (c.length+i.toNat*e.sz) (e.f v).cells=c++dj n e (WK a i v)++b:=by
 obtain⟨s,k,rfl,rfl⟩:=nr h;obtain⟨d,g,l,m,o⟩:=rE e a k;have p:((k.val:Int)).toNat=k.val:=k!
 have j:=ACR n e a;have r:=e.len (a k);refine⟨q!,?_,?_,λv=>?_⟩;grind;grind;have q:=e.len v;rw[o v,l,p,<-m];have:(c++(d++(e.f (a k)).cells++g)++b)=(c++d)++((e.f (a k)).cells++(g++b)):=k!
 rw[this];unfold WD;rw[<-Ac,Xm,q,<-r,XW,jj o!];simp
theorem ACN{off m:Nat}(c b:List Aa)(h:Gj a i=some x)(d:off+m<=e.sz):c.length+i.toNat*e.sz+off+m<=(c++dj n e a++b).length/\((c++dj n e a++b).drop (c.length+i.toNat*e.sz+off)).take m=((e.f x).cells.drop off).take m:=by obtain⟨_,g,j,_⟩:=ACS e h c b;grind[List.drop_take,List.drop_drop]
end
def sapp(a b:BT):Option BT:=if a.length+b.length<=9223372036854775807 then some (a++b)else none
theorem AGx{a b r:BT}(h:sapp a b=some r):(if a.length+b.length<=9223372036854775807 then some (Aa.str (a++b))else none)=some (.str r):=by grind[sapp]
def RD(s:BT)(lo hi:Int):Option BT:=if 0<=lo/\lo<=hi/\hi<=s.length then some ((s.drop lo.toNat).take (hi.toNat-lo.toNat))else none
def YV(s:List R)(lo hi:Int):Option (List R):=if 0<=lo/\lo<=hi/\hi<=s.length then some ((s.drop lo.toNat).take (hi.toNat-lo.toNat))else none
def Ew(l:List Int):BT:=l.map λn=>UInt8.ofNat n.toNat
theorem wR: ∀l:List Int,u8s (l.map (vU .u8).f)=some (Ew l)
 |[]=>rfl
 |n::l=>by have:=wR l;simp;simp only[vU]at this⊢;simp only[u8s,this];rfl
def AGe(k:IntKind)(l:List Int):(vU k).cl l=l.map (vU k).f:=by
 unfold Rq.cl;induction l with
 |nil=>rfl
 |cons x l a=>simp only[Bl,ID,a];rfl
theorem ADM(l:List Int)(c:kd P V= .str)(d:kd P b= .bytes):
  Wo P H b V (.vs 1 (l.map (vU .u8).f))=some (.str (Ew l)):=by
 simp only[Wo,rowsOf];have:(l.map (vU .u8).f).flatMap Aa.cells=l.map (vU .u8).f:=AGe .u8 l;grind[wR]
def y9{body:J->Option (Step J R)}{C:J->R->Prop}(h: ∀s q,body s=some q->match q with| .next d=> ∀o,C d o->C s o| .done o=>C s o){s:J}{o:R}(b:Ah body s=some o):C s o:=ABR C (λs _ r a c=>h s _ a r c) (λs _ a=>h s _ a) b
def mk(x:R)(l c:Int):Option (List R):=if 0<=l/\l<=c/\c<=16777216 then some (List.replicate l.toNat x)else none
theorem AIl(e:Rq R)(x:R){r:List R}(h:mk x i a=some r):(0<=i/\i<=a/\a<=16777216)/\i.toNat=r.length/\(List.replicate i.toNat (e.f x).cells).flatten=e.cl r:=by unfold mk at h;split at h;rename_i b;injection h with h;subst h;unfold Rq.cl;induction i.toNat<;>grind;cases h
def Sl(s:BT):List Int:=s.map λb=>(b.toNat:Int)
def AHy(s:BT):s.length=(Sl s).length/\kh s=(vU .u8).cl (Sl s):=by
 refine⟨by simp[Sl],?_⟩;unfold Rq.cl Sl kh;induction s with
 |nil=>rfl
 |cons b r a=>simp only[Bl,a];rfl
def six(s:BT)(i:Int):Option Int:=if 0<=i then(s[i.toNat]?).map λb=>(b.toNat:Int)else none
theorem AHx{s:BT}(h:six s i=some a)(t:kd P b= .str):jQ P b (.str s) (.int C i)=some (.int .u8 a):=by grind[six,jQ]
def rP(e:Rq R){l:List R}{x:R}(h:ix l i=some x): ∃d j,e.cl l=d++(e.f x).cells++j/\d.length=i.toNat*e.sz/\0<=i/\i.toNat<l.length/\l[i.toNat]? =some x/\ ∀v,e.cl (l.set i.toNat v)=d++(e.f v).cells++j:=by
 unfold ix at h;split at h
 case isFalse=>cases h
 rename_i k;obtain⟨c,n⟩:=HJ.1 h;have m:l=l.take i.toNat++x::l.drop (i.toNat+1):=by rw[<-n,<-PX c,DN]
 have b: ∀v,l.set i.toNat v=l.take i.toNat++v::l.drop (i.toNat+1):=λv=>by rw[List.set_eq_take_append_cons_drop,if_pos c]
 have a: ∀v,e.cl (l.take i.toNat++v::l.drop (i.toNat+1))=e.cl (l.take i.toNat)++(e.f v).cells++e.cl (l.drop (i.toNat+1)):=λv=>by simp[Rq.cl]
 refine⟨e.cl (l.take i.toNat),e.cl (l.drop (i.toNat+1)),?_,?_,k,c,h,λv=>by rw[b,a]⟩;conv=>lhs;rw[m]
 exact a x;rw[e.clen,BQ,QI (Nat.le_of_lt c)]
def FT{α:Type}(l:List α)(i:Int)(v:α):List α:=l.set i.toNat v
def sV{l:List R}{v:R}(h:l.length=n):(FT l i v).length=n:=by rw[<-h];exact dV
section
variable {α:Type} (e:Rq α) {l:List α} {i:Int} {x:α}
theorem AGV(h:ix l i=some x)(d:N+n<=e.sz):i.toNat*e.sz+N+n<=(e.cl l).length/\((e.cl l).drop (i.toNat*e.sz+N)).take n=((e.f x).cells.drop N).take n:=by obtain⟨j,k,b,c,_⟩:=rP e h;have g:=e.len x;rw[b,<-c];refine⟨q!,?_⟩;rw[A0,XW,jj o!,Bw,Ss,XW,dZ,EH,g,show n-(e.sz-N)=0 by omega];simp
end
mutual
def Aa.beq:Aa->Aa->Bool
 | .bool a,.bool b=>a==b
 | .int k n,.int k' n'=>decide (k=k')&&decide (n=n')
 | .str s,.str t=>decide (s=t)
 | .nilp,.nilp=>true
 | .nils,.nils=>true
 | .nilf,.nilf=>true
 | .ptr a b c,.ptr a' b' c'=>decide (a=a')&&(decide (b=b')&&decide (c=c'))
 | .vptr cs,.vptr ds=>Aa.beqL cs ds
 | .vs a cs,.vs b ds=>decide (a=b)&&Aa.beqL cs ds
 | .sl a b c d e,.sl a' b' c' d' e'=>decide (a=a')&&(decide (b=b')&&(decide (c=c')&&(decide (d=d')&&decide (e=e'))))
 | .agg cs,.agg ds=>Aa.beqL cs ds
 | .tup cs,.tup ds=>Aa.beqL cs ds
 |_,_=>false
def Aa.beqL:List Aa->List Aa->Bool
 |[],[]=>true
 |a::r,b::s=>Aa.beq a b&&Aa.beqL r s
 |_,_=>false
end
mutual
theorem beq_eq: ∀(a b:Aa),Aa.beq a b=true->a=b
 | .bool a,b,h=>by cases b<;>simp[Aa.beq]at h;rw[h]
 | .int k n,b,h=>by cases b<;>simp[Aa.beq]at h;rw[h.1,h.2]
 | .str s,b,h=>by cases b<;>simp[Aa.beq]at h;rw[h]
 | .nilp,b,h=>by cases b<;>simp[Aa.beq]at h;rfl
 | .nils,b,h=>by cases b<;>simp[Aa.beq]at h;rfl
 | .nilf,b,h=>by cases b<;>simp[Aa.beq]at h;rfl
 | .ptr _ _ _,b,h=>by cases b<;>simp[Aa.beq]at h;rw[h.1,h.2.1,h.2.2]
 | .vptr cs,b,h=>by cases b<;>simp[Aa.beq]at h;rw[jr cs _ h]
 | .vs a cs,b,h=>by cases b<;>simp[Aa.beq]at h;rw[h.1,jr cs _ h.2]
 | .sl _ _ _ _ _,b,h=>by cases b<;>simp[Aa.beq]at h;rw[h.1,h.2.1,h.2.2.1,h.2.2.2.1,h.2.2.2.2]
 | .agg cs,b,h=>by cases b<;>simp[Aa.beq]at h;rw[jr cs _ h]
 | .tup cs,b,h=>by cases b<;>simp[Aa.beq]at h;rw[jr cs _ h]
 | .fn _ _ _,b,h=>by cases b<;>simp[Aa.beq]at h
 | .yf _,b,h=>by cases b<;>simp[Aa.beq]at h
 | .mp _,b,h=>by cases b<;>simp[Aa.beq]at h
 | .itp _ _,b,h=>by cases b<;>simp[Aa.beq]at h
 | .any,b,h=>by cases b<;>simp[Aa.beq]at h
theorem jr: ∀(a b:List Aa),Aa.beqL a b=true->a=b
 |[],b,h=>by cases b<;>simp[Aa.beqL]at h;rfl
 |x::r,b,h=>by
  cases b with
  |nil=>simp[Aa.beqL]at h
  |cons y s=>simp only[Aa.beqL,BY]at h;rw[beq_eq x y h.1,jr r s h.2]
end
mutual
inductive Ty where
 |bool
 |int (k:IntKind)
 |str
 |list (t:Ty)
 |arr (n:Nat) (t:Ty)
 |prod (ts:Rp)
inductive Rp where
 |one (t:Ty)
 |cons (t:Ty) (ts:Rp)
end
mutual
@[reducible] def Ty.D:Ty->Type
 | .bool=>Bool
 | .int _=>Int
 | .str=>List UInt8
 | .list t=>List t.D
 | .arr n t=>HA (n+1) t.D
 | .prod ts=>ts.D
@[reducible] def Rp.D:Rp->Type
 | .one t=>t.D
 | .cons t ts=>t.D×ts.D
end
mutual
def Ty.sz:Ty->Nat
 | .bool=>1
 | .int _=>1
 | .str=>1
 | .list _=>1
 | .arr n t=>(n+1)*t.sz
 | .prod ts=>ts.sz
def Rp.sz:Rp->Nat
 | .one t=>t.sz
 | .cons t ts=>t.sz+ts.sz
end
mutual
def Ty.enc:(t:Ty)->t.D->Aa
 | .bool,b=>.bool b
 | .int k,n=>.int k n
 | .str,s=>.str s
 | .list t,l=>.vs t.sz (l.map t.enc)
 | .arr n t,a=>.agg ((List.finRange (n+1)).flatMap λi=>(t.enc (a i)).cells)
 | .prod ts,x=>.agg (ts.cells x)
def Rp.cells:(ts:Rp)->ts.D->List Aa
 | .one t,x=>(t.enc x).cells
 | .cons t ts,x=>(t.enc x.1).cells++ts.cells x.2
end
mutual
theorem Ty.sz_pos: ∀t:Ty,0<t.sz
 | .bool=>g!
 | .int _=>by simp[Ty.sz]
 | .str=>g!
 | .list _=>by simp[Ty.sz]
 | .arr n t=>by simp only[Ty.sz];exact Nat.mul_pos (Nat.succ_pos n) t.sz_pos
 | .prod a=>by simp only[Ty.sz];exact a.sz_pos
theorem Rp.sz_pos: ∀a:Rp,0<a.sz
 | .one t=>by simp only[Rp.sz];exact t.sz_pos
 | .cons t a=>by simp only[Rp.sz];have:=t.sz_pos;omega
end
mutual
theorem Ty.enc_len: ∀(t:Ty) (x:t.D),(t.enc x).cells.length=t.sz
 | .bool,_=>rfl
 | .int _,_=>rfl
 | .str,_=>rfl
 | .list _,_=>rfl
 | .arr n t,a=>by
  show((List.finRange (n+1)).flatMap λi=>(t.enc (a i)).cells).length=(n+1)*t.sz;have: ∀l:List (Fin (n+1)),(l.flatMap λi=>(t.enc (a i)).cells).length=l.length*t.sz:=by
   intro l;induction l with
   |nil=>simp
   |cons x l b=>rw[ID,Ac,b,t.enc_len];simp[EW,Xn]
  rw[this,List.length_finRange]
 | .prod ts,x=>ts.cells_len x
theorem Rp.cells_len: ∀(a:Rp) (x:a.D),(a.cells x).length=a.sz
 | .one t,x=>by simp only[Rp.cells,Rp.sz];exact t.enc_len x
 | .cons t a,x=>by simp only[Rp.cells,Rp.sz,Ac];rw[t.enc_len,a.cells_len]
end
mutual
theorem Ty.enc_pure: ∀(t:Ty) (x:t.D),Pure (t.enc x)
 | .bool,_=>rfl
 | .int _,_=>rfl
 | .str,_=>rfl
 | .list t,l=>by unfold Pure;show Aa.idsAllL _ (l.map t.enc)=true;rw[Dr];intro v b;obtain⟨x,_,rfl⟩:=Br.1 b;exact t.enc_pure x
 | .arr n t,a=>by unfold Pure;show Aa.idsAllL _ ((List.finRange (n+1)).flatMap λi=>(t.enc (a i)).cells)=true;rw[Dr];intro v b;obtain⟨i,_,b⟩:=Hj.1 b;exact Uk (t.enc_pure _) v b
 | .prod ts,x=>by unfold Pure;show Aa.idsAllL _ (ts.cells x)=true;rw[Dr];exact ts.cells_pure x
theorem Rp.cells_pure: ∀(b:Rp) (x:b.D),∀v∈b.cells x,Pure v
 | .one t,x,v,a=>Uk (t.enc_pure x) v a
 | .cons t b,x,v,a=>by simp only[Rp.cells,An]at a;rcases a with a|a;exact Uk (t.enc_pure _) v a;exact b.cells_pure _ v a
end
def Ty.E(t:Ty):Rq t.D:=⟨t.sz,t.enc,t.sz_pos,t.enc_len,t.enc_pure⟩
mutual
def Ty.beq:Ty->Ty->Bool
 | .bool,.bool=>true
 | .int k,.int k'=>decide (k=k')
 | .str,.str=>true
 | .list t,.list t'=>t.beq t'
 | .arr n t,.arr n' t'=>Nat.beq n n'&&t.beq t'
 | .prod ts,.prod ts'=>ts.beq ts'
 |_,_=>false
def Rp.beq:Rp->Rp->Bool
 | .one t,.one t'=>t.beq t'
 | .cons t ts,.cons t' ts'=>t.beq t'&&ts.beq ts'
 |_,_=>false
end
mutual
theorem Ty.beq_eq: ∀(t a:Ty),t.beq a=true->t=a
 | .bool,a,h=>by cases a<;>simp[Ty.beq]at h;rfl
 | .int k,a,h=>by cases a<;>simp[Ty.beq]at h;rw[h]
 | .str,a,h=>by cases a<;>simp[Ty.beq]at h;rfl
 | .list t,a,h=>by cases a<;>simp[Ty.beq]at h;rw[t.beq_eq _ h]
 | .arr n t,a,h=>by cases a<;>simp[Ty.beq]at h;rw[h.1,t.beq_eq _ h.2]
 | .prod ts,a,h=>by cases a<;>simp[Ty.beq]at h;rw[ts.beq_eq _ h]
theorem Rp.beq_eq: ∀(t a:Rp),t.beq a=true->t=a
 | .one t,a,h=>by cases a<;>simp[Rp.beq]at h;rw[t.beq_eq _ h]
 | .cons t ts,a,h=>by cases a<;>simp[Rp.beq]at h;rw[t.beq_eq _ h.1,ts.beq_eq _ h.2]
end
def Ty.cast{t t':Ty}(h:t.beq t'=true)(x:t.D):t'.D:=Ty.beq_eq t t' h▸x
def cN{t a:Ty}(h:t.beq a=true)(x:t.D):a.enc (Ty.cast h x)=t.enc x:=by have:=Ty.beq_eq t a h;subst this;rfl
mutual
def Ty.zero:(t:Ty)->t.D
 | .bool=>false
 | .int _=>(0:Int)
 | .str=>([]:List UInt8)
 | .list t=>([]:List t.D)
 | .arr n t=>(HA.all t.zero:HA (n+1) t.D)
 | .prod ts=>ts.zero
def Rp.zero:(ts:Rp)->ts.D
 | .one t=>t.zero
 | .cons t ts=>(t.zero,ts.zero)
end
inductive Bz where
 |bl (b:Bool)
 |it (k:IntKind) (n:Int)
 |st (s:List UInt8)
 |ls (t:Ty) (l:List t.D)
 |ar (n:Nat) (t:Ty) (a:HA (n+1) t.D)
 |own (id ver:Nat) (t:Ty) (n:Nat)
 |nil
 |raw (v:Aa)
def Bz.w:Bz->Nat
 | .ar n t _=>(n+1)*t.sz
 |_=>1
def Bz.enc:Bz->List Aa
 | .bl b=>[.bool b]
 | .it k n=>[.int k n]
 | .st s=>[.str s]
 | .ls t l=>[.vs t.sz (l.map t.enc)]
 | .ar n t a=>((Ty.arr n t).enc a).cells
 | .own id _ t n=>[.sl id n t.sz 0 n]
 | .nil=>[.nils]
 | .raw v=>[v]
def Bz.one:Bz->Aa
 | .bl b=>.bool b
 | .it k n=>.int k n
 | .st s=>.str s
 | .ls t l=>.vs t.sz (l.map t.enc)
 | .ar n t a=>(Ty.arr n t).enc a
 | .own id _ t n=>.sl id n t.sz 0 n
 | .nil=>.nils
 | .raw v=>v
def lvs(cs:List Bz):List Aa:=cs.flatMap Bz.enc
def Bz.enc_len(x:Bz):x.enc.length=x.w:=by
 cases x with
 |ar n t a=>exact Ty.enc_len (.arr n t) a
 |_=>rfl
inductive TV where
 |c (x:Bz)
 |g (cs:List Bz)
 |aptr (id base n:Nat) (t:Ty) (i:Int) (off:Nat)
 |bptr (id ver:Nat) (t:Ty) (n:Nat) (i:Int) (off:Nat)
 |vw (id ver:Nat) (t:Ty) (n lo m:Nat)
 |vptr (cs:List Bz) (post:List Aa)
 |tup (vs:List TV)
def vwE(id n sz lo m:Nat):Aa:=
 if min m (n-lo)=0 then(if lo=0 then .sl id n sz 0 0 else .vs sz [])else .sl id n sz (lo*sz) (min m (n-lo))
mutual
def TV.enc:TV->Aa
 | .c x=>x.one
 | .g cs=>.agg (lvs cs)
 | .aptr id base _ t i off=>.ptr id 0 (base+i.toNat*t.sz+off)
 | .bptr id _ t n i off=>.ptr id n (i.toNat*t.sz+off)
 | .vw id _ t n lo m=>vwE id n t.sz lo m
 | .vptr cs post=>.vptr (lvs cs++post)
 | .tup vs=>.tup (TV.encL vs)
def TV.encL:List TV->List Aa
 |[]=>[]
 |v::r=>v.enc::TV.encL r
end
def rT: ∀l:List TV,TV.encL l=l.map TV.enc
 |[]=>rfl
 |v::r=>by simp only[TV.encL,Bl,rT r]
abbrev Bd:=List (Nat×TV)
inductive LS where
 |ready
 |busy
 |ret
 |exit (x:Nat)
def LS.st:LS->LoopState
 | .ready=>.ready
 | .busy=>.busy
 |_=>.done
def LS.pend:LS->Option Code
 | .ret=>some .ret
 | .exit x=>some (.exit x)
 |_=>none
def LS.beq:LS->LS->Bool
 | .ready,.ready=>true
 | .busy,.busy=>true
 | .ret,.ret=>true
 | .exit x,.exit y=>Nat.beq x y
 |_,_=>false
def LS.beq_eq{a b:LS}(h:a.beq b=true):a=b:=by cases a<;>cases b<;>simp only[LS.beq]at h<;>first|rfl|cases h|rw[DO h]
inductive Dt where
 |dead
 |live (ro:Bool) (cs:List Bz)
 |buf (ro:Bool) (t:Ty) (l:List t.D) (n ver:Nat)
 |lp (ro:Bool) (F:FuncId) (n:Nat) (env:Bd) (ps:Array Tmp) (a b:Code) (s:LS)
 |mp (ro:Bool) (k:IntKind) (t:Ty) (es:List (Int×t.D))
abbrev Ar:=List Dt
def B4(env:Bd):Env:=env.map λp=>(p.1,p.2.enc)
def Dt.enc:Dt->Fl
 | .dead=>.dead
 | .live _ cs=>.live 0 (lvs cs)
 | .buf _ t l n _=>.live n (t.E.cl l)
 | .lp _ _ n env ps a b s=>.lp ⟨n,B4 env,ps,a,b,s.st,s.pend⟩
 | .mp _ k t es=>.mp k (es.map λp=>(p.1,t.enc p.2))
def BK(H:Ar):A1:=H.map Dt.enc
def Ux:TV:=.c (.raw .any)
def Bd.get:Bd->Nat->TV
 |[],_=>Ux
 |(k,v)::r,t=>match Nat.beq k t with|true=>v|false=>Bd.get r t
def Bd.del(t:Nat):Bd->Bd
 |[]=>[]
 |(k,v)::r=>match Nat.beq k t with|true=>Bd.del t r|false=>(k,v)::Bd.del t r
def Bd.put(env:Bd)(t:Nat)(v:TV):Bd:=(t,v)::Bd.del t env
def Bd.putO(env:Bd):Option Nat->TV->Bd
 |some t,v=>env.put t v
 |none,_=>env
theorem beq_false(h:N≠n):Nat.beq N n=false:=by grind[Nat.eq_of_beq_eq_true]
theorem UN(env:Bd)(t:Nat):(B4 env).get t=(env.get t).enc:=by
 induction env with
 |nil=>simp[B4,Env.get,Bd.get,Ux,TV.enc,Bz.one]
 |cons p r a=>grind[B4,Env.get,Bd.get,Nat.beq_refl,beq_false]
theorem ACp(env:Bd)(t:Nat):B4 (Bd.del t env)=(B4 env).filter λp=>decide (p.1≠t):=by induction env<;>grind[Bd.del,B4,Nat.beq_refl,beq_false]
def iw(env:Bd)(t:Nat)(v:TV):B4 (env.put t v)=(B4 env).put t v.enc:=by simp only[Env.put,<-ACp];rfl
def Xa(env:Bd)(t:Option Nat)(v:TV):B4 (env.putO t v)=(B4 env).putO t v.enc:=by
 cases t with
 |none=>rfl
 |some t=>exact iw env t v
def ACk:Value->Bz
 | .bool b=>.bl b
 | .int k n=>.it k n
 | .string s=>.st s.data.toList
 | .pointer none=>.raw .nilp
 | .slice none 0 0=>.nil
 | .nilFunc=>.raw .nilf
 |_=>.raw .any
def cvT:Value->TV
 | .agg cs=>match cs.toList.all (·.oneCell')with|true=>.g (cs.toList.map ACk)|false=>Ux
 |v=>.c (ACk v)
def w6(v:Value):(ACk v).one=pZ v:=by
 cases v with
 |pointer p=>cases p<;>rfl
 |slice a l c=>
  cases a with
  |some _=>rfl
  |none=>
   match l,c with
   |0,0=>rfl
   |0,_+1=>rfl
   |_+1,_=>rfl
 |_=>rfl
theorem ACl(v:Value):(ACk v).enc=[pZ v]:=by
 cases v with
 |pointer p=>cases p<;>rfl
 |slice a l c=>
  cases a with
  |some _=>rfl
  |none=>
   match l,c with
   |0,0=>rfl
   |0,_+1=>rfl
   |_+1,_=>rfl
 |_=>rfl
theorem AEk(v:Value):(cvT v).enc=ABD v:=by
 cases v with
 |agg b=>
  simp only[cvT,ABD];cases h:b.toList.all (·.oneCell')with
  |false=>simp[Ux,TV.enc,Bz.one]
  |true=>simp only[TV.enc,lvs];induction b.toList<;>grind[ACl]
 |pointer p=>exact w6 (.pointer p)
 |slice a l c=>exact w6 (.slice a l c)
 |_=>rfl
def JK(env:Bd):Operand->TV
 | .tmp t=>env.get t
 | .const v=>cvT v
 | .global _=>Ux
 | .func f=>.c (.raw (.fn (.func f) [] []))
theorem K9(env:Bd)(x:Operand):BM (B4 env) x=(JK env x).enc:=by
 cases x with
 |tmp t=>exact UN env t
 |const v=>exact(AEk v).symm
 |global _=>rfl
 |func f=>rfl
def Wj:List Bz->Nat->Option (List Bz×List Bz)
 |ls,0=>some ([],ls)
 |[],_+1=>none
 |x::r,n+1=>
  match Nat.ble x.w (n+1)with
  |true=>match Wj r (n+1-x.w)with|some (a,b)=>some (x::a,b)|none=>none
  |false=>none
mutual
def Ty.lvs:(t:Ty)->t.D->List Bz
 | .bool,b=>[.bl b]
 | .int k,n=>[.it k n]
 | .str,s=>[.st s]
 | .list t,l=>[.ls t l]
 | .arr n t,a=>[.ar n t a]
 | .prod ts,x=>ts.lvs x
def Rp.lvs:(ts:Rp)->ts.D->List Bz
 | .one t,x=>t.lvs x
 | .cons t ts,x=>t.lvs x.1++ts.lvs x.2
end
def Bz.scalar:Bz->Bool
 | .ar .. =>false
 | .raw (.agg _)=>false
 |_=>true
def part(P:Program)(t:TypeId)(cs:List Bz)(off:Nat):Option TV:=
 match Wj cs off with
 |some (_,r)=>
  match tI P t with
  |some (true,n)=>match Wj r n with|some (a,_)=>some (.g a)|none=>none
  |some (false,_)=>match r with|x::_=>(match x.scalar with|true=>some (.c x)|false=>none)|[]=>none
  |none=>none
 |none=>none
section
variable {R:Type}
def okT(o:Option TV)(k:TV->Option R):Option R:=
 match o with
 |some v=>k v
 |none=>none
def ACQ(cs:List Bz)(base n:Nat)(t:Ty):Option (HA (n+1) t.D):=
 match Wj cs base with
 |some (_,.ar n' t' a::_)=>if h:(Ty.arr n' t').beq (Ty.arr n t)=true then some (Ty.cast h a)else none
 |_=>none
def bJ(H:Ar)(id ver:Nat)(t:Ty):Option (List t.D):=
 match H[id]? with
 |some (.buf _ t' l _ ver')=>match Nat.beq ver ver' with|true=>(if h:(Ty.list t').beq (Ty.list t)=true then some (Ty.cast h l)else none)|false=>none
 |_=>none
def Wi(H:Ar)(id:Nat):Option (List Bz):=
 match H[id]? with
 |some (.live _ cs)=>some cs
 |_=>none
def loadT(P:Program)(H:Ar)(t:TypeId)(v:TV)(k:TV->Option R):Option R:=
 match v with
 | .c (.raw (.ptr id 0 off))=>match Wi H id with|some cs=>okT (part P t cs off) k|none=>none
 | .vptr cs _=>okT (part P t cs 0) k
 | .aptr id base n te i off=>
  match Wi H id with
  |some cs=>match ACQ cs base n te with|some a=>(Gj a i).bind λe=>okT (part P t (te.lvs e) off) k|none=>none
  |none=>none
 | .bptr id ver te _ i off=>match bJ H id ver te with|some l=>(ix l i).bind λe=>okT (part P t (te.lvs e) off) k|none=>none
 |_=>none
def tvA:Aa->TV
 | .bool b=>.c (.bl b)
 | .int k n=>.c (.it k n)
 | .str s=>.c (.st s)
 |v=>.c (.raw v)
def okA(o:Option Aa)(k:TV->Option R):Option R:=
 match o with
 |some v=>k (tvA v)
 |none=>none
def eqT(as bs:List Bz):Bool:=tX (lvs as) (lvs bs)
def AGW(P:Program)(op:BinOp)(t:TypeId)(x y:TV)(k:TV->Option R):Option R:=
 match x,y with
 | .c (.it kx a),.c (.it ky b)=>
  match op with
  | .shl=>cond (decide (b<0)) none (k (.c (.it kx (kx.wrap (a*2^min b.toNat kx.bits)))))
  | .shr=>cond (decide (b<0)) none (k (.c (.it kx (a.fdiv (2^min b.toNat kx.bits)))))
  | .quo=>if kx=ky then cond (b==0) none (k (.c (.it kx (kx.wrap (a.tdiv b)))))else none
  | .rem=>if kx=ky then cond (b==0) none (k (.c (.it kx (a.tmod b))))else none
  |op=>if kx=ky then okA (oI op kx a b) k else none
 | .c (.bl a),.c (.bl b)=>
  match op with
  | .eql=>if kd P t= .bool then k (.c (.bl (a==b)))else none
  | .neq=>if kd P t= .bool then k (.c (.bl (!(a==b))))else none
  |_=>none
 | .c (.st a),.c (.st b)=>
  match op with
  | .add=>(sapp a b).bind λs=>k (.c (.st s))
  |op=>okA (vJ op a b) k
 | .g as,.g bs=>
  match ACb P t with
  |some ks=>
   if typed ks (lvs as)=true/\typed ks (lvs bs)=true then
    match op with
    | .eql=>k (.c (.bl (eqT as bs)))
    | .neq=>k (.c (.bl (!eqT as bs)))
    |_=>none
   else none
  |none=>none
 |_,_=>none
def unT(op:UnOp)(v:TV)(k:TV->Option R):Option R:=
 match v with
 | .c x=>okA (unV op x.one) k
 |_=>none
def ACh(P:Program)(H:Ar)(src dst:TypeId)(v:TV)(k:TV->Option R):Option R:=
 match v with
 | .c (.ls (.int .u8) l)=>if kd P dst= .str/\kd P src= .bytes then k (.c (.st (Ew l)))else none
 | .c (.own id ver (.int .u8) _)=>if kd P dst= .str/\kd P src= .bytes then(match bJ H id ver (.int .u8)with|some l=>k (.c (.st (Ew l)))|none=>none)else none
 | .c (.it kk n)=>okA (Wo P [] src dst (.int kk n)) k
 | .c (.st s)=>okA (Wo P [] src dst (.str s)) k
 |_=>none
def lm(P:Program)(H:Ar)(s f:Nat)(v:TV)(k:TV->Option R):Option R:=
 match fI P s f with
 |some (off,_,n)=>
  match Nat.beq n 0 with
  |true=>none
  |false=>
   match v with
   | .c (.raw (.ptr id 0 o))=>match Wi H id with|some _=>k (.c (.raw (.ptr id 0 (o+off))))|none=>none
   | .vptr cs post=>match Wj cs off with|some (_,r)=>k (.vptr r post)|none=>none
   | .aptr id base n te i o=>match Wi H id with|some _=>k (.aptr id base n te i (o+off))|none=>none
   | .bptr id ver te n i o=>match bJ H id ver te with|some _=>k (.bptr id ver te n i (o+off))|none=>none
   |_=>none
 |none=>none
def yp(P:Program)(s f:Nat)(v:TV)(k:TV->Option R):Option R:=
 match fI P s f,v with
 |some (off,t,_),.g cs=>okT (part P t cs off) k
 |_,_=>none
def mA(P:Program)(H:Ar)(t:TypeId)(v i:TV)(k:TV->Option R):Option R:=
 match i with
 | .c (.it _ i)=>
  match eI P t with
  |some (some len,_,sz)=>
   match v with
   | .c (.raw (.ptr id 0 off))=>
    match Wi H id with
    |some cs=>
     match Wj cs off with
     |some (_,.ar n te a::_)=>if len=n+1/\sz=te.sz then(Gj a i).bind λ_=>k (.aptr id off n te i 0)else none
     |_=>none
    |none=>none
   | .vptr (.ar n te a::r) post=>if len=n+1/\sz=te.sz then(Gj a i).bind λe=>k (.vptr (te.lvs e) ((((Ty.arr n te).enc a).cells.drop (i.toNat*te.sz+te.sz))++(lvs r++post)))else none
   |_=>none
  |some (none,_,sz)=>
   match v with
   | .c (.ls te l)=>if sz=te.sz then(ix l i).bind λe=>k (.vptr (te.lvs e) [])else none
   | .c (.own id ver te n)=>match bJ H id ver te with|some l=>(if sz=te.sz then(ix l i).bind λ_=>k (.bptr id ver te n i 0)else none)|none=>none
   |_=>none
  |none=>none
 |_=>none
def vN(P:Program)(e:TypeId)(sz:Nat)(cs:List Bz)(i:Int)(k:TV->Option R):Nat->Nat->Option R
 |0,_=>none
 |m+1,j=>cond (decide (i=Int.ofNat j)) (okT (part P e cs (j*sz)) k) (vN P e sz cs i k m (j+1))
def yw(P:Program)(t:TypeId)(v i:TV)(k:TV->Option R):Option R:=
 match i with
 | .c (.it _ i)=>
  match v with
  | .g [.ar n te a]=>
   match eI P t with
   |some (some len,e,sz)=>if len=n+1/\sz=te.sz then(Gj a i).bind λx=>okT (part P e (te.lvs x) 0) k else none
   |_=>none
  | .g cs=>
   match eI P t with
   |some (some len,e,sz)=>match Nat.ble len 16 with|true=>vN P e sz cs i k len 0|false=>none
   |_=>none
  | .c (.st s)=>if kd P t= .str then(six s i).bind λb=>k (.c (.it .u8 b))else none
  |_=>none
 |_=>none
def wk(d:Int):Option TV->Option Int
 |none=>some d
 |some (.c (.it _ n))=>some n
 |_=>none
def zh(P:Program)(H:Ar)(t:TypeId)(v:TV)(lo hi mx:Option TV)(k:TV->Option R):Option R:=
 match mx with
 |some _=>none
 |none=>
  match v with
  | .c (.st s)=>
   match wk 0 lo,wk s.length hi with
   |some l,some h=>if kd P t= .str then(RD s l h).bind λx=>k (.c (.st x))else none
   |_,_=>none
  | .c (.ls te xs)=>
   match wk 0 lo,wk xs.length hi,eI P t with
   |some l,some h,some (none,_,sz)=>if sz=te.sz then(YV xs l h).bind λx=>k (.c (.ls te x))else none
   |_,_,_=>none
  | .c (.own id ver te n)=>
   match bJ H id ver te with
   |some xs=>
    match wk 0 lo,wk xs.length hi,eI P t with
    |some l,some h,some (none,_,sz)=>if sz=te.sz then(YV xs l h).bind λ_=>k (.vw id ver te n l.toNat (h.toNat-l.toNat))else none
    |_,_,_=>none
   |none=>none
  |_=>none
def AGq(P:Program)(H:Ar)(t:TypeId)(v:TV)(k:TV->Option R):Option R:=
 match P.underlying t,v with
 |some .string,.c (.st s)=>k (.c (.it .i64 s.length))
 |some (.array n _),_=>k (.c (.it .i64 n))
 |some (.slice _),.c (.ls _ l)=>k (.c (.it .i64 l.length))
 |some (.slice _),.c (.own id ver te n)=>match bJ H id ver te with|some _=>k (.c (.it .i64 n))|none=>none
 |some (.slice _),.c .nil=>k (.c (.it .i64 0))
 |_,_=>none
def mmT(mx:Bool)(x y:TV)(k:TV->Option R):Option R:=
 match x,y with
 | .c (.it kx a),.c (.it _ b)=>k (.c (.it kx (if mx then(if b>a then b else a)else(if b<a then b else a))))
 |_,_=>none
def AGr(x y z:TV)(k:TV->Option R):Option R:=
 match x,y,z with
 | .c (.it kx a),.c (.it _ b),.c (.it _ c)=>k (.c (.it kx (if c<(if b<a then b else a)then c else(if b<a then b else a))))
 |_,_,_=>none
def TV.words:TV->Option (List Bz)
 | .c x=>match x.scalar&&x.one.solid with|true=>some [x]|false=>none
 | .g cs=>some cs
 |_=>none
mutual
def Ty.zlvs:(t:Ty)->List Bz
 | .bool=>[.bl false]
 | .int k=>[.it k 0]
 | .str=>[.st []]
 | .list _=>[.nil]
 | .arr n t=>[.ar n t (HA.all t.zero)]
 | .prod ts=>ts.zlvs
def Rp.zlvs:Rp->List Bz
 | .one t=>t.zlvs
 | .cons t ts=>t.zlvs++ts.zlvs
end
mutual
def zm(P:Program):Nat->TypeId->Option Ty
 |0,_=>none
 |d+1,t=>
  match P.underlying t with
  |some .bool=>some .bool
  |some (.int k)=>some (.int k)
  |some .string=>some .str
  |some (.slice e)=>(zm P d e).map Ty.list
  |some (.array (n+1) e)=>(zm P d e).map (Ty.arr n)
  |some (.struct fs)=>(AF7 P d fs.toList).map Ty.prod
  |_=>none
def AF7(P:Program):Nat->List Field->Option Rp
 |0,_=>none
 |_+1,[]=>none
 |d+1,[f]=>(zm P d f.type).map Rp.one
 |d+1,f::r=>match zm P d f.type,AF7 P d r with|some t,some ts=>some (.cons t ts)|_,_=>none
end
def ub:Aa->Bz
 | .bool b=>.bl b
 | .int k n=>.it k n
 | .str s=>.st s
 |v=>.raw v
def tO(P:Program)(t:TypeId):Option (List Bz):=
 match Yd P t with
 |some z=>
  match zm P 1000 t with
  |some ty=>match Aa.beqL z (lvs ty.zlvs)with|true=>some ty.zlvs|false=>some (z.map ub)
  |none=>some (z.map ub)
 |none=>none
def ABq(cs:List Bz)(off:Nat)(vs:List Bz)(n:Nat):Option (List Bz):=
 match Wj cs off with
 |some (a,r)=>match Wj r n with|some (_,b)=>some (a++(vs++b))|none=>none
 |none=>none
def AD6:List Bz->Nat
 |[]=>0
 |x::r=>x.w+AD6 r
def xD(p:Za):List Bz->List (Nat×TV)->Option (List Bz)
 |cs,[]=>some cs
 |cs,(i,v)::r=>
  match p.at_ i,v.words with
  |some (off,size),some ws=>
   match Nat.beq (AD6 ws) size with
   |true=>match ABq cs off ws size with|some cs'=>xD p cs' r|none=>none
   |false=>none
  |_,_=>none
def yj(P:Program)(t:TypeId)(parts:List (Nat×TV)):Option TV:=
 match tO P t,sw P t with
 |some z,some p=>(xD p z parts).map TV.g
 |_,_=>none
def qT:List TV->Option (List Aa)
 |[]=>some []
 | .c x::r=>match x.scalar,qT r with|true,some l=>some (x.one::l)|_,_=>none
 |_=>none
def quT(P:Program)(env:Bd)(H:Ar)(op:Op)(k:TV->Option R):Option R:=
 match op with
 | .move x| .assign x=>k (JK env x)
 | .pick c a b=>match JK env c with| .c (.bl t)=>cond t (k (JK env a)) (k (JK env b))|_=>none
 | .load t a=>loadT P H t (JK env a) k
 | .nilCheck x=>
  match JK env x with
  | .c (.raw (.ptr id 0 off))=>match Wi H id with|some _=>k (.c (.raw (.ptr id 0 off)))|none=>none
  | .c (.raw (.fn (.func f) a b))=>k (.c (.raw (.fn (.func f) a b)))
  | .vptr cs post=>k (.vptr cs post)
  | .aptr id base n te i off=>match Wi H id with|some _=>k (.aptr id base n te i off)|none=>none
  | .bptr id ver te n i off=>match bJ H id ver te with|some _=>k (.bptr id ver te n i off)|none=>none
  |_=>none
 | .binOp op t x y _=>AGW P op t (JK env x) (JK env y) k
 | .unOp op _ x=>unT op (JK env x) k
 | .convert s d x=>ACh P H s d (JK env x) k
 | .fieldAddr s x f=>lm P H s f (JK env x) k
 | .field s x f=>yp P s f (JK env x) k
 | .indexAddr t x i=>mA P H t (JK env x) (JK env i) k
 | .index t x i=>yw P t (JK env x) (JK env i) k
 | .slice t x lo hi mx=>zh P H t (JK env x) (lo.map (JK env)) (hi.map (JK env)) (mx.map (JK env)) k
 | .extract x i=>match JK env x with| .tup vs=>(match vs[i]? with|some v=>k v|none=>none)|_=>none
 | .makeFunc f a b=>match qT (a.toList.map (JK env)),qT (b.toList.map (JK env))with|some l,some m=>k (.c (.raw (.fn f l m)))|_,_=>none
 | .build t parts=>okT (yj P t (parts.toList.map λp=>(p.1,JK env p.2))) k
 | .call {callee:=.builtin .len,args:=⟨[x]⟩,argTypes:=⟨[t]⟩}=>AGq P H t (JK env x) k
 | .call {callee:=.builtin .max,args:=⟨[x,y]⟩,.. }=>mmT true (JK env x) (JK env y) k
 | .call {callee:=.builtin .min,args:=⟨[x,y]⟩,.. }=>mmT false (JK env x) (JK env y) k
 | .call {callee:=.builtin .min,args:=⟨[x,y,z]⟩,.. }=>AGr (JK env x) (JK env y) (JK env z) k
 |_=>none
end
end Go.Ab
