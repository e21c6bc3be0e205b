/- Texts of wip, joined and shortened by wip/tools/pack.py; nothing is assumed. -/
import Derived.Test.YtkgodfhnofpglaaGreatDoorK1
import Derived.Laws.MakeOwn
import Derived.RangeFuncNested
import Derived.Lib.ConvBytes
import Derived.Laws.AppendOwn
import Derived.Laws.IdiomRangeMap
noncomputable section
set_option linter.all false
open Option renaming some->D
open Go renaming Ψ->E
open Option renaming some->δ,none->ε
open Bool renaming true->ζ,false->η
open List renaming length->θ,replicate->ς
open Nat renaming beq->ξ
open Decidable renaming decide->τ
namespace Go.Ab
variable {b I H:TypeId}{N n:Nat}{d T:Operand}{g U:List AV}{R Y:Type}{P:Program}{q:Ap}{s:World}{c:Code}{i:Int}{u:Array (Nat×Operand)}{z:FuncId}{A:Env}{B:IntKind}{C:Nat→Prop}{v:AV}{h:Gh}{Q:Exit->Env->Ap->Prop}{y k:Cx}{X:Nat->Prop}{L:List UInt8}{o:Oper}{S:Bool}{V:List (Int×AV)}{W:AV→Ap→Prop}{Z:Option Nat}{a:Array Oper}{e:Act}{r:TypeDesc}{x:E5}{K:Value}
section
variable {P:Program}{N:Nat}{o:Oper}{env:Env}{H:Ap}{K:AV->Ap->Prop}
theorem o8{c:Call}
  (A:o.op=.call c) (m:c.callee=.value d) (G:BI env d=.fn (.func z) U g) (D_:Enters P z=ζ)
  (E:ET P z (nD env c U g) H K):JI P N o env H K:=by
 apply Ct (by rw[A];rfl);intro X h a w s Q;have k:=DY s.env d;rw[G]at k
 obtain⟨b,e,r,t,C,I,J⟩:∃b e,a.eval d=.func (.func z) b e∧b.size=θ U∧e.size=θ g∧
   (∀(j:Nat)(v:AV)(c:Value),U[j]?=δ v->b[j]?=δ c->Bi (cx X h H w) v c)/\(∀(j:Nat)(v:AV)(c:Value),g[j]?=δ v->e[j]?=δ c->Bi (cx X h H w) v c):=by
  generalize a.eval d=cf at k;cases k<;>grind
 have q:(execOp a.eval o).run P w=.ok (.enter z (b++c.args.map a.eval++e)) w:=by unfold execOp;rw[A];simp only[resolve,m,r,Deferred.ofValue,Sem.run_bind,Sem.run_pure,Result.andThen_ok,invoke,gR D_]
 unfold Oper.wp;rw[q];simp only[Oper.upon_enter];have i:∀(j:Nat)(v:AV)(F:Value),(nD env c U g)[j]?=δ v->(b++c.args.map a.eval++e)[j]?=δ F->Bi (cx X h H w) v F:=by
  intro j v F l n;unfold nD at l;rcases Ar j (θ U+c.args.size)with y|u;rw[CO w!]at l;rw[Xl w!]at n;rcases Ar j (θ U) with f|p
  grind;rw[Ce p,B6]at l;rw[rU o!,aw,t]at n;cases B:c.args[j-θ U]? with
  |none=>grind
  |some x=>rw[B]at n;rw[PX,B]at l;simp only[Bd,Al]at l n;subst l n;exact DY s.env x
  grind
 refine(E X h w _ s.sim ?_ i).mono ?_;simp[nD,t,C];grind
def Sc(P:Program)(env:Env)(t:TypeId)(len:Nat)(parts:Array (Nat×Operand)):Option (Nat×List AV):=
 match eI P t with
 |some (ε,e,sz)=>
  let vs:=parts.toList.map λp=>BI env p.2
  if 0<sz/\Ro P e=ζ/\parts.toList.map (·.1)=List.range len/\(vs.all λv=>v.solid&&τ (θ v.cells=sz))=ζ/\len<=4096/\sz<=4096 then δ (sz,vs)else ε
 |_=>ε
theorem U3{len sz:Nat}{vs:List AV}(c:o.op=.buildSlice b len u)(d:Sc P env b len u=δ (sz,vs))(t:K (.vs sz vs) H):JI P N o env H K:=by grind[Sc,JI.buildSlice]
theorem cJ{t:TypeId}{len sz:Nat}{f:Array (Nat×Operand)}{T:List AV}(ho:o.op=.buildSlice t len f)(r:Sc P env t len f=δ (sz,T))
  (hk:K (.sl (θ H) 0 sz 0 (θ T)) (H++[.live 0 (T.flatMap AV.cells)])):JI P N o env H K:=by
 unfold Sc at r;split at r
 case h_2=>cases r
 rename_i e y he;simp only at r;split at r
 case isFalse=>cases r
 rename_i L;obtain⟨a4,a2,F,a8,O⟩:=L;simp only[Al,EI]at r;obtain⟨rfl,a7⟩:=r;have al:∀v∈T,v.solid=ζ/\θ v.cells=y:=λv S=>by grind[List.all_eq_true]
 apply Ct (by rw[ho];rfl);intro X h a w s Q;obtain⟨ao,b,hi⟩:=QV he;obtain⟨i,z,G,_,hz,a9⟩:=Tq a2;have B:=km hi G;have hl:θ T=len:=by have k:=E! θ F;grind[θ]
 let A:List Value:=f.toList.map λp=>a.eval p.2;have V:θ A=len:=by grind[θ]
 have R:∀(j:Nat)(v:AV)(c:Value),T[j]?=δ v->A[j]?=δ c->Bi (cx X h H w) (.agg v.cells) (.agg c.cells)/\θ v.cells=y:=by
  intro j v c S L;have Z:=al v (BM S);refine⟨?_,Z.2⟩;subst a7;simp only[A,B6]at S L;cases r:f.toList[j]? with
  |none=>rw[r]at S;cases S
  |some p=>rw[r]at S L;simp only[Bd,Al]at S L;subst S L;exact WE (DY s.env p.2) Z.1
 have J:∀c∈A,c.cells.size=y:=by
  intro c L;obtain⟨j,g⟩:=Ci L;have Y:j<θ T:=by grind[Nat.lt_or_ge,List.getElem?_eq_none]
  obtain⟨k,n⟩:=R j _ c (As Y) g;cases k<;>grind
 have ap:(f.map λ(q:Nat×Operand)=>(q.1,a.eval q.2)).toList=(A.zipIdx 0).map λx=>(x.2,x.1):=by
  apply Is;intro j;simp only[Array.toList_map,B6,List.getElem?_zipIdx,DA,A];cases r:f.toList[j]? with
  |none=>rfl
  |some p=>
   have k:(f.toList.map (·.1))[j]?=δ p.1:=by rw[B6,r];rfl
   rw[F]at k;have Y:j<len:=by rcases Ar j len with n|n;exact n;rw[Cf (by simpa using n)]at k;cases k
   rw[Qz Y]at k;simp only[Al]at k;simp[k]
 have C:∀l:List Value,(∀c∈l,c.cells.size=y)->(l.flatMap λc=>c.cells.toList).length=θ l*y:=by
  intro l;induction l with
  |nil=>simp
  |cons c l ih=>intro hl;simp only[It,Af,Dk,hl c k!,ih (λd M=>hl d (CN _ M)),Cg,D5];omega
 have W:(A.flatMap λc=>c.cells.toList).length=len*y:=by rw[C A J,V]
 have I:∃D_:Array Value,(execOp a.eval o).run P w=.ok (.value (.slice (δ ⟨w.heap.size,0,ε⟩) len len)) {w with heap:=w.heap.push (.cells D_ e)}/\D_.toList=A.flatMap λc=>c.cells.toList:=by
  unfold execOp;rw[ho];by_cases h0:len=0;subst h0;have:A=[]:=EJ V;refine⟨#[],?_,by rw[this];rfl⟩;have r:f= #[]:=by have k:=E! θ F;simp at k;exact k
  simp[Instr.buildSlice,run_underlying ao,LD hi,r,Instr.fill,newRow,show Array.range 0= #[]from rfl];refine⟨(A.flatMap λc=>c.cells.toList).toArray,?_,rfl⟩;have af:¬len*i.size=0:=by rw[B];exact Nat.mul_ne_zero h0 o!
  have a3:¬len*i.size>2^24:=by rw[B];have:=lu O.1 O.2;omega
  have hf:=Go.Great.fill_whole (s:=y) a4 A ((Array.range (len*i.size)).map (z.cells[· %z.cells.size]!)) J (by simp[V,B]);have:=run_buildSlice (P:=P) w t e len (f.map λ(q:Nat×Operand)=>(q.1,a.eval q.2)) _ i z ao G hz a3 af (by rw[ap,B]at*;exact hf);simp only[Sem.run_bind];rw[show(f.map λx=>match x with|(i,x)=>(i,a.eval x))=(f.map λ(q:Nat×Operand)=>(q.1,a.eval q.2))from rfl,this];rfl
 obtain⟨D_,I,ad⟩:=I;unfold Oper.wp;rw[I,Oper.upon_value]
 have U:∀(l:List AV)(m:List Value),θ m=θ l→(∀(j:Nat)(v:AV)(c:Value),l[j]?=δ v→m[j]?=δ c→Bi (cx X h H w) (.agg v.cells) (.agg c.cells))→
   Bi (cx X h H w) (.agg (l.flatMap AV.cells)) (.agg (m.flatMap λc=>c.cells.toList).toArray):=by
  intro l;induction l with
  |nil=>intro m Z _;have:m=[]:=EJ (by simpa using Z);subst this;exact .agg rfl (λj c g=>by simp at g) λj v c g=>by simp at g
  |cons v l ih=>
   intro m Z hr;cases m with
   |nil=>simp at Z
   |cons c m=>
    have r0:=hr 0 v c rfl rfl;have r1:=ih m (by simpa using Z) λj v' c' k n=>hr (j+1) v' c' (by simpa using k) (by simpa using n);cases r0 with
    |agg ag ax a5=>
     cases r1 with
     |agg a1 a0 a6=>
      have e2:(m.flatMap λc=>c.cells.toList).length=(l.flatMap AV.cells).length:=by simpa using a1
      refine .agg (by simp[e2,ag]) (λj d g=>?_) λj u d g M=>?_;simp only[It,XU]at g;rcases Ar j c.cells.size with n|n;rw[CO (by simpa using n)]at g;exact ax j d (by simpa using g);rw[Ce (by simpa using n)]at g;exact a0 _ d (by simpa using g);simp only[It,XU]at g M;rcases Ar j c.cells.size with n|n;rw[CO (by simpa using n)]at M;rw[CO o!]at g;exact a5 j u d g (by simpa using M);rw[Ce (by simpa using n)]at M;rw[Ce o!]at g;rw[Dk,ag]at M;exact a6 _ u d g (by simpa using M)
 have ar:=U T A o! λj v c k n=>(R j v c k n).1;have E:D_=(A.flatMap λc=>c.cells.toList).toArray:=by rw[<-ad]
 have hh:=P1 ar;rw[<-E]at hh;refine⟨_,_,_,_,rfl,hk,.sl (by simp[cx]) (by simp[cx,Gh.at_]) ⟨_,_,by rw[hl]⟩ λ_=>.inr ⟨w.heap.size,len,by simp[cx,Gh.at_],o!,?_,by rw[hl]⟩,s.sim.push D_ e (0,0) _ hh,Gq.push _ _ _⟩;simp only[cx,Gh.at_,if_true,E,dm,W];omega
theorem lC{U:IntKind}{c:Int}{sz:Nat}(ho:o.op=.makeSlice b d T)(he:eI P b=δ (ε,I,sz))(ao:0<sz)(M:Ro P I=ζ)(hz:YZ P I=δ g)(R:θ g=sz)
  (hx:BI env d=.int B i) (hy:BI env T=.int U c) (h0:0<=i) (h1:i<=c) (h2:c<=16777216) (hk:K (.sl (θ H) 0 sz 0 i.toNat) (H++[.live 0 (ς i.toNat g).flatten])):JI P N o env H K:=by
 apply Ct (by rw[ho];rfl);intro X h a w s Q;obtain⟨O,y,hi⟩:=QV he;obtain⟨t,zv,V,ad,e,S⟩:=Tq M;have k:=km hi V;obtain⟨n,x,ag,ap,D_⟩:=da (cx X h H w) hz;have:n=t:=by grind[Option.some.inj]
 subst this;have:x=zv:=by grind[Option.some.inj]
 subst this;have W:=DY s.env d;have Y:=DY s.env T;rw[hx]at W;rw[hy]at Y;have ex:a.eval d=.int B i:=by generalize a.eval d=q at W;cases W;rfl
 have ey:a.eval T=.int U c:=by generalize a.eval T=q at Y;cases Y;rfl
 have F:(n.bytes:Int)*c<=281474976710656:=by have:(n.bytes:Int)*c<=1048576*16777216:=Int.mul_le_mul o! h2 o! o!;omega
 have Z:=run_make (P:=P) w b I n x O V e B U i c h0 h1 F o!;have G:(execOp a.eval o).run P w=.ok (.value (.slice (δ ⟨w.heap.size,0,ε⟩) i.toNat c.toNat)) (w.alloc (.cells (madeCells x.cells (c.toNat*n.size)) I)):=by unfold execOp;grind[Sem.run_bind,Result.andThen_ok,Sem.run_pure]
 unfold Oper.wp;rw[G,Oper.upon_value];have p:x.cells.size=sz:=by rw[S,k]
 have hh:Holds (cx X h H w) (ς i.toNat g).flatten (madeCells x.cells (c.toNat*n.size)) (0,0):=by
  have z:(ς i.toNat g).flatten.length=i.toNat*sz:=by simp[R]
  have A:i.toNat*sz<=c.toNat*n.size:=by rw[k];exact Mu _ o!
  have l:∀(m j:Nat),j<m*sz->(ς m g).flatten[j]?=g[j%sz]? :=by
   intro m;induction m with
   |zero=>intro j E;omega
   |succ m ih=>intro j E;rw[lq,oX];rcases Ar j sz with al|af;grind[List.getElem?_append_left,Nat.mod_eq_of_lt];grind[List.getElem?_append_right,Nat.add_mul,Nat.mod_eq_sub_mod]
  refine⟨λj=>x.cells.getD (j%sz) undef,by rw[z,size_madeCells];exact A,λ_ _=>k!,λj v E=>?_⟩;have C:j<i.toNat*sz:=by grind[Nat.lt_or_ge,List.getElem?_eq_none]
  rw[l _ _ C]at E;have u:j%sz<x.cells.size:=by grind[Nat.mod_lt]
  have f:x.cells[j%sz]?=δ (x.cells[j%sz]'u):=Nr u;have J:x.cells.getD (j%sz) undef=x.cells[j%sz]'u:=by rw[QS,f];rfl
  have r:(madeCells x.cells (c.toNat*n.size))[j]?=δ (x.cells[j%sz]'u):=by
   unfold madeCells;rw[aw,Array.getElem?_range,C! (C2 C A)];have L:j%x.cells.size<x.cells.size:=by rw[p];rw[p]at u;exact u
   rw[Bd,getElem!_pos x.cells _ L];simp only[p]
  simp only[J];cases D_ with
  |agg q1 q2 q3=>exact⟨r,q2 _ _ f,q3 _ _ _ E f⟩
 refine⟨_,_,_,_,rfl,hk,.sl (by simp[cx]) (by simp[cx,Gh.at_]) ⟨_,_,rfl⟩ λ_=>.inr ⟨w.heap.size,c.toNat,by simp[cx,Gh.at_],o!,?_,rfl⟩,s.sim.push _ I (0,0) _ hh,Gq.push _ _ _⟩;simp[cx,Gh.at_,size_madeCells,k]
end
section
variable {X:Nat->Prop}{h:Gh}{H:Ap}{w:World}
def IC.loopSet(s:IC X h H w){L:lK}{r:Loop}(g:H[N]?=δ (.lp L))(f:h.io N=δ n)(C:w.heap[n]?=δ (.loop r))(st:LoopState)(p:Option Code):
  IC X h (H.set N (.lp {L with state:=st,pending:=p})) (w.putObj n (.loop {r with state:=st,pending:=p}))/\Gq h H w h (H.set N (.lp {L with state:=st,pending:=p})) (w.putObj n (.loop {r with state:=st,pending:=p})):=by
 have d:N<θ H:=by rcases Ar N (θ H) with c|c;exact c;rw[Cf c]at g;cases g
 have D_:Gq h H w h (H.set N (.lp {L with state:=st,pending:=p})) (w.putObj n (.loop {r with state:=st,pending:=p})):=by refine⟨rfl,rfl,rfl,k!,λk M hn=>?_,k!,λ_ _=>Ai _,λ_ _ _=>⟨rfl,rfl⟩,λk B=>?_,λk y O=>?_⟩;refine World.putObj_heap_other λe=>?_;subst e;exact hn ⟨N,_,g,k!,f⟩;obtain⟨i,e,l,j,c⟩:=B;rcases JH d l with⟨G,b⟩|⟨rfl,_⟩;exact .inl ⟨i,e,b,j,c⟩;exact .inl ⟨i,_,g,k!,c⟩;by_cases e:k=n;subst e;exact⟨_,World.putObj_heap_same (qw C)⟩;exact⟨y,by rw[World.putObj_heap_other e,O]⟩
 refine⟨s.of_ext D_ (λi e l j=>?_) (λi P z A k l c u x T o=>?_),D_⟩;rcases JH d l with⟨G,b⟩|⟨rfl,rfl⟩;refine .inl ⟨b,rfl,rfl,rfl,λE a=>World.putObj_heap_other λe=>?_⟩;subst e;exact G (s.inj i N _ _ E b g j k! a f);obtain⟨K,E,S,a,q,l,c,T,o,I,J,F⟩:=s.lp i L g;rw[show(cx X h H w).io i=h.io i from rfl,f]at a;injection a with e;subst e;rw[show(cx X h H w).w.heap=w.heap from rfl,C]at q;injection q with e;injection e with e;subst e;refine .inr (.inr ⟨_,rfl,K,n,_,f,World.putObj_heap_same (qw C),rfl,rfl,T,o,I,J,λt v m=>⟨(F t v m).1,(F t v m).2.later (D_.later X)⟩⟩);rcases JH d l with⟨Q,z⟩|⟨rfl,_⟩<;>rcases JH d c with⟨R,A⟩|⟨rfl,_⟩;exact s.inj _ _ _ _ k z A u x T o;exact s.inj _ _ _ _ k z g u k! T o;exact s.inj _ _ _ _ k g A k! x T o;rfl
def IC.kill(s:IC X h H w)(a:N<θ H):IC X h (H.set N .dead) w/\Gq h H w h (H.set N .dead) w:=by
 have n:Gq h H w h (H.set N .dead) w:=by refine⟨rfl,rfl,rfl,Ai _,λk r hn=>rfl,k!,λ_ _=>Ai _,λ_ _ _=>⟨rfl,rfl⟩,λk t=>?_,λk y u=>⟨y,u⟩⟩;obtain⟨i,e,d,b,j⟩:=t;rcases JH a d with⟨q,c⟩|⟨rfl,rfl⟩;exact .inl ⟨i,e,c,b,j⟩;exact(b rfl).elim
 refine⟨s.of_ext n (λi e d b=>?_) (λi x l m k d j f g o p=>?_),n⟩;rcases JH a d with⟨q,c⟩|⟨rfl,rfl⟩;exact .inl ⟨c,rfl,rfl,rfl,λv _=>rfl⟩;exact(b rfl).elim;rcases JH a d with⟨z,l⟩|⟨rfl,rfl⟩;rcases JH a j with⟨A,m⟩|⟨rfl,rfl⟩;exact s.inj _ _ _ _ k l m f g o p;exact(g rfl).elim;exact(f rfl).elim
end
def RI:Env->List Tmp->List AV->Env
 |env,t::ts,v::vs=>RI (env.put t v) ts vs
 |env,_,_=>env
theorem lX{x:Cx}:∀(d:List Tmp)(e:List AV)(b:List Value)(env:Env)(a:Act),(∀t∈d,t<a.tmps.size)→θ b=θ e→
  (∀(j:Nat)(v:AV)(c:Value),e[j]?=δ v->b[j]?=δ c->Bi x v c)->OT x env a->
  OT x (RI env d e) {a with tmps:=(d.zip b).foldl (λ(tmps:Array Value)(q:Tmp×Value)=>tmps.setIfInBounds q.1 q.2) a.tmps}
 |[],e,b,env,a,_,_,_,h=>by simpa[RI]using h
 |t::d,[],b,env,a,_,hl,_,h=>by have:b=[]:=EJ q!;subst this;simpa[RI]using h
 |t::d,v::e,c::b,env,a,ht,hl,hr,h=>by
  have f:=h.put (ht t k!) (hr 0 v c rfl rfl);exact lX d e b (env.put t v) (a.put (δ t) c) (λu i=>by rw[dS];exact ht u (CN _ i)) q!
   (λj k g f l=>hr (j+1) k g q! q!) f
def jY:∀(l:List (Tmp×Value))(a:Array Value),(l.foldl (λ(tmps:Array Value)(q:Tmp×Value)=>tmps.setIfInBounds q.1 q.2) a).size=a.size
 |[],a=>rfl
 |q::l,a=>by rw[kJ,jY l];simp
def AD9(id:Nat)(K:AV->Ap->Prop):Exit->Env->Ap->Prop
 |.normal,_,H=>∃L,H[id]?=δ (.lp L)/\K (.bool ζ) (H.set id (.lp {L with state:=.ready,pending:=ε}))
 |.ret,_,H=>∃L,H[id]?=δ (.lp L)/\K (.bool η) (H.set id (.lp {L with state:=.done,pending:=δ .ret}))
 |.exit k,_,H=>∃L,H[id]?=δ (.lp L)/\K (.bool η) (H.set id (.lp {L with state:=.done,pending:=δ (.exit k)}))
 |_,_,_=>False
section
variable {P:Program}{N:Nat}{o:Oper}{env:Env}{H:Ap}{K:AV->Ap->Prop}
theorem JI.yield{c:Call}{L:lK}(ho:o.op=.call c)(T:c.callee=.value d)(hf:BI env d=.yf n)(he:H[n]?=δ (.lp L))
  (hn:c.args.size=L.params.size) (a5:(L.params.toList.all λt=>decide (t<L.n))=ζ)
  (hw:JU P L.n L.assign (RI L.env L.params.toList (c.args.toList.map (BI env))) H λe env1 H1=>e=.normal/\∃A,H1[n]?=δ (.lp A)/\A.state=.ready/\JU P L.n L.body env1 (H1.set n (.lp {A with state:=.busy})) (AD9 n K)):JI P N o env H K:=by
 intro ro X h a w s Q;obtain⟨hg,B,r,F,hb,h1,h2,h3,h4,h5,h6,h7⟩:=s.sim.lp n L he;have F:h.io n=δ B:=F;have hb:w.heap[B]?=δ (.loop r):=hb;have G:=DY s.env d;rw[hf]at G;have al:a.eval d=.func (.yield B) #[] #[]:=by generalize a.eval d=cf at G;cases G<;>grind
 have ad:(execOp a.eval o).run P w=.ok (.round B r.fn ((r.params.zip (c.args.map a.eval)).foldl (λtmps (t,a)=>tmps.setIfInBounds t a) r.tmps) r.assign r.body) w:=by unfold execOp;rw[ho];simp only[resolve,T,al,Deferred.ofValue,Sem.run_bind,Sem.run_pure,Result.andThen_ok,invoke];rw[show(#[]++c.args.map a.eval:Array Value)=c.args.map a.eval by simp];exact run_yield hb (by rw[Array.size_map,hn,h3])
 refine⟨λ_ _=>O!,?_⟩;rw[Oper.semAt_eq _ _ _ (λc hc=>by rw[ho]at hc;cases hc),ad,Oper.uponIn_round];refine⟨(λh=>by cases h),?_⟩;let R:Ending->World->Prop:=λe M=>∃c v y S,e=.returned c/\K v S/\Bi (cx X y S M) v c/\IC X y S M/\Gq h H w y S M;refine RoundIn.mono (R:=R) ?_ (by rintro e M ⟨c',v,y,S,rfl,k,hv,hs,hx⟩;exact⟨c',v,y,S,rfl,k,hv,hs,hx⟩);apply roundIn_of_wpIn trivial;have a3:((r.params.zip (c.args.map a.eval)).foldl (λtmps (t,a)=>tmps.setIfInBounds t a) r.tmps)=((L.params.toList.zip (c.args.toList.map a.eval)).foldl (λ(tmps:Array Value)(q:Tmp×Value)=>tmps.setIfInBounds q.1 q.2) r.tmps):=by grind[Array.toList_zip,Array.toList_map]
 rw[a3,h4,h5];have af:St X h L.n (RI L.env L.params.toList (c.args.toList.map (BI env))) H {tmps:=(L.params.toList.zip (c.args.toList.map a.eval)).foldl (λ(tmps:Array Value)(q:Tmp×Value)=>tmps.setIfInBounds q.1 q.2) r.tmps,defers:=[]} w:=by
  refine⟨s.sim,?_,by rw[jY,h6]⟩;refine lX (x:=cx X h H w) L.params.toList (c.args.toList.map (BI env)) (c.args.toList.map a.eval) L.env {tmps:=r.tmps,defers:=[]} (λt ht=>?_) k! (λj v f hj hd=>?_) (λt v m=>⟨by rw[h6];exact(h7 t v m).1,(h7 t v m).2⟩);grind;rw[B6]at hj hd;cases hx:c.args.toList[j]? with
  |none=>grind
  |some x=>rw[hx]at hj hd;simp only[Bd,Al]at hj hd;subst hj hd;exact DY s.env x
 refine wpIn_mono (hw (δ B) X h _ w af λl e=>by injection e with e;subst e;exact⟨r,hb⟩) ?_;rintro e a1 w1 ⟨y,env1,H1,⟨rfl,A,U,a0,E⟩,s1,x1,_⟩;obtain⟨W,O,r1,g,p,I,J,q3,q4,q5,q6,q7⟩:=s1.sim.lp n A U;have g:y.io n=δ O:=g;have p:w1.heap[O]?=δ (.loop r1):=p;have Y:n<θ H:=by rcases Ar n (θ H) with h2|h2;exact h2;grind[List.getElem?_eq_none]
 have eB:O=B:=by have:=(x1.same n Y (by rw[show y.gen n=0 from W,show h.gen n=0 from hg])).1;rw[g,F]at this;injection this
 subst eB;obtain⟨ar,ag⟩:=s1.sim.loopSet U g p .busy A.pending;have ap:({r1 with state:=.busy}:Loop)={r1 with state:=.busy,pending:=A.pending}:=by rw[<-J]
 refine⟨_,run_beginRound p (by rw[I,a0]),?_⟩;rw[ap];refine wpIn_mono (E (δ O) X y a1 _ ⟨ar,s1.env.later (ag.later X),s1.size⟩ λl e=>by injection e with e;subst e;exact⟨_,World.putObj_heap_same (qw p)⟩) ?_;rintro e a2 w2 ⟨D_,env2,H2,q,s2,x2,_⟩
 have C:∀(b:Option Code)(u:lK),H2[n]?=δ (.lp u)→K (.bool b.isNone) (H2.set n (.lp {u with state:=if b.isNone then .ready else .done,pending:=b}))→
   ∃v M,(Instr.endRound O b).run P w2=.ok v M/\R (.returned v) M:=by
  intro b u V hk;obtain⟨ao,B2,r2,i,z,p1,p2,p3,p4,p5,p6,p7⟩:=s2.sim.lp n u V;have i:D_.io n=δ B2:=i;have z:w2.heap[B2]?=δ (.loop r2):=z;have Z:n<θ H1:=C2 Y x1.n;have eB:B2=O:=by have:=(x2.same n (by simpa using Z) (by rw[show D_.gen n=0 from ao,show y.gen n=0 from W])).1;rw[i,g]at this;injection this
  subst eB;obtain⟨ax,a4⟩:=s2.sim.loopSet V i z (if b.isNone then .ready else .done) b;exact⟨_,_,run_endRound b z,_,_,D_,_,rfl,hk,.bool _,ax,((x1.trans ag).trans x2).trans a4⟩
 cases e with
 |normal=>obtain⟨u,I,J⟩:=q;exact C ε u I J
 |ret=>obtain⟨u,I,J⟩:=q;exact C (δ .ret) u I J
 |exit k=>obtain⟨u,I,J⟩:=q;exact C (δ (.exit k)) u I J
 |_=>exact q.elim
end
section
variable {P:Program}{N:Nat}{env:Env}{H:Ap}{Q:Exit->Env->Ap->Prop}
def AD3(P:Program)(N:Nat)(env:Env)(id:Nat)(Q:Exit->Env->Ap->Prop)(H:Ap):Prop:=
 ∃L,H[id]?=δ (.lp L)/\L.state≠.busy/\(match L.pending with
  |none=>Q .normal env (H.set id .dead)
  |some c=>JU P N c env (H.set id .dead) Q)
def zL{args:Array Value}{R:Ending->World->Prop}(h:Calls P z args s R):CallsIn (FR Z) n P z args s R:=by
 have a:CallsIn Fence.wide n P z args s R:=callsIn_wide.2 h;cases Z with
 |none=>exact a
 |some l=>exact a
theorem lB{f:Operand}{z:Array Tmp}{assign body:Code}{first o:List AV}{G:FuncId}(env0:Env)(ag:∀p∈env0,p∈env)(hf:BI env f=.fn (.func G) first o)(hE:Enters P G=ζ)
  (U:ET P G (first++[.yf (θ H)]++o) (H++[.lp ⟨N,env0,z,assign,body,.ready,ε⟩]) λ_ E=>AD3 P N env (θ H) Q E):JU P N (.rangeFunc f z assign body) env H Q:=by
 intro r X h a w s k;have Y:=DY s.env f;rw[hf]at Y
 obtain⟨b,g,al,n1,n2,ar,ax⟩:∃b g,a.eval f=.func (.func G) b g∧b.size=θ first∧g.size=θ o∧
   (∀(j:Nat)(v:AV)(c:Value),first[j]?=δ v->b[j]?=δ c->Bi (cx X h H w) v c)/\(∀(j:Nat)(v:AV)(c:Value),o[j]?=δ v->g[j]?=δ c->Bi (cx X h H w) v c):=by
  generalize a.eval f=cf at Y;cases Y<;>grind
 have main:∀(i:World)(u:Loop)(mark:List Deferred),IC X h H i→Gq h H w h H i→u.state=.ready→u.pending=ε→u.tmps=a.tmps→u.params=z→u.assign=assign→u.body=body→mark.Nodup→
   (∀d∈mark,∃D_,d={target:=.collected D_,args:= #[]}/\w.heap.size<=D_/\i.heap[D_]?=δ (.deferred (δ [])))->
   CallsIn (FR r) (0-1) P G (b++ #[.func (.yield i.heap.size) #[] #[]]++g) (i.alloc (.loop u))
    (rangePost (FR r) 0 P i.heap.size (λe a' Z=>∃I F E,Q e F E/\St X I N F E a' Z/\Gq h H w I E Z/\VJ a w a' Z) {a with defers:=mark++a.defers}):=by
  intro i u mark s0 C e1 e2 e3 e4 e5 e6 ao V;have xp:=Gq.push (h:=h) (H:=H) (w:=i) (.loop u) 0 (.lp ⟨N,env0,z,assign,body,.ready,ε⟩);have sp:=s0.push_any (.loop u) 0 (.lp ⟨N,env0,z,assign,body,.ready,ε⟩) λ_=>.inr ⟨_,rfl,by simp[cx,Gh.at_],i.heap.size,u,by simp[cx,Gh.at_],by show(i.heap.push (.loop u))[i.heap.size]?=_;simp,e1,e2,e4,e5,e6,by rw[e3];exact s.size,λt v m=>by obtain⟨m1,m2⟩:=s.env t v (ag _ m);refine⟨by rw[<-s.size];exact m1,?_⟩;rw[e3];exact m2.later ((C.trans xp).later X)⟩;have ea:i.alloc (.loop u)={i with heap:=i.heap.push (.loop u)}:=rfl;rw[ea];generalize a3:({i with heap:=i.heap.push (.loop u)}:World)=W1 at xp sp;generalize a4:h.at_ (θ H) (δ i.heap.size) 0 0=g1 at xp sp;have R:g1.gen (θ H)=0/\g1.io (θ H)=δ i.heap.size:=by grind[Gh.at_]
  have hl:=(C.trans xp).later X;have ap:(b++ #[Value.func (.yield i.heap.size) #[] #[]]++g).size=(first++[AV.yf (θ H)]++o).length:=by simp[n1,n2];omega
  have S:∀(j:Nat)(v:AV)(c:Value),(first++[AV.yf (θ H)]++o)[j]?=δ v->(b++ #[Value.func (.yield i.heap.size) #[] #[]]++g)[j]?=δ c->Bi (cx X g1 (H++[.lp ⟨N,env0,z,assign,body,.ready,ε⟩]) W1) v c:=by
   intro j v c J y;rcases Ar j (θ first+1)with a2|a0;rw[CO w!]at J;rw[Xl w!]at y;rcases Ar j (θ first) with af|a1
   rw[CO af]at J;rw[Xl o!]at y;exact(ar j v c J y).later hl;have:j=θ first:=o!
   subst this;rw[Ce (Ai _),Gi]at J;rw[rU o!,n1,Gi]at y;simp at J y;subst J y;exact .yf (by simp[cx]) rfl λ_=>⟨i.heap.size,R.2,rfl⟩
   rw[Ce w!]at J;rw[rU w!]at y;refine(ax _ v c ?_ y).later hl;simpa[n1]using J
  have hC:=U X g1 W1 _ sp ap S;apply (zL hC).mono;rintro e Z ⟨c,v,I,E,rfl,⟨L,hL,T,hQ⟩,sc,rv,x⟩;obtain⟨hg,B,M,A,hb,q1,q2,q3,q4,q5,q6,q7⟩:=sc.lp (θ H) L hL;have A:I.io (θ H)=δ B:=A;have hb:Z.heap[B]?=δ (.loop M):=hb;have eB:B=i.heap.size:=by have:=(x.same (θ H) k! (by rw[show I.gen (θ H)=0 from hg,R.1])).1;rw[A,R.2]at this;injection this
  subst eB;obtain⟨s2,x2⟩:=sc.loopSet hL A hb .exhausted M.pending;have ad:θ H<(E.set (θ H) (.lp {L with state:=.exhausted,pending:=M.pending})).length:=by have:=x.n;simp at this⊢;omega
  obtain⟨s3,x3⟩:=s2.kill ad;rw[Xf]at s3 x3;have O:=((xp.trans x).trans x2).trans x3;have st:St X I N env (E.set (θ H) .dead) {a with defers:=mark++a.defers} (Z.putObj i.heap.size (.loop {M with state:=.exhausted,pending:=M.pending})):=⟨s3,λt v m=>⟨(s.env t v m).1,(s.env t v m).2.later ((C.trans O).later X)⟩,s.size⟩
  have df:VJ a w {a with defers:=mark++a.defers} (Z.putObj i.heap.size (.loop {M with state:=.exhausted,pending:=M.pending})):=by refine⟨mark,rfl,ao,λd hd=>?_⟩;obtain⟨D_,h1,h2,h3⟩:=V d hd;exact⟨D_,h1,h2,O.defs s0 h3⟩
  refine⟨M.pending,_,run_endLoop hb (by rw[q1];exact T),?_⟩;rw[q2]at*;cases hp:L.pending with
  |none=>rw[hp]at hQ st df O;exact⟨I,env,_,hQ,st,C.trans O,df⟩
  |some cd=>rw[hp]at hQ st df O s3;apply wpIn_mono (hQ r X I _ _ st (k.later (C.trans O)));rintro e' a' a5 ⟨h2,env2,H2,q,s',x',d'⟩;exact⟨h2,env2,H2,q,s',(C.trans O).trans x',df.trans s3 (C.trans O) x' d'⟩
 have K:∀(l:Nat)(W:World),(resolve a.eval (rangeCall f l) 0).run P W=.ok {target:=.fn (.func G) g,args:=b++ #[.func (.yield l) #[] #[]]} W:=by intro l W;have y:a.eval (.const (.func (.yield l) #[] #[]))=.func (.yield l) #[] #[]:=rfl;simp[resolve,al,y,Deferred.ofValue]
 refine wpIn_rangeFunc λfn _=>?_;cases r with
 |none=>
  have C:Gq h H w h H (w.alloc (.deferred (δ []))):=Gq.grow rfl rfl rfl (by show _<=(w.heap.push _).size;simp) λk hk=>by show(w.heap.push _)[k]?=_;grind
  have s0:IC X h H (w.alloc (.deferred (δ []))):=s.sim.grow rfl rfl rfl (by show _<=(w.heap.push _).size;simp) λk hk=>by show(w.heap.push _)[k]?=_;rw[TC,D! o!]
  have hm:=main (w.alloc (.deferred (δ []))) {state:=.ready,pending:=ε,fn,tmps:=a.tmps,params:=z,assign,body,defers:=w.heap.size} [{target:=.collected w.heap.size,args:= #[]}] s0 C rfl rfl rfl rfl rfl rfl k! λd hd=>by simp only[A7]at hd;exact⟨w.heap.size,hd,Ai _,World.alloc_heap_new w _⟩
  rw[World.size_alloc]at hm;exact⟨_,_,_,_,_,_,_,_,run_enterLoop_outer fn a.tmps z assign body,K _ _,λ_ _=>O!,by simp only[invoke];exact gR hE _ _,(λh=>by cases h),hm⟩
 |some l=>
  obtain⟨x,hx⟩:=k l rfl;have hm:=main w {state:=.ready,pending:=ε,fn,tmps:=a.tmps,params:=z,assign,body,defers:=x.defers} [] s.sim (Gq.refl _ _ _) rfl rfl rfl rfl rfl rfl k! λd hd=>by cases hd
  exact⟨_,_,_,_,_,_,_,_,run_enterLoop_inner hx fn a.tmps z assign body,K _ _,λ_ _=>O!,by simp only[invoke];exact gR hE _ _,(λh=>by cases h),hm⟩
end
def isQ:Op->Bool
 |.move _|.assign _|.pick .. |.load .. |.nilCheck _|.binOp .. |.unOp .. |.convert .. |.fieldAddr .. |.field .. |.indexAddr .. |.index .. |.slice .. |.extract .. |.makeFunc .. |.build .. =>ζ
 |.call c=>match c.callee with|.builtin .len=>ζ|.builtin .max=>ζ|.builtin .min=>ζ|_=>η
 |_=>η
abbrev AHn:=FuncId->List AV->Ap->Option (AV×Ap)
abbrev AHo:=Nat->Code->Env->Ap->Option (Exit×Env×Ap)
def wH(P:Program)(env:Env)(H:Ap)(op:Op):Option AV:=
 match op with
 |.buildSlice t len parts=>match Sc P env t len parts with|some (sz,vs)=>δ (.vs sz vs)|none=>ε
 |op=>CT P env H op
def dq(op:Op):Bool:=match op with|.buildSlice .. =>ζ|op=>isQ op
def wh(ops:Array Oper)(m:List Nat):Nat->List Nat->List Nat
 |0,_=>[]
 |n+1,left=>
  let rdy:=left.filter λi=>left.all λp=>p==i|| !PC m p i
  let qs:=rdy.filter λi=>match ops[i]? with|some o=>dq o.op|none=>η
  let last:=λi=>left.all λj=>j==i||PC m i j||H5 ops j
  let es:=rdy.filter λi=>!H5 ops i&&last i
  let as:=rdy.filter λi=>H5 ops i&&last i
  match qs,es,as with
  |i::_,_,_=>i::wh ops m n (left.erase i)
  |[],i::_,_=>i::wh ops m n (left.erase i)
  |[],[],i::_=>i::wh ops m n (left.erase i)
  |[],[],[]=>[]
def zr(ops:Array Oper):List Nat:=wh ops (IB ops.toList []) ops.size (List.range ops.size)
section
variable {P:Program}{call:AHn}{code:AHo}{H H':Ap}{v:AV}{F:List Nat}
theorem jW{N:Nat}(b:wH P A H o.op=δ v):ZD P N o A H (zy A o.op) v:=by
 unfold wH at b;split at b;rename_i t len a i;split at b;rename_i sz f d;injection b with e;subst e;intro c g h k;refine U3 i (sz:=sz) (vs:=f) ?_ ⟨rfl,rfl⟩;rw[<-d];have j:=fW h;unfold Sc;have:(a.toList.map λp=>BI c p.2)=a.toList.map λp=>BI A p.2:=Ms λp d=>by grind[Op.operands]
 rw[this];cases b;exact Wn b
end
def jr(F:Fence)(n0:Nat)(P:Program)(c:Code)(K:Exit->Act->World->Prop)(a:Act)(w:World):Prop:=
 ∀(b:Frame)(k:List Item)(cs:List Frame),b.roundOf=F.round->F.fn b.fn->F.room (θ cs+1+n0)->
  ∃e a' w',K e a' w'/\ArrivesIn (Machine.fenced P F) P (lone (b.atR a (.code c:: .inLoop c::k)) cs w) b k cs e a' w'
section
variable {P:Program}{F:Fence}{n0:Nat}{c:Code}{K:Exit->Act->World->Prop}{a:Act}{w:World}
def yK(h:jr F n0 P c K a w):(Code.loop c).wpIn F n0 P K a w:=by intro b k j f g hr;obtain⟨e,i,m,l,d⟩:=h b k j f g hr;exact⟨e,i,m,l,.of_steps (.one (fenced_calm g hr rfl) stepR_loop) d⟩
def aa(h:c.wpIn F n0 P (Exit.then (λt u=>jr F n0 P c K t u) K) a w):jr F n0 P c K a w:=by
 intro b k s p r hr;obtain⟨e,f,g,m,d⟩:=h b (.inLoop c::k) s p r hr;cases e with
 |normal=>obtain⟨o,n,q,j,i⟩:=m b k s p r hr;exact⟨o,n,q,j,.of_steps (StepsIn.trans d (.one (fenced_calm r hr rfl) stepR_inLoop)) i⟩
 |exit id=>exact⟨_,f,g,m,.pass (x:=.inLoop c) rfl (λ_ _=>.inl k!) d⟩
 |goto l=>exact⟨_,f,g,m,.pass (x:=.inLoop c) rfl (λ_ _=>.inl k!) d⟩
 |ret=>exact⟨_,f,g,m,.pass (x:=.inLoop c) rfl (λ_ _=>.inl k!) d⟩
 |panic v=>exact⟨_,f,g,m,.pass (x:=.inLoop c) rfl (λ_ _=>.inl k!) d⟩
 |outgrown=>exact⟨_,f,g,m,.pass (x:=.inLoop c) rfl (λ_ _=>.inl k!) d⟩
theorem V8{f:Exit->Act->World->Prop}(h:jr F n0 P c K a w)(m:∀e a w,K e a w->f e a w):jr F n0 P c f a w:=by intro b k i d j hr;obtain⟨e,l,o,n,g⟩:=h b k i d j hr;grind
end
def Hd(P:Program)(N:Nat)(c:Code)(env:Env)(H:Ap)(Q:Exit->Env->Ap->Prop):Prop:=
 ∀(r:Option Nat)(X:Nat->Prop)(h:Gh)(a:Act)(w:World),St X h N env H a w->ZE r w->
  jr (FR r) 0 P c (λe a' w'=>∃h' env' H',Q e env' H'/\St X h' N env' H' a' w'/\Gq h H w h' H' w'/\VJ a w a' w') a w
section
variable {P:Program}{N:Nat}{env:Env}{H:Ap}{Q:Exit->Env->Ap->Prop}
theorem Hd.mono{f:Exit->Env->Ap->Prop}(h:Hd P N c env H Q)(i:∀e b d,Q e b d->f e b d):Hd P N c env H f:=by intro r X g a w s k;apply V8 (h r X g a w s k);grind
def JU.of_loopW(h:Hd P N c env H Q):JU P N (.loop c) env H Q:=λr X g a w s k=>yK (h r X g a w s k)
def Hd.unroll(h:JU P N c env H (dY (λb f=>∃env2 d,E4 N (θ H) b f env2 d/\Hd P N c env2 d Q) Q)):Hd P N c env H Q:=by
 intro r X g a w s k;refine aa (wpIn_mono (h r X g a w s k) ?_);rintro e a2 t ⟨m,env2,d,q,o,v,j⟩;cases e with
 |normal=>obtain⟨l,F,n,B⟩:=q;obtain⟨z,p,A,C⟩:=n.2 X m a2 t o;have i:=E4.ext rfl n.1 A C v;apply V8 (B r X z a2 t p (k.later i));rintro e G I ⟨y,b,f,D_,E,u,x⟩;exact⟨y,b,f,D_,E,i.trans u,j.trans p.sim i u x⟩
 |_=>exact⟨m,env2,d,q,o,v,j⟩
def rG(P:Program)(N:Nat)(c:Code)(env:Env)(H:Ap)(Q:Exit->Env->Ap->Prop):Prop:=
 match c with
 |.loop x=>Hd P N x env H Q
 |c=>JU P N c env H Q
def rG.awp(h:rG P N c env H Q):JU P N c env H Q:=by unfold rG at h;split at h;exact .of_loopW h;exact h
def D2(hn:∀x,c≠.loop x)(h:JU P N c env H Q):rG P N c env H Q:=by simp_all[rG]
def rG.mono{d:Exit->Env->Ap->Prop}(h:rG P N c env H Q)(f:∀e a b,Q e a b->d e a b):rG P N c env H d:=by
 cases c with
 |loop x=>exact Hd.mono h f
 |_=>exact JU.mono h f
def Hd.weak(f:E4 N (θ H) env H A q)(h:Hd P N c A q Q):Hd P N c env H Q:=by intro r X g a w s k;obtain⟨m,t,n,o⟩:=f.2 X g a w s;apply V8 (h r X m a w t k);rintro e v x ⟨l,b,i,d,p,u,j⟩;exact⟨l,b,i,d,p,(E4.ext rfl f.1 n o (Gq.refl g H w)).trans u,j⟩
def rG.weak(b:E4 N (θ H) env H A q)(h:rG P N c A q Q):rG P N c env H Q:=by
 cases c with
 |loop x=>exact Hd.weak b h
 |_=>exact JU.weak b h
def JU.after(h:JU P N c env H (λe b f=>∃env2 d,E4 N (θ H) b f env2 d/\Q e env2 d)):JU P N c env H Q:=by intro r X g a w s k;apply wpIn_mono (h r X g a w s k);rintro e j v ⟨m,b,f,⟨env2,d,i,q⟩,t,x,l⟩;obtain⟨n,u,o,p⟩:=i.2 X m j v t;exact⟨n,env2,d,q,u,E4.ext rfl i.1 o p x,l⟩
def Hd.after(h:Hd P N c env H (λe b f=>∃env2 d,E4 N (θ H) b f env2 d/\Q e env2 d)):Hd P N c env H Q:=by intro r X g a w s k;apply V8 (h r X g a w s k);rintro e j v ⟨m,b,f,⟨env2,d,i,q⟩,t,x,l⟩;obtain⟨n,u,o,p⟩:=i.2 X m j v t;exact⟨n,env2,d,q,u,E4.ext rfl i.1 o p x,l⟩
def rG.after(h:rG P N c env H (λe a d=>∃env2 b,E4 N (θ H) a d env2 b/\Q e env2 b)):rG P N c env H Q:=by
 cases c with
 |loop x=>exact Hd.after h
 |_=>exact JU.after h
end
def Cw(v:AV)(H:Ap):AV->Ap->Prop:=λu H'=>u=v/\H'=H
def UD(e:Exit)(env:Env)(H:Ap):Exit->Env->Ap->Prop:=λe1 env1 H1=>e1=e/\env1=env/\H1=H
def callT(ρ:Operand->AV):Op->Option (Sum (FuncId×List AV) (Nat×List AV))
 |.call c=>
  match c.callee with
  |.value f=>
   match ρ f with
   |.fn (.func F) first caps=>δ (.inl (F,first++c.args.toList.map ρ++caps))
   |.yf id=>δ (.inr (id,c.args.toList.map ρ))
   |_=>ε
  |_=>ε
 |_=>ε
def AF7(H:Ap):List (Nat×E5)->Ap
 |[]=>H
 |(i,e)::r=>AF7 (H.set i e) r
section
variable {X:Nat->Prop}{h:Gh}{H:Ap}{w:World}
def IC.regen(s:IC X h H w){id g g':Nat}{cs:List AV}(n:H[id]?=δ (E5.live g cs))(I:g≤g'):
  IC X (h.at_ id (h.io id) g' (h.cap id)) (H.set id (.live g' cs)) w/\Gq h H w (h.at_ id (h.io id) g' (h.cap id)) (H.set id (.live g' cs)) w:=by
 obtain⟨q,p⟩:=s.live id g cs n;have l:h.gen id=g:=q;have t:id<θ H:=by rcases Ar id (θ H) with z|z;exact z;rw[Cf z]at n;cases n
 rcases p with⟨F,A⟩|⟨B,j,T,G,f,D_,N,o,E,C,c⟩;have d:h.io id=ε:=F;rcases Nat.eq_or_lt_of_le I with e|O;subst e;have x:h.at_ id (h.io id) g (h.cap id)=h:=by unfold Gh.at_;cases h;simp only[Gh.mk.injEq];refine⟨funext λi=>?_,funext λi=>?_,funext λi=>?_⟩;split<;>simp_all;split;rename_i r;subst r;exact l.symm;rfl;split<;>simp_all
 have y:H.set id (.live g cs)=H:=by apply Is;intro i;rw[XS];split;rename_i r;subst r;exact n.symm;rfl
 rw[x,y];exact⟨s,Gq.refl _ _ _⟩;subst A;obtain⟨m,rfl⟩:∃m,g'=m+1:=⟨g'-1,o!⟩
 have key:∀(v:Gh)(u:Ap)(k:Nat),v=h.at_ id ε (g+k) (h.cap id)->u=H.set id (.live (g+k) [])->(IC X v u w/\Gq h H w v u w)->(IC X (h.at_ id ε (g+(k+1)) (h.cap id)) (H.set id (.live (g+(k+1)) [])) w/\Gq h H w (h.at_ id ε (g+(k+1)) (h.cap id)) (H.set id (.live (g+(k+1)) [])) w):=by
  intro v u k x y J;subst x y;obtain⟨K,L⟩:=J.1.bump (id:=id) (g:=g+k) (cs:=[]) (by simp[t]) (by simp[Gh.at_]);have M:(h.at_ id ε (g+k) (h.cap id)).at_ id ε (g+k+1) ((h.at_ id ε (g+k) (h.cap id)).cap id)=h.at_ id ε (g+(k+1)) (h.cap id):=by unfold Gh.at_;simp only[Gh.mk.injEq];refine⟨funext λi=>?_,funext λi=>?_,funext λi=>?_⟩<;>by_cases r:i=id<;>simp[r,dr]
  rw[M,Xf]at K L;exact⟨K,J.2.trans L⟩
 have all:∀k,IC X (h.at_ id ε (g+(k+1)) (h.cap id)) (H.set id (.live (g+(k+1)) [])) w/\Gq h H w (h.at_ id ε (g+(k+1)) (h.cap id)) (H.set id (.live (g+(k+1)) [])) w:=by
  intro k;induction k with
  |zero=>exact s.bump n d
  |succ k P=>exact key _ _ (k+1) rfl rfl P
 have:=all (m-g);rw[show g+(m-g+1)=m+1 by omega]at this;rw[d];exact this;have b:h.io id=δ B:=D_;have a:j.size=h.cap id:=o;have:=s.upd (g':=g') (B:=B) (arr:=j) (T:=T) (fz:=G) (w':=w) n I (λ_=>⟨b,a.symm⟩) (.inl b) N (λ_ _ _=>rfl) rfl rfl rfl (Ai _) ⟨f,E,C,c⟩;rw[a]at this;rw[b];exact this
end
section
variable {P:Program}{N:Nat}{o:Oper}{env:Env}{H:Ap}{K:AV->Ap->Prop}
def Bi.regen{id g g' sz off n:Nat}{c:Value}(a:h.gen id=g)(r:Bi (cx C h q s) (.sl id g sz off n) c):
  Bi (cx C (h.at_ id (h.io id) g' (h.cap id)) (q.set id x) s) (.sl id g' sz off n) c:=by
 cases r with
 |sl b i d f=>refine .sl (by simpa[cx]using b) (by simp[cx,Gh.at_]) d λ_=>?_;have:=f a;simpa[cx,Gh.at_]using this
def JI.regen{id g g' sz off n:Nat}{cs:List AV}{H1:Ap}(j:g<=g')(d:H1[id]?=δ (E5.live g cs))(h:JI P N o env H λv b=>v=.sl id g sz off n/\b=H1)(k:K (.sl id g' sz off n) (H1.set id (.live g' cs))):JI P N o env H K:=by intro r X f a w s Q;apply Vl (h r X f a w s Q);rintro t x ⟨c,v,u,b,i,⟨rfl,rfl⟩,l,e,m⟩;obtain⟨p,q⟩:=e.regen (g':=g') d j;exact⟨c,_,_,_,i,k,Bi.regen (e.live id g cs d).1 l,p,m.trans q⟩
theorem Rj{sx xx:Operand}{t e:TypeId}{id g g' n sz m:Nat}{cs news:List AV}(ho:o.op=.call {callee:=.builtin .append,args:= #[sx,xx],argTypes:= #[t,t]})(he:eI P t=δ (ε,e,sz))(S:0<sz)(b3:Ro P e=ζ)
  (hs:BI env sx=.sl id g sz 0 n) (Z:H[id]?=δ (E5.live g cs)) (hn:θ cs=n*sz) (hx:Jx H sz (BI env xx)=δ (m,news)) (a9:n+m<=16777216)
  (b7:g<g'\/(g'=g/\m=0)) (hk:K (.sl id g' sz 0 (n+m)) (H.set id (.live g' (cs++news)))):JI P N o env H K:=by
 apply Ct (by rw[ho];rfl);intro X h a w s Q;obtain⟨a5,b,hi⟩:=QV he;obtain⟨i,z,y,bm,hz,b5⟩:=Tq b3;have u:=km hi y;have rs:=DY s.env sx;rw[hs]at rs;have rx:=DY s.env xx;obtain⟨al,a7⟩:=s.sim.live id g cs Z;have bN:h.gen id=g:=al;have L:id<θ H:=by rcases Ar id (θ H) with U|U;exact U;grind[List.getElem?_eq_none]
 have a4:Jx H sz (.sl id g sz 0 n)=δ (n,cs):=by grind[Jx]
 unfold Oper.wp;have bt:(h.io id=ε/\n=0/\a.eval sx=.slice ε 0 0)\/∃B cap,h.io id=δ B/\n<=cap/\cap*sz<=h.cap id/\a.eval sx=.slice (δ ⟨B,0,ε⟩) n cap:=by
  generalize a.eval sx=c at rs;cases rs with
  |sl p q r hc=>rcases hc al with⟨h1,U,_,h3⟩|⟨B,cap,h1,U,h3,h4⟩;exact .inl ⟨h1,U,h3⟩;exact .inr ⟨B,cap,h1,U,by simpa[cx]using h3,h4⟩
 have ag:∀(l:Option Addr)(cap:Nat),a.eval sx=.slice l n cap→cap<n+m→0<m→
   Oper.upon P o a (λa' V=>∃c v h' H',a'=a.put o.dst c/\K v H'/\Bi (cx X h' H' V) v c/\IC X h' H' V/\Gq h H w h' H' V) Q ((execOp a.eval o).run P w):=by
  intro l cap A a0 b1;have sd:=s.sim.drew;obtain⟨ax,af,G,a6,O,d,D_,_,J⟩:=OR (P:=P) sd (rx.later (Gq.drew.later X)) S hx;obtain⟨_,_,_,_,_,_,_,a1,_⟩:=OR (P:=P) s.sim rx S hx;obtain⟨_,_,os,_,_,R,a3,_,bG⟩:=OR (P:=P) sd (rs.later (Gq.drew.later X)) S a4;obtain⟨C,hC,E⟩:=po (ty:=o.type) (base:=l) (n:=n) (cap:=cap) (os:=os) a5 y hz bm a1 (by rw[u,<-A];exact bG) (by rw[u];exact J) a0 a9;rw[Qt ho (by rw[A];exact E),Oper.upon_value];have hh:Holds (cx X h H w.drew) (cs++news) (os.toArray++G.toArray++Builtin.zeroCells z.cells (C-(n+m))) (0,0):=u6 R d a3 D_;obtain⟨q1,q2⟩:=sd.upd (g':=g') (B:=w.heap.size) (T:=e) (fz:=(0,0)) (w':={w.drew with heap:=w.drew.heap.push (.cells (os.toArray++G.toArray++Builtin.zeroCells z.cells (C-(n+m))) e)}) Z o! (λbb=>o!)
   (.inr (Ai _)) (by show(w.heap.push _)[w.heap.size]?=_;simp) (λk hk bb=>by show(w.heap.push _)[k]?=w.heap[k]?;rw[TC,D! bb]) rfl rfl rfl (by show w.heap.size<=(w.heap.push _).size;simp) hh
  refine⟨_,_,_,_,rfl,hk,.sl (by simpa[cx]using L) (by simp[cx,Gh.at_]) ⟨_,_,rfl⟩ λ_=>.inr ⟨w.heap.size,C,by simp[cx,Gh.at_],hC,?_,rfl⟩,q1,Gq.drew.trans q2⟩;have e1:θ G=m*sz:=by rw[d.1,O]
  have e2:θ os=n*sz:=by rw[R.1,hn]
  simp only[cx,Gh.at_,if_true,Array.size_append,dm,Ya,b5,u,e1,e2];have:(C-(n+m))*sz+(n*sz+m*sz)=C*sz:=by rw[<-D5,<-D5];congr 1;omega
  omega
 rcases bt with⟨F,rfl,A⟩|⟨B,cap,F,b6,I,A⟩;rcases VP m with hm|hm;subst hm;obtain⟨ax,af,G,a6,O,d,D_,M,J⟩:=OR (P:=P) s.sim rx S hx;have a2:news=[]:=EJ o!;subst a2;have bz:cs=[]:=EJ o!;subst bz;have b4:G=[]:=EJ d.1;subst b4;have E:=mB (ty:=o.type) (base:=ε) (n:=0) (cap:=0) (w':=w) a5 y M (by rw[u];exact J) o! rfl;rw[Qt ho (by rw[A];exact E),Oper.upon_value];obtain⟨q1,q2⟩:=s.sim.regen (g':=g') Z o!;rw[F]at q1 q2;rw[Dl]at hk;exact⟨_,_,_,_,rfl,hk,.sl (by simpa[cx]using L) (by simp[cx,Gh.at_]) ⟨_,_,rfl⟩ λ_=>.inl ⟨by simp[cx,Gh.at_],rfl,rfl,rfl⟩,q1,q2⟩;exact ag ε 0 A o! hm;rcases Ar cap (n+m)with b0|ar;exact ag _ cap A b0 o!;obtain⟨ax,af,G,a6,O,d,D_,M,J⟩:=OR (P:=P) s.sim rx S hx;rcases a7 with⟨bl,_⟩|⟨B',W,T,fz,f,ao,hb,ap,b9,a8,Y⟩;rw[show(cx X h H w).io id=h.io id from rfl,F]at bl;cases bl;rw[show(cx X h H w).io id=h.io id from rfl,F]at ao;injection ao with e0;subst e0;have x:W.size=h.cap id:=ap;have e1:θ G=m*sz:=by rw[d.1,O]
 have b2:n*sz+m*sz<=W.size:=by rw[<-D5,x];exact C9 (Mu _ ar) I
 obtain⟨V,ad,p1,p2,p3,p4,p5,p6,p7,p8,p9⟩:=Uj (P:=P) (off:=n*sz) G 0 W w hb o! a8 D_;have E:=mB (ty:=o.type) (base:=δ ⟨B,0,ε⟩) (n:=n) (cap:=cap) (w':=V) a5 y M (by rw[u];exact J) ar (by rw[u];simp only[OZ,DA];exact p1);rw[Qt ho (by rw[A];exact E),Oper.upon_value];have hh:Holds (cx X h H w) (cs++news) ad fz:=by
  refine⟨λj=>if n*sz<=j/\j<n*sz+m*sz then G.getD (j-n*sz) undef else f j,by simp[hn,O];omega,by rw[p3];exact a8,λj v hj=>?_⟩;rw[p4];simp only[Jz,e1];rcases Ar j (θ cs) with U|U;rw[CO U]at hj;rw[D! o!,D! o!];exact Y j v hj;rw[Ce U]at hj;have b8:j-θ cs<θ news:=by rcases Ar (j-θ cs) (θ news) with h3|h3;exact h3;rw[Cf h3]at hj;cases hj
  rw[C! o!,C! o!];have hg:G[j-n*sz]?=δ (G[j-n*sz]' o!):=As o!;have eg:G.getD (j-n*sz) undef=G[j-n*sz]' o!:=by rw[Qy,hg];rfl
  rw[eg];refine⟨hg,D_ _ (Pa _),d.2 _ v _ hj ?_⟩;rw[hn];exact hg
 obtain⟨q1,q2⟩:=s.sim.upd (g':=g') (B:=B) (arr:=ad) (T:=T) (fz:=fz) (w':=V) Z o! (λ_=>⟨F,by rw[p3,x]⟩) (.inl F) p2 (λk _ hk=>p5 k hk) p6 p7 p8 (by rw[p9];exact Ai _) hh;refine⟨_,_,_,_,rfl,hk,.sl (by simpa[cx]using L) (by simp[cx,Gh.at_]) ⟨_,_,rfl⟩ λ_=>.inr ⟨B,cap,by simp[cx,Gh.at_],ar,?_,rfl⟩,q1,q2⟩;simp only[cx,Gh.at_,if_true,p3,DA,x];exact I
theorem cI{m:Nat}(j:o.op=.call {callee:=.builtin .append,args:= #[d,T],argTypes:= #[b,b]})(i:eI P b=δ (ε,I,n))(h:0<n)(c:Ro P I=ζ)
  (k:BI env d=.nils) (l:Jx H n (BI env T)=δ (m,g)) (t:m<=16777216) (f:K (.sl (θ H) m n 0 m) (H++[.live m g])):JI P N o env H K:=by
 apply JI.regen (id:=θ H) (g:=0) (g':=m) (cs:=g) (Bo _) k! (JI.append_nil j i h c k l t ⟨rfl,rfl⟩);grind
theorem TS{t:TypeId}{len sz:Nat}{vs:List AV}(b:o.op=.buildSlice t len u)(c:Sc P env t len u=δ (sz,vs))
  (d:K (.sl (θ H) (θ vs) sz 0 (θ vs)) (H++[.live (θ vs) (vs.flatMap AV.cells)])):JI P N o env H K:=by
 apply JI.regen (id:=θ H) (g:=0) (g':=θ vs) (cs:=vs.flatMap AV.cells) (Bo _) k! (cJ b c ⟨rfl,rfl⟩);grind
theorem JI.makeSlice{r:IntKind}{c:Int}(k:o.op=.makeSlice b d T)(j:eI P b=δ (ε,I,n))(y:0<n)(a:Ro P I=ζ)(q:YZ P I=δ g)(x:θ g=n)
  (m:BI env d=.int B i) (p:BI env T=.int r c) (f:0<=i) (h:i<=c) (e:c<=16777216) (u:K (.sl (θ H) i.toNat n 0 i.toNat) (H++[.live i.toNat (ς i.toNat g).flatten])):JI P N o env H K:=by
 refine JI.regen (id:=θ H) (g:=0) (g':=i.toNat) (cs:=(ς i.toNat g).flatten) (H1:=H++[.live 0 (ς i.toNat g).flatten]) (sz:=n) (off:=0) (n:=i.toNat) (Bo _) k! (lC k j y a q x m p f h e ⟨rfl,rfl⟩) q!
end
section
variable {P:Program}{N:Nat}{o:Oper}{env:Env}{H:Ap}{K:AV->Ap->Prop}
def lL(s:List UInt8):List AV:=s.map λb=>.int .u8 (b.toNat:Int)
theorem nQ{e:TypeId}(q:o.op=.convert b I d)(F:P.underlying b=δ r)(y:P.underlying I=δ (.slice e))(z:P.underlying e=δ (.int .u8))
  (J:BI env d=.str L) (E:K (.sl (θ H) 0 1 0 (θ L)) (H++[.live 0 (lL L)])):JI P N o env H K:=by
 apply Ct (by rw[q];rfl);intro X h a w st Q;have n:=DY st.env d;rw[J]at n;generalize f:a.eval d=c at n;cases n with
 |str t G=>
  have l:t.size=θ L:=by rw[<-G];rfl
  have k:(execOp a.eval o).run P w=.ok (.value (.slice (δ ⟨w.heap.size,0,ε⟩) t.size (grownCap w t.size 0 e))) (Lib.bytesWorld w e t):=by have:=Lib.run_convert_string_bytes w b I e t F y z;unfold execOp;rw[q];simp[resolve,f,this]
  unfold Oper.wp;rw[k,Oper.upon_value];have B:=grownCap_ge w t.size 0 e;have m:(Lib.bytesCells w e t).size=grownCap w t.size 0 e:=by grind[Lib.bytesCells,Array.size_append,Array.size_map,Array.size_replicate]
  have x:=st.sim.drew;have u:Lib.bytesWorld w e t={w.drew with heap:=w.drew.heap.push (.cells (Lib.bytesCells w e t) e ((Lib.bytesCells w e t).size,(Lib.bytesCells w e t).size+1))}:=by unfold Lib.bytesWorld World.freeze World.alloc;rw[D! g!];show World.mk _ _ _ _ _=World.mk _ _ _ _ _;congr 1;apply Array.ext_getElem?;intro j;have m:w.drew.heap.size=w.heap.size:=rfl;grind
  rw[u];have C:Holds (cx X h H w.drew) (lL L) (Lib.bytesCells w e t) ((Lib.bytesCells w e t).size,(Lib.bytesCells w e t).size+1):=by
   refine⟨λj=>.int .u8 ((L.getD j 0).toNat:Int),by simp[lL];omega,λi M=>?_,λj v g=>?_⟩;grind;unfold lL at g;rw[B6]at g;cases p:L[j]? with
   |none=>grind
   |some s=>
    rw[p]at g;simp only[Bd,Al]at g;subst g;have D_:j<θ L:=by grind[Nat.lt_or_ge,List.getElem?_eq_none]
    have A:L.getD j 0=s:=by rw[Qy,p];rfl
    refine⟨?_,rfl,?_⟩;grind[Lib.bytesCells,Array.getElem?_append_left];simp only[A];exact .int _ _
  refine⟨_,_,_,_,rfl,E,.sl (by simp[cx]) (by simp[cx,Gh.at_]) ⟨_,_,by rw[l]⟩ λ_=>.inr ⟨w.heap.size,grownCap w t.size 0 e,?_,o!,?_,by rw[l]⟩,x.push _ e _ (lL L) C,Gq.drew.trans (Gq.push _ _ _)⟩;have:w.drew.heap.size=w.heap.size:=rfl;simp[cx,Gh.at_,this];simp only[cx,Gh.at_,if_true];omega
theorem o9{e:TypeId}(f:o.op=.convert b I d)(h:P.underlying b=δ r)(c:P.underlying I=δ (.slice e))(a:P.underlying e=δ (.int .u8))
  (i:BI env d=.str L) (j:K (.sl (θ H) (θ L) 1 0 (θ L)) (H++[.live (θ L) (lL L)])):JI P N o env H K:=by
 refine JI.regen (id:=θ H) (g:=0) (g':=θ L) (cs:=lL L) (H1:=H++[.live 0 (lL L)]) (sz:=1) (off:=0) (n:=θ L) (Bo _) k! (nQ f h c a i ⟨rfl,rfl⟩) q!
end
def E4.virtC{N:Nat}{env:Env}{b A i sz:Nat}(Q:q[b]?=δ (E5.live A g))(hi:g[i]?=δ .nils):
  E4 N (θ q) env q env (q.set b (.live A (g.set i (.sl (θ q) 0 sz 0 0)))++[.live 0 []]):=by
 have J:b<θ q:=by rcases Ar b (θ q) with P|P;exact P;rw[Cf P]at Q;cases Q
 refine⟨k!,λX h a w s=>⟨h.at_ (θ q) ε 0 0,?_,λid al=>by simp[Gh.at_,BX al],?_⟩⟩;have O:=s.sim.virt;have hx:=Gq.virt (h:=h) (H:=q) (w:=w);have W:=hx.later X
 have key:∀(j:Nat)(e:E5),(q.set b (.live A (g.set i (.sl (θ q) 0 sz 0 0)))++[E5.live 0 []])[j]?=δ e→
   (j≠b/\(q++[E5.live 0 []])[j]?=δ e)\/(j=b/\e=.live A (g.set i (.sl (θ q) 0 sz 0 0))):=by
  intro j e p;rcases Ar j (θ q) with y|y;rw[CO (by simpa using y),XS]at p;split at p;rename_i G;subst G;injection p with p;exact .inr ⟨rfl,p.symm⟩;rename_i G;exact .inl ⟨λe=>G e.symm,by rw[CO y];exact p⟩;refine .inl ⟨o!,?_⟩;rw[Ce (by simpa using y)]at p;rw[Ce y];simpa using p
 have E:∀B,owned (h.at_ (θ q) ε 0 0) (q.set b (.live A (g.set i (.sl (θ q) 0 sz 0 0)))++[.live 0 []]) B->owned (h.at_ (θ q) ε 0 0) (q++[.live 0 []]) B:=by rintro B ⟨j,e,p,z,o⟩;rcases key j e p with⟨_,H⟩|⟨rfl,rfl⟩;exact⟨j,e,H,z,o⟩;exact⟨j,_,by rw[CO J];exact Q,k!,o⟩
 have C:(cx X (h.at_ (θ q) ε 0 0) (q++[.live 0 []]) w).Later (cx X (h.at_ (θ q) ε 0 0) (q.set b (.live A (g.set i (.sl (θ q) 0 sz 0 0)))++[.live 0 []]) w):={size:=Ai _,keep:=λ_ _ _ _=>rfl,own:=λB _ ho=>ho.imp _root_.id (E B),n:=by simp[cx],gen:=λ_ _=>Ai _,same:=λ_ _ _=>⟨rfl,rfl⟩}
 refine⟨⟨λB Y=>⟨(O.out B Y).1,λho=>(O.out B Y).2 (E B ho)⟩,λj g0 ad p=>?_,λj L p=>?_,λj k e e' B H P ap ar h3 h4=>?_,O.bldKeep λj e p Y=>?_⟩,λt v m=>?_,s.size⟩;rcases key j _ p with⟨_,H⟩|⟨rfl,H⟩;obtain⟨U,hh⟩:=O.live j g0 ad H;refine⟨U,?_⟩;rcases hh with⟨o,h0⟩|⟨B,F,T,fz,f,o,I,x,M,K,l⟩;exact .inl ⟨o,h0⟩;exact .inr ⟨B,F,T,fz,f,o,I,x,M,K,λk v u=>⟨(l k v u).1,(l k v u).2.1,(l k v u).2.2.later C⟩⟩;injection H with h5 h6;subst h5 h6;obtain⟨U,hh⟩:=O.live j g0 g (by rw[CO J];exact Q);refine⟨U,?_⟩;rcases hh with⟨o,h0⟩|⟨B,F,T,fz,f,o,I,x,M,K,l⟩;subst h0;simp at hi;refine .inr ⟨B,F,T,fz,f,o,I,x,by simpa using M,K,λk v u=>?_⟩;rw[XS]at u;split at u;rename_i ao;subst ao;split at u;injection u with u;subst u;obtain⟨p1,Z,p3⟩:=l i _ hi;refine⟨p1,Z,?_⟩;generalize f i=c at p3 Z;cases p3;exact .sl (by simp[cx]) (by simp[cx,Gh.at_]) ⟨_,_,rfl⟩ λ_=>.inl ⟨by simp[cx,Gh.at_],rfl,rfl,rfl⟩;cases u;obtain⟨p1,Z,p3⟩:=l k v u;exact⟨p1,Z,p3.later C⟩;rcases key j _ p with⟨_,H⟩|⟨rfl,H⟩;obtain⟨U,B,r,q1,q2,q3,q4,q5,q6,q7,q8,q9⟩:=O.lp j L H;exact⟨U,B,r,q1,q2,q3,q4,q5,q6,q7,q8,λt v m=>⟨(q9 t v m).1,(q9 t v m).2.later C⟩⟩;cases H;have back:∀{j:Nat}{e:E5},(q.set b (.live A (g.set i (.sl (θ q) 0 sz 0 0)))++[E5.live 0 []])[j]?=δ e->e≠.dead->∃e0,(q++[E5.live 0 []])[j]?=δ e0/\e0≠.dead:=by intro j e p z;rcases key j _ p with⟨_,H⟩|⟨rfl,H⟩;exact⟨e,H,z⟩;exact⟨_,by rw[CO J];exact Q,k!⟩
 obtain⟨d,af,ag⟩:=back H ap;obtain⟨d',R,S⟩:=back P ar;exact O.inj j k _ _ B af R ag S h3 h4;rcases key j _ p with⟨_,H⟩|⟨rfl,H⟩;exact⟨H,rfl,rfl,rfl,λ_ _ _ _ _=>rfl⟩;subst H;cases Y;exact⟨(s.env t v m).1,((s.env t v m).2.later W).later C⟩;rintro B ⟨j,e,p,z,o⟩;rcases Ar j (θ q) with y|y;have D_:h.io j=δ B:=by simpa[Gh.at_,BX y]using o
 by_cases V:j=b;subst V;exact⟨j,_,Q,k!,D_⟩;rw[CO (by simpa using y),DD (λe=>V e.symm)]at p;exact⟨j,e,p,z,D_⟩;rw[Ce (by simpa using y)]at p;have:j=θ q:=by rcases Nat.eq_or_lt_of_le y with e|P;exact e.symm;rw[Cf w!]at p;cases p
 subst this;simp[Gh.at_]at o
def Bi.nil_vs(a:0<N)(r:Bi y .nils K):Bi y (.vs N []) K:=by cases r;exact Bi.vs (rows:=[]) (cap:=0) (λ_ _=>undef) (Ai _) a (λ_ _ h=>by simp at h) (λh=>(h rfl).elim) λ_ _ _ _ h=>by simp at h
def E4.subset{N:Nat}{env2:Env}{H:Ap}(h:∀q∈env2,q∈A):E4 N (θ H) A H env2 H:=⟨Ai _,λ_ g _ _ s=>⟨g,⟨s.sim,λt v m=>s.env t v (h _ m),s.size⟩,λ_ _=>⟨rfl,rfl,rfl⟩,λ_ h=>h⟩⟩
section
variable {P:Program}
theorem ABY{b:Operand→AV}{d:Op}(h:callT b d=δ (.inl (z,g))):
  ∃c f first a,d=.call c/\c.callee=.value f/\b f=.fn (.func z) first a/\g=first++c.args.toList.map b++a:=by
 unfold callT at h;grind
section
variable {N:Nat}{o:Oper}{env:Env}{H H':Ap}{v:AV}
def jt{F:FuncId}{vs:List AV}(h:callT (BI env) o.op=δ (.inl (F,vs)))(d:Enters P F=ζ)(e:ET P F vs H (Cw v H')):JI P N o env H (Cw v H'):=by obtain⟨c,f,first,b,i,a,g,rfl⟩:=ABY h;exact o8 i a g d e
end
end
mutual
theorem Qs{p q:Nat->Bool}(h:∀id,p id=ζ->q id=ζ):∀v:AV,v.idsAll p=ζ->v.idsAll q=ζ
 |.ptr id g off,k=>h id k
 |.sl id g sz off len,k=>h id k
 |.yf id,k=>h id k
 |.mp id,k=>h id k
 |.itp id m,k=>by simp only[AV.idsAll,BN]at k⊢;exact⟨h id k.1,h m k.2⟩
 |.vptr cs,k=>JG h cs k
 |.vs sz rows,k=>JG h rows k
 |.fn f a b,k=>by simp only[AV.idsAll,BN]at k⊢;exact⟨JG h a k.1,JG h b k.2⟩
 |.agg cs,k=>JG h cs k
 |.tup cs,k=>JG h cs k
 |.bool _,_=>rfl
 |.int _ _,_=>rfl
 |.str _,_=>rfl
 |.nilp,_=>rfl
 |.nils,_=>rfl
 |.nilf,_=>rfl
 |.any,_=>rfl
theorem JG{p q:Nat->Bool}(h:∀id,p id=ζ->q id=ζ):∀l:List AV,AV.idsAllL p l=ζ->AV.idsAllL q l=ζ
 |[],_=>rfl
 |v::r,k=>by simp only[AV.idsAllL,BN]at k⊢;exact⟨Qs h v k.1,JG h r k.2⟩
end
mutual
theorem AD4(c d:Nat->Nat):∀v:AV,(v.ren c).ren d=v.ren λid=>d (c id)
 |.ptr id g i=>rfl
 |.sl id g sz i len=>rfl
 |.yf id=>rfl
 |.mp id=>rfl
 |.itp _ _=>rfl
 |.vptr e=>by simp only[AV.ren,Tp c d e]
 |.vs sz h=>by simp only[AV.ren,Tp c d h]
 |.fn f a b=>by simp only[AV.ren,Tp c d a,Tp c d b]
 |.agg e=>by simp only[AV.ren,Tp c d e]
 |.tup e=>by simp only[AV.ren,Tp c d e]
 |.bool _=>rfl
 |.int _ _=>rfl
 |.str _=>rfl
 |.nilp=>rfl
 |.nils=>rfl
 |.nilf=>rfl
 |.any=>rfl
theorem Tp(a b:Nat->Nat):∀l:List AV,AV.renL b (AV.renL a l)=AV.renL (λid=>b (a id)) l
 |[]=>rfl
 |v::r=>by simp only[AV.renL,AD4 a b v,Tp a b r]
end
mutual
theorem zU{p q:Nat->Bool}{c:Nat->Nat}(h:∀id,p id=ζ->q (c id)=ζ):∀v:AV,v.idsAll p=ζ->(v.ren c).idsAll q=ζ
 |.ptr id g off,k=>h id k
 |.sl id g sz off len,k=>h id k
 |.yf id,k=>h id k
 |.mp id,k=>h id k
 |.itp id m,k=>by simp only[AV.ren,AV.idsAll,BN]at k⊢;exact⟨h id k.1,h m k.2⟩
 |.vptr cs,k=>OQ h cs k
 |.vs sz rows,k=>OQ h rows k
 |.fn f a b,k=>by simp only[AV.ren,AV.idsAll,BN]at k⊢;exact⟨OQ h a k.1,OQ h b k.2⟩
 |.agg cs,k=>OQ h cs k
 |.tup cs,k=>OQ h cs k
 |.bool _,_=>rfl
 |.int _ _,_=>rfl
 |.str _,_=>rfl
 |.nilp,_=>rfl
 |.nils,_=>rfl
 |.nilf,_=>rfl
 |.any,_=>rfl
theorem OQ{p q:Nat->Bool}{a:Nat->Nat}(h:∀id,p id=ζ->q (a id)=ζ):∀l:List AV,AV.idsAllL p l=ζ->AV.idsAllL q (AV.renL a l)=ζ
 |[],_=>rfl
 |v::r,k=>by simp only[AV.renL,AV.idsAllL,BN]at k⊢;exact⟨zU h v k.1,OQ h r k.2⟩
end
def Pure(v:AV):Prop:=v.idsAll (λ_=>η)=ζ
def rP(e:E5):Prop:=match e with|.live _ cs=>AV.idsAllL (λ_=>η) cs=ζ|_=>False
def Pure.all(h:Pure v)(p:Nat->Bool):v.idsAll p=ζ:=Qs (λ_ e=>by cases e) v h
def Pure.ren{v:AV}(h:Pure v)(ρ:Nat->Nat):v.ren ρ=v:=AAC (p:=λ_=>η) (λ_ e=>by cases e) v h
def rP.all(h:rP x)(p:Nat->Bool):x.idsAll p=ζ:=by
 cases x with
 |live g a=>exact JG (λ_ x=>by cases x) a h
 |_=>cases h
def rP.ren(h:rP x)(ρ:Nat->Nat):x.ren ρ=x:=by
 cases x with
 |live g a=>simp only[E5.ren];rw[XL (p:=λ_=>η) (λ_ x=>by cases x) a h]
 |_=>cases h
theorem ET.sub{P:Program}(bs:List Nat){Qc:AV→Ap→Prop}(a:bs.Nodup)(F:∀b∈bs,b<θ q)
  (t:∀b∈bs,((q.getD b .dead).idsAll λid=>decide (id∈bs))=ζ) (k:AV.idsAllL (λid=>decide (id∈bs)) g=ζ)
  (y:ET P z (AV.renL (bs.idxOf ·) g) (ZB q bs) Qc) (A:∀v i,Qc v i->W (v.ren (Sv q bs)) (Uf q bs i)):ET P z g q W:=by
 intro X h w c s o f;refine(y (Xs X h q bs) (WH h bs) w c (s.sub a t) (by simpa[OK]using o) ?_).mono ?_;intro j v d l K;rw[OK,B6]at l;cases r:g[j]? with
 |none=>grind
 |some u=>rw[r]at l;simp at l;subst l;exact Bi.ren (p:=λid=>decide (id∈bs)) (λid=>ww id) rfl AEM (f j u d r K) (Mp k r)
 rintro e E ⟨d,v,m,i,rfl,H,D_,C,x⟩;have B:θ bs<=θ i:=by have:=x.n;simpa[ZB]using this
 exact⟨d,_,NW h q bs m,Uf q bs i,rfl,A v i H,s.back a F x D_,Bi.back a F B C,Gq.back a F x⟩
theorem qX{f:Nat->Nat}:∀(bs:List Nat)(H a:Ap),(∀e∈a,rP e)->ah f H bs a=AF7 H (bs.zip a)
 |[],H,a,_=>by cases a<;>rfl
 |b::bs,H,[],_=>rfl
 |b::bs,H,e::es,h=>by simp only[ah,List.zip_cons_cons,AF7];rw[(h e k!).ren,qX bs _ es λc d=>h c (by simp[d])]
theorem UE{d c H:Ap}(bs:List Nat)(y:ET P z g d (Cw v c))(l:bs.Nodup)(w:θ d=θ bs)(x:θ c=θ bs)
  (m:∀(j b:Nat)(e:E5),bs[j]?=δ b->d[j]?=δ e->H[b]?=δ e) (o:∀e∈d,rP e) (A:∀e∈c,rP e) (s:Pure v)
  (q:AV.renL (λj=>bs.getD j 0) g=U) (F:AV.idsAllL (λj=>decide (j<θ bs)) g=ζ):ET P z U H (Cw v (AF7 H (bs.zip c))):=by
 have get:∀b∈bs,∃(j:Nat)(e:E5),bs[j]?=δ b/\d[j]?=δ e/\H[b]?=δ e:=by
  intro b i;obtain⟨j,n,e⟩:=VM.1 i;have h:bs[j]?=δ b:=q!
  have f:d[j]?=δ (d[j]' o!):=As o!;exact⟨j,_,h,f,m j b _ h f⟩
 have k:∀b∈bs,b<θ H:=q!
 have a:ZB H bs=d:=by
  apply Is;intro j;unfold ZB;rw[B6];cases n:bs[j]? with
  |none=>grind[List.getElem?_eq_none_iff,List.getElem?_eq_none]
  |some b=>
   have r:j<θ bs:=by grind[Nat.lt_or_ge,List.getElem?_eq_none]
   have f:d[j]?=δ (d[j]' o!):=As o!;have p:=m j b _ n f;rw[f,Bd,Qy,p,lw,(o _ (Pa _)).ren]
 refine ET.sub bs (Qc:=Cw v c) l k (λb i=>?_) ?_ ?_ ?_;obtain⟨j,e,_,h,f⟩:=get b i;rw[Qy,f,lw];exact(o e (BM h)).all _;grind[OQ,List.getElem?_eq_getElem,List.getElem_mem];rw[a,<-q,Tp];grind[AV.renL,XL,pJ,List.getElem?_eq_getElem];rintro u t ⟨rfl,rfl⟩;refine⟨s.ren _,?_⟩;grind[Uf,qX,List.drop_eq_nil_of_le]
structure Rr(α:Type)where
 sz:Nat
 f:α->AV
 pos:0<sz
 len:∀x,(f x).cells.length=sz
 pure:∀x,Pure (f x)
def Rr.cl(e:Rr R)(l:List R):List AV:=(l.map e.f).flatMap AV.cells
theorem Rr.clen{a:Type}(e:Rr a):∀l:List a,(e.cl l).length=θ l*e.sz
 |[]=>by simp[Rr.cl]
 |x::l=>by have:=Rr.clen e l;simp only[Rr.cl,Bn,It,Af,e.len]at this⊢;grind
def wI(k:IntKind):Rr Int:=⟨1,.int k,g!,λ_=>rfl,λ_=>rfl⟩
abbrev BV:=List UInt8
def ix{α:Type}(l:List α)(i:Int):Option α:=if 0<=i then l[i.toNat]? else ε
def app{α:Type}(l xs:List α):Option (List α):=if θ l+θ xs<=16777216 then δ (l++xs)else ε
theorem AJD{f:R->AV}{l:List R}{x:R}(h:ix l i=δ x):0<=i/\(l.map f)[i.toNat]?=δ (f x):=by unfold ix at h;grind
theorem mj{l a r:List R}(h:app l a=δ r):θ l+θ a<=16777216/\r=l++a:=by grind[app]
def ADj(e:Rr R)(l:List R):AAY e.sz (e.cl l) (l.map e.f):=⟨e.pos,λv b=>by obtain⟨x,_,rfl⟩:=Bk.1 b;exact e.len x,rfl⟩
inductive Step(S R:Type)where
 |next (s:S)
 |done (r:R)
def dN{S R:Type}(body:S->Option (Step S R)):Nat->S->Option R
 |0,_=>ε
 |n+1,s=>
  match body s with
  |some (.next s')=>dN body n s'
  |some (.done r)=>δ r
  |none=>ε
theorem zb{body:Y->Option (Step Y R)}{s:Y}{r:R}(h:dN body n s=δ r):dN body (n+1) s=δ r:=by induction n generalizing s<;>grind[dN]
theorem ADX{body:Y->Option (Step Y R)}{s:Y}{r:R}(h:dN body n s=δ r)(a:n<=N):dN body N s=δ r:=by induction a<;>grind[zb]
open Classical in
noncomputable def Aa{S R:Type}(body:S->Option (Step S R))(s:S):Option R:=if h:∃r n,dN body n s=δ r then δ h.choose else ε
theorem kX{body:Y->Option (Step Y R)}{s:Y}{r:R}:Aa body s=δ r↔∃n,dN body n s=δ r:=by
 unfold Aa;constructor;intro h;split at h<;>grind;rintro⟨n,hn⟩;have a:∃r n,dN body n s=δ r:=⟨r,n,hn⟩
 grind[ADX]
theorem ES(body:Y→Option (Step Y R))(s:Y):Aa body s=match body s with
  |some (.next b)=>Aa body b
  |some (.done r)=>δ r
  |none=>ε:=by
 apply Option.ext;intro r;rw[kX];constructor
 ·rintro⟨n,h⟩;cases n with
  |zero=>cases h
  |succ n=>
   rw[dN]at h;cases a:body s with
   |none=>rw[a]at h;cases h
   |some q=>
    rw[a]at h;cases q with
    |next b=>exact kX.2 ⟨n,h⟩
    |done r=>exact h
 ·intro h;cases a:body s with
  |none=>rw[a]at h;cases h
  |some q=>
   rw[a]at h;cases q with
   |next b=>obtain⟨n,hn⟩:=kX.1 h;exact⟨n+1,by rw[dN,a];exact hn⟩
   |done c=>exact⟨1,by rw[dN,a];exact h⟩
def ABr{body:Y->Option (Step Y R)}(C:Y->R->Prop)(c:∀s b r,body s=δ (.next b)->C b r->C s r)(d:∀s r,body s=δ (.done r)->C s r){s:Y}{r:R}(h:Aa body s=δ r):C s r:=by
 obtain⟨n,hn⟩:=kX.1 h;clear h;induction n generalizing s with
 |zero=>cases hn
 |succ n e=>
  rw[dN]at hn;cases a:body s with
  |none=>rw[a]at hn;cases hn
  |some q=>
   rw[a]at hn;cases q with
   |next b=>exact c s b r a (e hn)
   |done f=>injection hn with hn;subst hn;exact d s f a
theorem bnd{x:Option R}{k:R->Option Y}{r:Y}(h:x.bind k=δ r):∃a,x=δ a/\k a=δ r:=by cases x<;>grind
abbrev GF(n:Nat)(α:Type):=Fin n->α
def GF.all{n:Nat}{α:Type}(x:α):GF n α:=λ_=>x
def dw(n:Nat)(e:Rr R)(a:GF n R):List AV:=(List.finRange n).flatMap λi=>(e.f (a i)).cells
def ACn(n:Nat)(e:Rr R)(a:GF n R):(dw n e a).length=n*e.sz:=by
 unfold dw;have:∀l:List (Fin n),(l.flatMap λi=>(e.f (a i)).cells).length=θ l*e.sz:=by
  intro l;induction l with
  |nil=>simp
  |cons x l c=>rw[It,Af,c,e.len];simp[D5,Xh]
 rw[this,List.length_finRange]
def Fm{n:Nat}(a:GF n R)(i:Int):Option R:=if h:0<=i/\i.toNat<n then δ (a ⟨i.toNat,h.2⟩)else ε
def WN{n:Nat}(a:GF n R)(i:Int)(v:R):GF n R:=λj=>if(j.val:Int)=i then v else a j
theorem oI{a:GF n R}{x:R}(h:Fm a i=δ x):0<=i/\∃k:Fin n,i=(k.val:Int)/\a k=x:=by grind[Fm]
theorem sW(g:R→List Y)(sz:Nat)(c:∀x,(g x).length=sz)(l1:List R)(x:R)(l2:List R):
  (l1++x::l2).flatMap g=l1.flatMap g++g x++l2.flatMap g/\(l1.flatMap g).length=θ l1*sz:=by
 induction l1<;>grind
theorem sR(k:Fin n):∃l1 l2,List.finRange n=l1++k::l2/\θ l1=k.val/\k∉l1/\k∉l2:=by
 refine⟨(List.finRange n).take k.val,(List.finRange n).drop (k.val+1),?_,q!,?_,?_⟩;have a:(List.finRange n).drop k.val=k::(List.finRange n).drop (k.val+1):=by rw[Qv k!];simp
 rw[<-a,De];intro h;obtain⟨i,b,e⟩:=VM.1 h;grind;intro h;obtain⟨i,b,e⟩:=VM.1 h;grind
theorem rW(e:Rr R)(a:GF n R)(k:Fin n):∃b c,dw n e a=b++(e.f (a k)).cells++c∧θ b=k.val*e.sz∧
  ∀v,dw n e (WN a k.val v)=b++(e.f v).cells++c:=by
 obtain⟨l1,l2,g,h,m,o⟩:=sR k;unfold dw;rw[g];obtain⟨p,q⟩:=sW (λi=>(e.f (a i)).cells) e.sz (λi=>e.len _) l1 k l2;refine⟨_,_,p,by rw[q,h],λv=>?_⟩;have r:∀j,j≠k->WN a k.val v j=a j:=by grind[WN]
 have l:WN a k.val v k=v:=by grind[WN]
 rw[(sW (λi=>(e.f (WN a k.val v i)).cells) e.sz (λi=>e.len _) l1 k l2).1];grind[List.map_congr_left]
section
variable {α:Type}{n:Nat} (e:Rr α) {a:GF n α}{i:Int}{x:α}
theorem ACo(h:Fm a i=δ x)(pre b:List AV):(pre++dw n e a++b).length=θ pre+n*e.sz+θ b∧θ pre+i.toNat*e.sz+e.sz≤(pre++dw n e a++b).length∧
  ((pre++dw n e a++b).drop (θ pre+i.toNat*e.sz)).take e.sz=(e.f x).cells/\∀v,WD (pre++dw n e a++b) (θ pre+i.toNat*e.sz) (e.f v).cells=pre++dw n e (WN a i v)++b:=by
 obtain⟨r,k,rfl,rfl⟩:=oI h;obtain⟨c,d,j,l,m⟩:=rW e a k;have o:((k.val:Int)).toNat=k.val:=k!
 have g:=ACn n e a;have q:=e.len (a k);refine⟨q!,?_,?_,λv=>?_⟩;grind;grind;have p:=e.len v;rw[m v,j,o,<-l];have:(pre++(c++(e.f (a k)).cells++d)++b)=(pre++c)++((e.f (a k)).cells++(d++b)):=k!
 rw[this];unfold WD;rw[<-Af,Xg,p,<-q,XQ,kG o!];simp
theorem ACj{off m:Nat}(pre b:List AV)(h:Fm a i=δ x)(c:off+m<=e.sz):θ pre+i.toNat*e.sz+off+m<=(pre++dw n e a++b).length/\((pre++dw n e a++b).drop (θ pre+i.toNat*e.sz+off)).take m=((e.f x).cells.drop off).take m:=by obtain⟨_,d,g,_⟩:=ACo e h pre b;grind[List.drop_take,List.drop_drop]
end
def sapp(a b:BV):Option BV:=if θ a+θ b<=9223372036854775807 then δ (a++b)else ε
theorem AHG{a b r:BV}(h:sapp a b=δ r):(if θ a+θ b<=9223372036854775807 then δ (AV.str (a++b))else ε)=δ (.str r):=by grind[sapp]
def Ui(s:BV)(lo hi:Int):Option BV:=if 0<=lo/\lo<=hi/\hi<=θ s then δ ((s.drop lo.toNat).take (hi.toNat-lo.toNat))else ε
def WJ(s:List R)(lo hi:Int):Option (List R):=if 0<=lo/\lo<=hi/\hi<=θ s then δ ((s.drop lo.toNat).take (hi.toNat-lo.toNat))else ε
def Ga(l:List Int):BV:=l.map λn=>UInt8.ofNat n.toNat
theorem wz:∀l:List Int,u8s (l.map (wI .u8).f)=δ (Ga l)
 |[]=>rfl
 |n::l=>by have:=wz l;simp;simp only[wI]at this⊢;simp only[u8s,this];rfl
def AGx(k:IntKind)(l:List Int):(wI k).cl l=l.map (wI k).f:=by
 unfold Rr.cl;induction l with
 |nil=>rfl
 |cons x l a=>simp only[Bn,It,a];rfl
theorem ADi(l:List Int)(c:kd P I=.str)(d:kd P b=.bytes):
  Wm P q b I (.vs 1 (l.map (wI .u8).f))=δ (.str (Ga l)):=by
 simp only[Wm,rowsOf];have:(l.map (wI .u8).f).flatMap AV.cells=l.map (wI .u8).f:=AGx .u8 l;grind[wz]
def zc{body:Y->Option (Step Y R)}{C:Y->R->Prop}(h:∀s q,body s=δ q->match q with|.next d=>∀o,C d o->C s o|.done o=>C s o){s:Y}{o:R}(b:Aa body s=δ o):C s o:=ABr C (λs _ r a c=>h s _ a r c) (λs _ a=>h s _ a) b
def mk(x:R)(l c:Int):Option (List R):=if 0<=l/\l<=c/\c<=16777216 then δ (ς l.toNat x)else ε
theorem AJE(e:Rr R)(x:R){c:Int}{r:List R}(h:mk x i c=δ r):(0<=i/\i<=c/\c<=16777216)/\i.toNat=θ r/\(ς i.toNat (e.f x).cells).flatten=e.cl r:=by unfold mk at h;split at h;rename_i b;injection h with h;subst h;unfold Rr.cl;induction i.toNat<;>grind;cases h
def Sl(s:BV):List Int:=s.map λb=>(b.toNat:Int)
def AIH(s:BV):θ s=(Sl s).length/\lL s=(wI .u8).cl (Sl s):=by
 refine⟨by simp[Sl],?_⟩;unfold Rr.cl Sl lL;induction s with
 |nil=>rfl
 |cons b r a=>simp only[Bn,a];rfl
def six(s:BV)(i:Int):Option Int:=if 0<=i then(s[i.toNat]?).map λb=>(b.toNat:Int)else ε
theorem AIG{s:BV}{x:Int}(h:six s i=δ x)(a:kd P b=.str):jn P b (.str s) (.int B i)=δ (.int .u8 x):=by grind[six,jn]
def sC(e:Rr R){l:List R}{x:R}(h:ix l i=δ x):∃d j,e.cl l=d++(e.f x).cells++j/\θ d=i.toNat*e.sz/\0<=i/\i.toNat<θ l/\l[i.toNat]?=δ x/\∀v,e.cl (l.set i.toNat v)=d++(e.f v).cells++j:=by
 unfold ix at h;split at h
 case isFalse=>cases h
 rename_i k;obtain⟨c,n⟩:=Fp.1 h;have m:l=l.take i.toNat++x::l.drop (i.toNat+1):=by rw[<-n,<-Qv c,De]
 have b:∀v,l.set i.toNat v=l.take i.toNat++v::l.drop (i.toNat+1):=λv=>by rw[List.set_eq_take_append_cons_drop,C! c]
 have a:∀v,e.cl (l.take i.toNat++v::l.drop (i.toNat+1))=e.cl (l.take i.toNat)++(e.f v).cells++e.cl (l.drop (i.toNat+1)):=λv=>by simp[Rr.cl]
 refine⟨e.cl (l.take i.toNat),e.cl (l.drop (i.toNat+1)),?_,?_,k,c,h,λv=>by rw[b,a]⟩;conv=>lhs;rw[m]
 exact a x;rw[e.clen,BJ,QR (Nat.le_of_lt c)]
def E2{α:Type}(l:List α)(i:Int)(v:α):List α:=l.set i.toNat v
def tJ{l:List R}{v:R}(h:θ l=n):(E2 l i v).length=n:=by rw[<-h];exact dh
section
variable {α:Type} (e:Rr α) {l:List α}{i:Int}{x:α}
theorem AGo(h:ix l i=δ x)(d:N+n<=e.sz):i.toNat*e.sz+N+n<=(e.cl l).length/\((e.cl l).drop (i.toNat*e.sz+N)).take n=((e.f x).cells.drop N).take n:=by obtain⟨j,k,b,c,_⟩:=sC e h;have g:=e.len x;rw[b,<-c];refine⟨q!,?_⟩;rw[A5,XQ,kG o!,CY,Su,XQ,dn,EY,g,show n-(e.sz-N)=0 by omega];simp
end
mutual
def AV.beq:AV->AV->Bool
 |.bool a,.bool b=>a==b
 |.int k n,.int k' n'=>decide (k=k')&&τ (n=n')
 |.str s,.str t=>decide (s=t)
 |.nilp,.nilp=>ζ
 |.nils,.nils=>ζ
 |.nilf,.nilf=>ζ
 |.ptr a b c,.ptr a' b' c'=>decide (a=a')&&(τ (b=b')&&τ (c=c'))
 |.vptr cs,.vptr ds=>AV.beqL cs ds
 |.vs a cs,.vs b ds=>decide (a=b)&&AV.beqL cs ds
 |.sl a b c d e,.sl a' b' c' d' e'=>decide (a=a')&&(τ (b=b')&&(τ (c=c')&&(τ (d=d')&&τ (e=e'))))
 |.agg cs,.agg ds=>AV.beqL cs ds
 |.tup cs,.tup ds=>AV.beqL cs ds
 |_,_=>η
def AV.beqL:List AV->List AV->Bool
 |[],[]=>ζ
 |a::r,b::s=>AV.beq a b&&AV.beqL r s
 |_,_=>η
end
mutual
theorem beq_eq:∀(a b:AV),AV.beq a b=ζ->a=b
 |.bool a,b,h=>by cases b<;>simp[AV.beq]at h;rw[h]
 |.int k n,b,h=>by cases b<;>simp[AV.beq]at h;rw[h.1,h.2]
 |.str s,b,h=>by cases b<;>simp[AV.beq]at h;rw[h]
 |.nilp,b,h=>by cases b<;>simp[AV.beq]at h;rfl
 |.nils,b,h=>by cases b<;>simp[AV.beq]at h;rfl
 |.nilf,b,h=>by cases b<;>simp[AV.beq]at h;rfl
 |.ptr _ _ _,b,h=>by cases b<;>simp[AV.beq]at h;rw[h.1,h.2.1,h.2.2]
 |.vptr cs,b,h=>by cases b<;>simp[AV.beq]at h;rw[kL cs _ h]
 |.vs a cs,b,h=>by cases b<;>simp[AV.beq]at h;rw[h.1,kL cs _ h.2]
 |.sl _ _ _ _ _,b,h=>by cases b<;>simp[AV.beq]at h;rw[h.1,h.2.1,h.2.2.1,h.2.2.2.1,h.2.2.2.2]
 |.agg cs,b,h=>by cases b<;>simp[AV.beq]at h;rw[kL cs _ h]
 |.tup cs,b,h=>by cases b<;>simp[AV.beq]at h;rw[kL cs _ h]
 |.fn _ _ _,b,h=>by cases b<;>simp[AV.beq]at h
 |.yf _,b,h=>by cases b<;>simp[AV.beq]at h
 |.mp _,b,h=>by cases b<;>simp[AV.beq]at h
 |.itp _ _,b,h=>by cases b<;>simp[AV.beq]at h
 |.any,b,h=>by cases b<;>simp[AV.beq]at h
theorem kL:∀(a b:List AV),AV.beqL a b=ζ->a=b
 |[],b,h=>by cases b<;>simp[AV.beqL]at h;rfl
 |x::r,b,h=>by
  cases b with
  |nil=>simp[AV.beqL]at h
  |cons y s=>simp only[AV.beqL,BN]at h;rw[beq_eq x y h.1,kL r s h.2]
end
mutual
inductive Ty where
 |bool
 |int (k:IntKind)
 |str
 |list (t:Ty)
 |arr (n:Nat) (t:Ty)
 |prod (ts:Rp)
inductive Rp where
 |one (t:Ty)
 |cons (t:Ty) (ts:Rp)
end
mutual
@[reducible] def Ty.D:Ty->Type
 |.bool=>Bool
 |.int _=>Int
 |.str=>List UInt8
 |.list t=>List t.D
 |.arr n t=>GF (n+1) t.D
 |.prod ts=>ts.D
@[reducible] def Rp.D:Rp->Type
 |.one t=>t.D
 |.cons t ts=>t.D×ts.D
end
mutual
def Ty.sz:Ty->Nat
 |.bool=>1
 |.int _=>1
 |.str=>1
 |.list _=>1
 |.arr n t=>(n+1)*t.sz
 |.prod ts=>ts.sz
def Rp.sz:Rp->Nat
 |.one t=>t.sz
 |.cons t ts=>t.sz+ts.sz
end
mutual
def Ty.enc:(t:Ty)->t.D->AV
 |.bool,b=>.bool b
 |.int k,n=>.int k n
 |.str,s=>.str s
 |.list t,l=>.vs t.sz (l.map t.enc)
 |.arr n t,a=>.agg ((List.finRange (n+1)).flatMap λi=>(t.enc (a i)).cells)
 |.prod ts,x=>.agg (ts.cells x)
def Rp.cells:(ts:Rp)->ts.D->List AV
 |.one t,x=>(t.enc x).cells
 |.cons t ts,x=>(t.enc x.1).cells++ts.cells x.2
end
mutual
theorem Ty.sz_pos:∀t:Ty,0<t.sz
 |.bool=>g!
 |.int _=>by simp[Ty.sz]
 |.str=>g!
 |.list _=>by simp[Ty.sz]
 |.arr n t=>by simp only[Ty.sz];exact Nat.mul_pos (Nat.succ_pos n) t.sz_pos
 |.prod a=>by simp only[Ty.sz];exact a.sz_pos
theorem Rp.sz_pos:∀a:Rp,0<a.sz
 |.one t=>by simp only[Rp.sz];exact t.sz_pos
 |.cons t a=>by simp only[Rp.sz];have:=t.sz_pos;omega
end
mutual
theorem Ty.enc_len:∀(t:Ty)(x:t.D),(t.enc x).cells.length=t.sz
 |.bool,_=>rfl
 |.int _,_=>rfl
 |.str,_=>rfl
 |.list _,_=>rfl
 |.arr n t,a=>by
  show((List.finRange (n+1)).flatMap λi=>(t.enc (a i)).cells).length=(n+1)*t.sz;have:∀l:List (Fin (n+1)),(l.flatMap λi=>(t.enc (a i)).cells).length=θ l*t.sz:=by
   intro l;induction l with
   |nil=>simp
   |cons x l b=>rw[It,Af,b,t.enc_len];simp[D5,Xh]
  rw[this,List.length_finRange]
 |.prod ts,x=>ts.cells_len x
theorem Rp.cells_len:∀(a:Rp)(x:a.D),(a.cells x).length=a.sz
 |.one t,x=>by simp only[Rp.cells,Rp.sz];exact t.enc_len x
 |.cons t a,x=>by simp only[Rp.cells,Rp.sz,Af];rw[t.enc_len,a.cells_len]
end
mutual
theorem Ty.enc_pure:∀(t:Ty)(x:t.D),Pure (t.enc x)
 |.bool,_=>rfl
 |.int _,_=>rfl
 |.str,_=>rfl
 |.list t,l=>by unfold Pure;show AV.idsAllL _ (l.map t.enc)=ζ;rw[Dg];intro v b;obtain⟨x,_,rfl⟩:=Bk.1 b;exact t.enc_pure x
 |.arr n t,a=>by unfold Pure;show AV.idsAllL _ ((List.finRange (n+1)).flatMap λi=>(t.enc (a i)).cells)=ζ;rw[Dg];intro v b;obtain⟨i,_,b⟩:=Gf.1 b;exact Ud (t.enc_pure _) v b
 |.prod ts,x=>by unfold Pure;show AV.idsAllL _ (ts.cells x)=ζ;rw[Dg];exact ts.cells_pure x
theorem Rp.cells_pure:∀(b:Rp)(x:b.D),∀v∈b.cells x,Pure v
 |.one t,x,v,a=>Ud (t.enc_pure x) v a
 |.cons t b,x,v,a=>by simp only[Rp.cells,Ao]at a;rcases a with a|a;exact Ud (t.enc_pure _) v a;exact b.cells_pure _ v a
end
def Ty.E(t:Ty):Rr t.D:=⟨t.sz,t.enc,t.sz_pos,t.enc_len,t.enc_pure⟩
mutual
def Ty.beq:Ty->Ty->Bool
 |.bool,.bool=>ζ
 |.int k,.int k'=>decide (k=k')
 |.str,.str=>ζ
 |.list t,.list t'=>t.beq t'
 |.arr n t,.arr n' t'=>ξ n n'&&t.beq t'
 |.prod ts,.prod ts'=>ts.beq ts'
 |_,_=>η
def Rp.beq:Rp->Rp->Bool
 |.one t,.one t'=>t.beq t'
 |.cons t ts,.cons t' ts'=>t.beq t'&&ts.beq ts'
 |_,_=>η
end
mutual
theorem Ty.beq_eq:∀(t a:Ty),t.beq a=ζ->t=a
 |.bool,a,h=>by cases a<;>simp[Ty.beq]at h;rfl
 |.int k,a,h=>by cases a<;>simp[Ty.beq]at h;rw[h]
 |.str,a,h=>by cases a<;>simp[Ty.beq]at h;rfl
 |.list t,a,h=>by cases a<;>simp[Ty.beq]at h;rw[t.beq_eq _ h]
 |.arr n t,a,h=>by cases a<;>simp[Ty.beq]at h;rw[h.1,t.beq_eq _ h.2]
 |.prod ts,a,h=>by cases a<;>simp[Ty.beq]at h;rw[ts.beq_eq _ h]
theorem Rp.beq_eq:∀(t a:Rp),t.beq a=ζ->t=a
 |.one t,a,h=>by cases a<;>simp[Rp.beq]at h;rw[t.beq_eq _ h]
 |.cons t ts,a,h=>by cases a<;>simp[Rp.beq]at h;rw[t.beq_eq _ h.1,ts.beq_eq _ h.2]
end
def Ty.cast{t t':Ty}(h:t.beq t'=ζ)(x:t.D):t'.D:=Ty.beq_eq t t' h▸x
variable {t:Ty}
def cK{a:Ty}(h:t.beq a=ζ)(x:t.D):a.enc (Ty.cast h x)=t.enc x:=by have:=Ty.beq_eq t a h;subst this;rfl
mutual
def Ty.zero:(t:Ty)->t.D
 |.bool=>η
 |.int _=>(0:Int)
 |.str=>([]:List UInt8)
 |.list t=>([]:List t.D)
 |.arr n t=>(GF.all t.zero:GF (n+1) t.D)
 |.prod ts=>ts.zero
def Rp.zero:(ts:Rp)->ts.D
 |.one t=>t.zero
 |.cons t ts=>(t.zero,ts.zero)
end
inductive Bh where
 |bl (b:Bool)
 |it (k:IntKind) (n:Int)
 |st (s:List UInt8)
 |ls (t:Ty) (l:List t.D)
 |ar (n:Nat) (t:Ty) (a:GF (n+1) t.D)
 |own (id ver:Nat) (t:Ty) (n:Nat)
 |nil
 |raw (v:AV)
def Bh.w:Bh->Nat
 |.ar n t _=>(n+1)*t.sz
 |_=>1
def Bh.enc:Bh->List AV
 |.bl b=>[.bool b]
 |.it k n=>[.int k n]
 |.st s=>[.str s]
 |.ls t l=>[.vs t.sz (l.map t.enc)]
 |.ar n t a=>((Ty.arr n t).enc a).cells
 |.own id _ t n=>[.sl id n t.sz 0 n]
 |.nil=>[.nils]
 |.raw v=>[v]
def Bh.one:Bh->AV
 |.bl b=>.bool b
 |.it k n=>.int k n
 |.st s=>.str s
 |.ls t l=>.vs t.sz (l.map t.enc)
 |.ar n t a=>(Ty.arr n t).enc a
 |.own id _ t n=>.sl id n t.sz 0 n
 |.nil=>.nils
 |.raw v=>v
def lvs(cs:List Bh):List AV:=cs.flatMap Bh.enc
def Bh.enc_len(x:Bh):θ x.enc=x.w:=by
 cases x with
 |ar n t a=>exact Ty.enc_len (.arr n t) a
 |_=>rfl
inductive TV where
 |c (x:Bh)
 |g (cs:List Bh)
 |aptr (id base n:Nat) (t:Ty) (i:Int) (off:Nat)
 |bptr (id ver:Nat) (t:Ty) (n:Nat) (i:Int) (off:Nat)
 |vw (id ver:Nat) (t:Ty) (n lo m:Nat)
 |vptr (cs:List Bh) (post:List AV)
 |tup (vs:List TV)
def vwE(id n sz lo m:Nat):AV:=
 if min m (n-lo)=0 then(if lo=0 then .sl id n sz 0 0 else .vs sz [])else .sl id n sz (lo*sz) (min m (n-lo))
mutual
def TV.enc:TV->AV
 |.c x=>x.one
 |.g cs=>.agg (lvs cs)
 |.aptr id base _ t i off=>.ptr id 0 (base+i.toNat*t.sz+off)
 |.bptr id _ t n i off=>.ptr id n (i.toNat*t.sz+off)
 |.vw id _ t n lo m=>vwE id n t.sz lo m
 |.vptr cs post=>.vptr (lvs cs++post)
 |.tup vs=>.tup (TV.encL vs)
def TV.encL:List TV->List AV
 |[]=>[]
 |v::r=>v.enc::TV.encL r
end
def sM:∀l:List TV,TV.encL l=l.map TV.enc
 |[]=>rfl
 |v::r=>by simp only[TV.encL,Bn,sM r]
abbrev BT:=List (Nat×TV)
inductive LS where
 |ready
 |busy
 |ret
 |exit (x:Nat)
def LS.st:LS->LoopState
 |.ready=>.ready
 |.busy=>.busy
 |_=>.done
def LS.pend:LS->Option Code
 |.ret=>δ .ret
 |.exit x=>δ (.exit x)
 |_=>ε
def LS.beq:LS->LS->Bool
 |.ready,.ready=>ζ
 |.busy,.busy=>ζ
 |.ret,.ret=>ζ
 |.exit x,.exit y=>ξ x y
 |_,_=>η
def LS.beq_eq{a b:LS}(h:a.beq b=ζ):a=b:=by cases a<;>cases b<;>simp only[LS.beq]at h<;>first|rfl|cases h|rw[Cy h]
inductive Di where
 |dead
 |live (ro:Bool) (cs:List Bh)
 |buf (ro:Bool) (t:Ty) (l:List t.D) (n ver:Nat)
 |lp (ro:Bool) (F:FuncId) (n:Nat) (env:BT) (ps:Array Tmp) (a b:Code) (s:LS)
 |mp (ro:Bool) (k:IntKind) (t:Ty) (es:List (Int×t.D))
abbrev Am:=List Di
def Bq(env:BT):Env:=env.map λp=>(p.1,p.2.enc)
def Di.enc:Di->E5
 |.dead=>.dead
 |.live _ cs=>.live 0 (lvs cs)
 |.buf _ t l n _=>.live n (t.E.cl l)
 |.lp _ _ n env ps a b s=>.lp ⟨n,Bq env,ps,a,b,s.st,s.pend⟩
 |.mp _ k t es=>.mp k (es.map λp=>(p.1,t.enc p.2))
def A8(H:Am):Ap:=H.map Di.enc
def Up:TV:=.c (.raw .any)
def BT.get:BT->Nat->TV
 |[],_=>Up
 |(k,v)::r,t=>match ξ k t with|true=>v|false=>BT.get r t
def BT.del(t:Nat):BT->BT
 |[]=>[]
 |(k,v)::r=>match ξ k t with|true=>BT.del t r|false=>(k,v)::BT.del t r
def BT.put(env:BT)(t:Nat)(v:TV):BT:=(t,v)::BT.del t env
def BT.putO(env:BT):Option Nat->TV->BT
 |some t,v=>env.put t v
 |none,_=>env
theorem beq_false(h:N≠n):ξ N n=η:=by grind[Nat.eq_of_beq_eq_true]
theorem UA(env:BT)(t:Nat):(Bq env).get t=(env.get t).enc:=by
 induction env with
 |nil=>simp[Bq,Env.get,BT.get,Up,TV.enc,Bh.one]
 |cons p r a=>grind[Bq,Env.get,BT.get,Nat.beq_refl,beq_false]
theorem ADA(env:BT)(t:Nat):Bq (BT.del t env)=(Bq env).filter λp=>decide (p.1≠t):=by induction env<;>grind[BT.del,Bq,Nat.beq_refl,beq_false]
def jR(env:BT)(t:Nat)(v:TV):Bq (env.put t v)=(Bq env).put t v.enc:=by simp only[Env.put,<-ADA];rfl
def XV(env:BT)(t:Option Nat)(v:TV):Bq (env.putO t v)=(Bq env).putO t v.enc:=by
 cases t with
 |none=>rfl
 |some t=>exact jR env t v
def AC6:Value->Bh
 |.bool b=>.bl b
 |.int k n=>.it k n
 |.string s=>.st s.data.toList
 |.pointer ε=>.raw .nilp
 |.slice ε 0 0=>.nil
 |.nilFunc=>.raw .nilf
 |_=>.raw .any
def cvT:Value->TV
 |.agg cs=>match cs.toList.all (·.oneCell')with|true=>.g (cs.toList.map AC6)|false=>Up
 |v=>.c (AC6 v)
def xf(v:Value):(AC6 v).one=qC v:=by
 cases v with
 |pointer p=>cases p<;>rfl
 |slice a l c=>
  cases a with
  |some _=>rfl
  |none=>
   match l,c with
   |0,0=>rfl
   |0,_+1=>rfl
   |_+1,_=>rfl
 |_=>rfl
theorem AC7(v:Value):(AC6 v).enc=[qC v]:=by
 cases v with
 |pointer p=>cases p<;>rfl
 |slice a l c=>
  cases a with
  |some _=>rfl
  |none=>
   match l,c with
   |0,0=>rfl
   |0,_+1=>rfl
   |_+1,_=>rfl
 |_=>rfl
theorem AE7(v:Value):(cvT v).enc=ABg v:=by
 cases v with
 |agg b=>
  simp only[cvT,ABg];cases h:b.toList.all (·.oneCell')with
  |false=>simp[Up,TV.enc,Bh.one]
  |true=>simp only[TV.enc,lvs];induction b.toList<;>grind[AC7]
 |pointer p=>exact xf (.pointer p)
 |slice a l c=>exact xf (.slice a l c)
 |_=>rfl
def JK(env:BT):Operand->TV
 |.tmp t=>env.get t
 |.const v=>cvT v
 |.global _=>Up
 |.func f=>.c (.raw (.fn (.func f) [] []))
theorem LK(env:BT)(x:Operand):BI (Bq env) x=(JK env x).enc:=by
 cases x with
 |tmp t=>exact UA env t
 |const v=>exact(AE7 v).symm
 |global _=>rfl
 |func f=>rfl
def Wh:List Bh->Nat->Option (List Bh×List Bh)
 |ls,0=>δ ([],ls)
 |[],_+1=>ε
 |x::r,n+1=>
  match Nat.ble x.w (n+1)with
  |true=>match Wh r (n+1-x.w)with|some (a,b)=>δ (x::a,b)|none=>ε
  |false=>ε
mutual
def Ty.lvs:(t:Ty)->t.D->List Bh
 |.bool,b=>[.bl b]
 |.int k,n=>[.it k n]
 |.str,s=>[.st s]
 |.list t,l=>[.ls t l]
 |.arr n t,a=>[.ar n t a]
 |.prod ts,x=>ts.lvs x
def Rp.lvs:(ts:Rp)->ts.D->List Bh
 |.one t,x=>t.lvs x
 |.cons t ts,x=>t.lvs x.1++ts.lvs x.2
end
def Bh.scalar:Bh->Bool
 |.ar .. =>η
 |.raw (.agg _)=>η
 |_=>ζ
def part(P:Program)(t:TypeId)(cs:List Bh)(off:Nat):Option TV:=
 match Wh cs off with
 |some (_,r)=>
  match tI P t with
  |some (ζ,n)=>match Wh r n with|some (a,_)=>δ (.g a)|none=>ε
  |some (η,_)=>match r with|x::_=>(match x.scalar with|true=>δ (.c x)|false=>ε)|[]=>ε
  |none=>ε
 |none=>ε
section
variable {R:Type}
def okT(o:Option TV)(k:TV->Option R):Option R:=
 match o with
 |some v=>k v
 |none=>ε
def ACm(cs:List Bh)(base n:Nat)(t:Ty):Option (GF (n+1) t.D):=
 match Wh cs base with
 |some (_,.ar n' t' a::_)=>if h:(Ty.arr n' t').beq (Ty.arr n t)=ζ then δ (Ty.cast h a)else ε
 |_=>ε
def Xn(H:Am)(id ver:Nat)(t:Ty):Option (List t.D):=
 match H[id]? with
 |some (.buf _ t' l _ ver')=>match ξ ver ver' with|true=>(if h:(Ty.list t').beq (Ty.list t)=ζ then δ (Ty.cast h l)else ε)|false=>ε
 |_=>ε
def Wg(H:Am)(id:Nat):Option (List Bh):=
 match H[id]? with
 |some (.live _ cs)=>δ cs
 |_=>ε
def loadT(P:Program)(H:Am)(t:TypeId)(v:TV)(k:TV->Option R):Option R:=
 match v with
 |.c (.raw (.ptr id 0 off))=>match Wg H id with|some cs=>okT (part P t cs off) k|none=>ε
 |.vptr cs _=>okT (part P t cs 0) k
 |.aptr id base n te i off=>
  match Wg H id with
  |some cs=>match ACm cs base n te with|some a=>(Fm a i).bind λe=>okT (part P t (te.lvs e) off) k|none=>ε
  |none=>ε
 |.bptr id ver te _ i off=>match Xn H id ver te with|some l=>(ix l i).bind λe=>okT (part P t (te.lvs e) off) k|none=>ε
 |_=>ε
def tvA:AV->TV
 |.bool b=>.c (.bl b)
 |.int k n=>.c (.it k n)
 |.str s=>.c (.st s)
 |v=>.c (.raw v)
def okA(o:Option AV)(k:TV->Option R):Option R:=
 match o with
 |some v=>k (tvA v)
 |none=>ε
def eqT(as bs:List Bh):Bool:=uL (lvs as) (lvs bs)
def AGp(P:Program)(op:BinOp)(t:TypeId)(x y:TV)(k:TV->Option R):Option R:=
 match x,y with
 |.c (.it kx a),.c (.it ky b)=>
  match op with
  |.shl=>cond (τ (b<0)) ε (k (.c (.it kx (kx.wrap (a*2^min b.toNat kx.bits)))))
  |.shr=>cond (τ (b<0)) ε (k (.c (.it kx (a.fdiv (2^min b.toNat kx.bits)))))
  |.quo=>if kx=ky then cond (b==0) ε (k (.c (.it kx (kx.wrap (a.tdiv b)))))else ε
  |.rem=>if kx=ky then cond (b==0) ε (k (.c (.it kx (a.tmod b))))else ε
  |op=>if kx=ky then okA (oZ op kx a b) k else ε
 |.c (.bl a),.c (.bl b)=>
  match op with
  |.eql=>if kd P t=.bool then k (.c (.bl (a==b)))else ε
  |.neq=>if kd P t=.bool then k (.c (.bl (!(a==b))))else ε
  |_=>ε
 |.c (.st a),.c (.st b)=>
  match op with
  |.add=>(sapp a b).bind λs=>k (.c (.st s))
  |op=>okA (vy op a b) k
 |.g as,.g bs=>
  match ACy P t with
  |some ks=>
   if typed ks (lvs as)=ζ/\typed ks (lvs bs)=ζ then
    match op with
    |.eql=>k (.c (.bl (eqT as bs)))
    |.neq=>k (.c (.bl (!eqT as bs)))
    |_=>ε
   else ε
  |none=>ε
 |_,_=>ε
def unT(op:UnOp)(v:TV)(k:TV->Option R):Option R:=
 match v with
 |.c x=>okA (unV op x.one) k
 |_=>ε
def AC4(P:Program)(H:Am)(src dst:TypeId)(v:TV)(k:TV->Option R):Option R:=
 match v with
 |.c (.ls (.int .u8) l)=>if kd P dst=.str/\kd P src=.bytes then k (.c (.st (Ga l)))else ε
 |.c (.own id ver (.int .u8) _)=>if kd P dst=.str/\kd P src=.bytes then(match Xn H id ver (.int .u8)with|some l=>k (.c (.st (Ga l)))|none=>ε)else ε
 |.c (.it kk n)=>okA (Wm P [] src dst (.int kk n)) k
 |.c (.st s)=>okA (Wm P [] src dst (.str s)) k
 |_=>ε
def mM(P:Program)(H:Am)(s f:Nat)(v:TV)(k:TV->Option R):Option R:=
 match fI P s f with
 |some (off,_,n)=>
  match ξ n 0 with
  |true=>ε
  |false=>
   match v with
   |.c (.raw (.ptr id 0 o))=>match Wg H id with|some _=>k (.c (.raw (.ptr id 0 (o+off))))|none=>ε
   |.vptr cs post=>match Wh cs off with|some (_,r)=>k (.vptr r post)|none=>ε
   |.aptr id base n te i o=>match Wg H id with|some _=>k (.aptr id base n te i (o+off))|none=>ε
   |.bptr id ver te n i o=>match Xn H id ver te with|some _=>k (.bptr id ver te n i (o+off))|none=>ε
   |_=>ε
 |none=>ε
def zQ(P:Program)(s f:Nat)(v:TV)(k:TV->Option R):Option R:=
 match fI P s f,v with
 |some (off,t,_),.g cs=>okT (part P t cs off) k
 |_,_=>ε
def mR(P:Program)(H:Am)(t:TypeId)(v i:TV)(k:TV->Option R):Option R:=
 match i with
 |.c (.it _ i)=>
  match eI P t with
  |some (δ len,_,sz)=>
   match v with
   |.c (.raw (.ptr id 0 off))=>
    match Wg H id with
    |some cs=>
     match Wh cs off with
     |some (_,.ar n te a::_)=>if len=n+1/\sz=te.sz then(Fm a i).bind λ_=>k (.aptr id off n te i 0)else ε
     |_=>ε
    |none=>ε
   |.vptr (.ar n te a::r) post=>if len=n+1/\sz=te.sz then(Fm a i).bind λe=>k (.vptr (te.lvs e) ((((Ty.arr n te).enc a).cells.drop (i.toNat*te.sz+te.sz))++(lvs r++post)))else ε
   |_=>ε
  |some (ε,_,sz)=>
   match v with
   |.c (.ls te l)=>if sz=te.sz then(ix l i).bind λe=>k (.vptr (te.lvs e) [])else ε
   |.c (.own id ver te n)=>match Xn H id ver te with|some l=>(if sz=te.sz then(ix l i).bind λ_=>k (.bptr id ver te n i 0)else ε)|none=>ε
   |.vw id ver te n lo m=>match Xn H id ver te with|some l=>(if sz=te.sz then(ix ((l.drop lo).take m) i).bind λ_=>k (.bptr id ver te n ((lo:Int)+i) 0)else ε)|none=>ε
   |_=>ε
  |none=>ε
 |_=>ε
def wB(P:Program)(e:TypeId)(sz:Nat)(cs:List Bh)(i:Int)(k:TV->Option R):Nat->Nat->Option R
 |0,_=>ε
 |m+1,j=>cond (τ (i=Int.ofNat j)) (okT (part P e cs (j*sz)) k) (wB P e sz cs i k m (j+1))
def zV(P:Program)(t:TypeId)(v i:TV)(k:TV->Option R):Option R:=
 match i with
 |.c (.it _ i)=>
  match v with
  |.g [.ar n te a]=>
   match eI P t with
   |some (δ len,e,sz)=>if len=n+1/\sz=te.sz then(Fm a i).bind λx=>okT (part P e (te.lvs x) 0) k else ε
   |_=>ε
  |.g cs=>
   match eI P t with
   |some (δ len,e,sz)=>match Nat.ble len 16 with|true=>wB P e sz cs i k len 0|false=>ε
   |_=>ε
  |.c (.st s)=>if kd P t=.str then(six s i).bind λb=>k (.c (.it .u8 b))else ε
  |_=>ε
 |_=>ε
def xS(d:Int):Option TV->Option Int
 |none=>δ d
 |some (.c (.it _ n))=>δ n
 |_=>ε
def AAL(P:Program)(H:Am)(t:TypeId)(v:TV)(lo hi mx:Option TV)(k:TV->Option R):Option R:=
 match mx with
 |some _=>ε
 |none=>
  match v with
  |.c (.st s)=>
   match xS 0 lo,xS (θ s) hi with
   |some l,δ h=>if kd P t=.str then(Ui s l h).bind λx=>k (.c (.st x))else ε
   |_,_=>ε
  |.c (.ls te xs)=>
   match xS 0 lo,xS (θ xs) hi,eI P t with
   |some l,δ h,δ (ε,_,sz)=>if sz=te.sz then(WJ xs l h).bind λx=>k (.c (.ls te x))else ε
   |_,_,_=>ε
  |.c (.own id ver te n)=>
   match Xn H id ver te with
   |some xs=>
    match xS 0 lo,xS (θ xs) hi,eI P t with
    |some l,δ h,δ (ε,_,sz)=>if sz=te.sz then(WJ xs l h).bind λ_=>k (.vw id ver te n l.toNat (h.toNat-l.toNat))else ε
    |_,_,_=>ε
   |none=>ε
  |_=>ε
def AHB(P:Program)(H:Am)(t:TypeId)(v:TV)(k:TV->Option R):Option R:=
 match P.underlying t,v with
 |some .string,.c (.st s)=>k (.c (.it .i64 (θ s)))
 |some (.array n _),_=>k (.c (.it .i64 n))
 |some (.slice _),.c (.ls _ l)=>k (.c (.it .i64 (θ l)))
 |some (.slice _),.c (.own id ver te n)=>match Xn H id ver te with|some _=>k (.c (.it .i64 n))|none=>ε
 |some (.slice _),.c .nil=>k (.c (.it .i64 0))
 |some (.slice _),.vw id ver te _ lo m=>match Xn H id ver te with|some l=>k (.c (.it .i64 ((l.drop lo).take m).length))|none=>ε
 |_,_=>ε
def mmT(mx:Bool)(x y:TV)(k:TV->Option R):Option R:=
 match x,y with
 |.c (.it kx a),.c (.it _ b)=>k (.c (.it kx (if mx then(if b>a then b else a)else(if b<a then b else a))))
 |_,_=>ε
def AHC(x y z:TV)(k:TV->Option R):Option R:=
 match x,y,z with
 |.c (.it kx a),.c (.it _ b),.c (.it _ c)=>k (.c (.it kx (if c<(if b<a then b else a)then c else(if b<a then b else a))))
 |_,_,_=>ε
def TV.words:TV->Option (List Bh)
 |.c x=>match x.scalar&&x.one.solid with|true=>δ [x]|false=>ε
 |.g cs=>δ cs
 |_=>ε
mutual
def Ty.zlvs:(t:Ty)->List Bh
 |.bool=>[.bl η]
 |.int k=>[.it k 0]
 |.str=>[.st []]
 |.list _=>[.nil]
 |.arr n t=>[.ar n t (GF.all t.zero)]
 |.prod ts=>ts.zlvs
def Rp.zlvs:Rp->List Bh
 |.one t=>t.zlvs
 |.cons t ts=>t.zlvs++ts.zlvs
end
mutual
def AAQ(P:Program):Nat->TypeId->Option Ty
 |0,_=>ε
 |d+1,t=>
  match P.underlying t with
  |some .bool=>δ .bool
  |some (.int k)=>δ (.int k)
  |some .string=>δ .str
  |some (.slice e)=>(AAQ P d e).map Ty.list
  |some (.array (n+1) e)=>(AAQ P d e).map (Ty.arr n)
  |some (.struct fs)=>(AGV P d fs.toList).map Ty.prod
  |_=>ε
def AGV(P:Program):Nat->List Field->Option Rp
 |0,_=>ε
 |_+1,[]=>ε
 |d+1,[f]=>(AAQ P d f.type).map Rp.one
 |d+1,f::r=>match AAQ P d f.type,AGV P d r with|some t,δ ts=>δ (.cons t ts)|_,_=>ε
end
def vC:AV->Bh
 |.bool b=>.bl b
 |.int k n=>.it k n
 |.str s=>.st s
 |v=>.raw v
def uA(P:Program)(t:TypeId):Option (List Bh):=
 match YZ P t with
 |some z=>
  match AAQ P 1000 t with
  |some ty=>match AV.beqL z (lvs ty.zlvs)with|true=>δ ty.zlvs|false=>δ (z.map vC)
  |none=>δ (z.map vC)
 |none=>ε
def ACA(cs:List Bh)(off:Nat)(vs:List Bh)(n:Nat):Option (List Bh):=
 match Wh cs off with
 |some (a,r)=>match Wh r n with|some (_,b)=>δ (a++(vs++b))|none=>ε
 |none=>ε
def AET:List Bh->Nat
 |[]=>0
 |x::r=>x.w+AET r
def xn(p:ZZ):List Bh->List (Nat×TV)->Option (List Bh)
 |cs,[]=>δ cs
 |cs,(i,v)::r=>
  match p.at_ i,v.words with
  |some (off,size),δ ws=>
   match ξ (AET ws) size with
   |true=>match ACA cs off ws size with|some cs'=>xn p cs' r|none=>ε
   |false=>ε
  |_,_=>ε
def zK(P:Program)(t:TypeId)(parts:List (Nat×TV)):Option TV:=
 match uA P t,placesOf P t with
 |some z,δ p=>(xn p z parts).map TV.g
 |_,_=>ε
def qm:List TV->Option (List AV)
 |[]=>δ []
 |.c x::r=>match x.scalar,qm r with|true,δ l=>δ (x.one::l)|_,_=>ε
 |_=>ε
def quT(P:Program)(env:BT)(H:Am)(op:Op)(k:TV->Option R):Option R:=
 match op with
 |.move x|.assign x=>k (JK env x)
 |.pick c a b=>match JK env c with|.c (.bl t)=>cond t (k (JK env a)) (k (JK env b))|_=>ε
 |.load t a=>loadT P H t (JK env a) k
 |.nilCheck x=>
  match JK env x with
  |.c (.raw (.ptr id 0 off))=>match Wg H id with|some _=>k (.c (.raw (.ptr id 0 off)))|none=>ε
  |.c (.raw (.fn (.func f) a b))=>k (.c (.raw (.fn (.func f) a b)))
  |.vptr cs post=>k (.vptr cs post)
  |.aptr id base n te i off=>match Wg H id with|some _=>k (.aptr id base n te i off)|none=>ε
  |.bptr id ver te n i off=>match Xn H id ver te with|some _=>k (.bptr id ver te n i off)|none=>ε
  |_=>ε
 |.binOp op t x y _=>AGp P op t (JK env x) (JK env y) k
 |.unOp op _ x=>unT op (JK env x) k
 |.convert s d x=>AC4 P H s d (JK env x) k
 |.fieldAddr s x f=>mM P H s f (JK env x) k
 |.field s x f=>zQ P s f (JK env x) k
 |.indexAddr t x i=>mR P H t (JK env x) (JK env i) k
 |.index t x i=>zV P t (JK env x) (JK env i) k
 |.slice t x lo hi mx=>AAL P H t (JK env x) (lo.map (JK env)) (hi.map (JK env)) (mx.map (JK env)) k
 |.extract x i=>match JK env x with|.tup vs=>(match vs[i]? with|some v=>k v|none=>ε)|_=>ε
 |.makeFunc f a b=>match qm (a.toList.map (JK env)),qm (b.toList.map (JK env))with|some l,δ m=>k (.c (.raw (.fn f l m)))|_,_=>ε
 |.build t parts=>okT (zK P t (parts.toList.map λp=>(p.1,JK env p.2))) k
 |.call {callee:=.builtin .len,args:=⟨[x]⟩,argTypes:=⟨[t]⟩}=>AHB P H t (JK env x) k
 |.call {callee:=.builtin .max,args:=⟨[x,y]⟩,.. }=>mmT ζ (JK env x) (JK env y) k
 |.call {callee:=.builtin .min,args:=⟨[x,y]⟩,.. }=>mmT η (JK env x) (JK env y) k
 |.call {callee:=.builtin .min,args:=⟨[x,y,z]⟩,.. }=>AHC (JK env x) (JK env y) (JK env z) k
 |_=>ε
end
def Rf(H:Am)(id ver:Nat)(t:Ty)(n:Nat):Prop:=
 id<θ H/\∀ro t' l n' ver',H[id]?=δ (.buf ro t' l n' ver')->ver<=ver'/\(ver=ver'->t'=t/\n'=n)
def Bh.ok(H:Am):Bh->Prop
 |.own id ver t n=>Rf H id ver t n
 |_=>True
def lok(H:Am)(cs:List Bh):Prop:=∀x∈cs,x.ok H
mutual
def TV.refs:TV->List Bh
 |.c x=>[x]
 |.g cs=>cs
 |.aptr .. =>[]
 |.bptr id ver t n _ _=>[.own id ver t n]
 |.vw id ver t n _ _=>[.own id ver t n]
 |.vptr cs _=>cs
 |.tup vs=>TV.refsL vs
def TV.refsL:List TV->List Bh
 |[]=>[]
 |v::r=>v.refs++TV.refsL r
end
def TV.ok(H:Am)(v:TV):Prop:=lok H v.refs
def Di.ok(H:Am):Di->Prop
 |.live _ cs=>lok H cs
 |.buf _ _ l n _=>n=θ l
 |.dead=>True
 |.lp _ _ _ env _ _ _ _=>∀p∈env,∀id ver t n,Bh.own id ver t n∉p.2.refs
 |.mp .. =>True
structure Np(env:BT)(H:Am):Prop where
 env:∀p∈env,p.2.ok H
 heap:∀e∈H,e.ok H
variable {j:List Bh}{m l:Am}{p:TV}{G:List TV}{J:Bh}{M:Option TV}{O:Di}{F:BT}
theorem I1{b:List Bh}:lok m (j++b)↔lok m j/\lok m b:=by grind[lok]
theorem AFR:lok m []:=λ_ h=>by cases h
def vU{v:TV}:∀{l:List TV},v∈l->∀x∈v.refs,x∈TV.refsL l
 |w::r,a,x,hx=>by simp only[TV.refsL,Ao];rcases A1.1 a with rfl|a;exact .inl hx;exact .inr (vU a x hx)
def pT(h:(TV.tup G).ok m)(b:p∈G):p.ok m:=λx c=>h x (by simp only[TV.refs];exact vU b x c)
def RF{H:Am}:∀{vs:List TV},(∀v∈vs,v.ok H)->(TV.tup vs).ok H
 |[],_=>λx a=>by simp[TV.refs,TV.refsL]at a
 |v::r,h=>by have:=RF (vs:=r) λw b=>h w (by simp[b]);intro x a;simp only[TV.refs,TV.refsL,Ao]at a;rcases a with a|a;exact h v k! x a;exact this x a
theorem jk(h:∀p∈F,p.2.ok m)(t:Nat):(F.get t).ok m:=by
 induction F with
 |nil=>intro x a;simp only[BT.get,Up,TV.refs,A7]at a;subst a;trivial
 |cons p r b=>grind[BT.get]
theorem AAp(v:Value):(AC6 v).ok m:=by
 cases v with
 |pointer p=>cases p<;>trivial
 |slice a l c=>
  cases a with
  |some _=>trivial
  |none=>
   match l,c with
   |0,0=>trivial
   |0,_+1=>trivial
   |_+1,_=>trivial
 |_=>trivial
def gW:Up.ok m:=λx a=>by simp only[Up,TV.refs,A7]at a;subst a;trivial
theorem JW{H:Am}(h:J.ok H):(TV.c J).ok H:=λy a=>by grind[TV.refs]
theorem AG0(v:Value):(cvT v).ok m:=by
 cases v with
 |agg a=>
  simp only[cvT];cases h:a.toList.all (·.oneCell')with
  |false=>exact gW
  |true=>intro x b;grind[TV.refs,AAp]
 |_=>exact JW (AAp _)
theorem fV{H:Am}(h:∀p∈F,p.2.ok H)(x:Operand):(JK F x).ok H:=by
 cases x with
 |tmp t=>exact jk h t
 |const v=>exact AG0 v
 |global _=>exact gW
 |func f=>exact JW trivial
theorem Gl(a b:List Bh):lvs (a++b)=lvs a++lvs b:=an
theorem HW(x:Bh)(b:List Bh):lvs (x::b)=x.enc++lvs b:=It
theorem dZ:∀a:List Bh,(lvs a).length=AET a
 |[]=>rfl
 |x::r=>by rw[HW,Af,x.enc_len,dZ r];rfl
def OS:∀{c:List Bh}{n:Nat}{a b:List Bh},Wh c n=δ (a,b)->c=a++b/\(lvs a).length=n
 |c,0,a,b,h=>by cases c<;>simp only[Wh]at h<;>obtain⟨rfl,rfl⟩:=h<;>exact⟨rfl,rfl⟩
 |x::r,n+1,a,b,h=>by simp only[Wh]at h;split at h;rename_i e;split at h;rename_i g i f;obtain⟨rfl,rfl⟩:=h;obtain⟨j,d⟩:=OS f;rw[HW,Af,d,x.enc_len];simp_all;cases h;cases h
mutual
theorem Ty.lvs_enc:∀(t:Ty)(x:t.D),lvs (t.lvs x)=(t.enc x).cells
 |.bool,_=>rfl
 |.int _,_=>rfl
 |.str,_=>rfl
 |.list _,_=>rfl
 |.arr n t,a=>by simp only[Ty.lvs,lvs,It,oW,Dl,Bh.enc]
 |.prod ts,x=>by simp only[Ty.lvs,Ty.enc,AV.cells];exact ts.lvs_cells x
theorem Rp.lvs_cells:∀(a:Rp)(x:a.D),Go.Ab.lvs (a.lvs x)=a.cells x
 |.one t,x=>by simp only[Rp.lvs,Rp.cells];exact t.lvs_enc x
 |.cons t a,x=>by simp only[Rp.lvs,Rp.cells];rw[Gl,t.lvs_enc,a.lvs_cells]
end
mutual
theorem Ty.lvs_ok{H:Am}:∀(t:Ty)(x:t.D),lok H (t.lvs x)
 |.bool,_=>λy b=>by simp only[Ty.lvs,A7]at b;subst b;trivial
 |.int _,_=>λy b=>by simp only[Ty.lvs,A7]at b;subst b;trivial
 |.str,_=>λy b=>by simp only[Ty.lvs,A7]at b;subst b;trivial
 |.list _,_=>λy b=>by simp only[Ty.lvs,A7]at b;subst b;trivial
 |.arr n t,a=>λy b=>by simp only[Ty.lvs,A7]at b;subst b;trivial
 |.prod ts,x=>by simp only[Ty.lvs];exact ts.lvs_ok x
theorem Rp.lvs_ok{H:Am}:∀(a:Rp)(x:a.D),lok H (a.lvs x)
 |.one t,x=>by simp only[Rp.lvs];exact t.lvs_ok x
 |.cons t a,x=>by simp only[Rp.lvs];exact I1.2 ⟨t.lvs_ok _,a.lvs_ok _⟩
end
def MQ(h:J.scalar=ζ):J.enc=[J.one]:=by
 cases J with
 |ar n t a=>cases h
 |_=>rfl
def Bh.scalar_cells(h:J.scalar=ζ):J.one.cells=[J.one]:=by
 cases J with
 |ar n t a=>cases h
 |raw v=>cases v<;>first|rfl|cases h
 |_=>rfl
theorem RH(h:part P b j N=δ p):
  (∃n,tI P b=δ (ζ,n)/\N+n<=(lvs j).length/\p.enc=.agg (((lvs j).drop N).take n)\/tI P b=δ (η,n)/\(lvs j)[N]?=δ p.enc)/\∀H,lok H j->p.ok H:=by
 unfold part at h;split at h;rename_i a r l;obtain⟨rfl,t⟩:=OS l;split at h;rename_i n i;split at h;rename_i e c g;obtain⟨rfl,k⟩:=OS g;injection h with h;subst h;refine⟨⟨n,.inl ⟨i,?_,?_⟩⟩,λH f=>?_⟩;simp only[Gl,Af];omega;simp only[TV.enc,Gl,AV.agg.injEq];rw[<-t,Qw,<-k,Xg];exact(I1.1 (I1.1 f).2).1;cases h;rename_i n i;split at h;rename_i x r;split at h;rename_i m;injection h with h;subst h;refine⟨⟨n,.inr ⟨i,?_⟩⟩,λH f=>JW ((I1.1 f).2 x k!)⟩;rw[Gl,HW,MQ m,Ce o!];simp[t,TV.enc];cases h;cases h;cases h;cases h
def ke(h:part P b j N=δ p)
  (hr:∀n,N+n<=(lvs j).length->Pw q v n=δ (((lvs j).drop N).take n)):gp P b q v=δ p.enc:=by
 obtain⟨⟨n,e|e⟩,_⟩:=RH h;obtain⟨i,g,d⟩:=e;simp only[gp,i,hr n g,Bd,d];obtain⟨i,d⟩:=e;have k:N<(lvs j).length:=by rcases Ar N (lvs j).length with f|f;exact f;rw[Cf f]at d;cases d
 simp only[gp,i,hr 1 o!,AD];rw[List.head?_take,List.head?_drop,d];rfl
theorem qM(h:Wg m N=δ j):∃ro,m[N]?=δ (.live ro j):=by grind[Wg]
theorem Dy(H:Am)(id:Nat):(A8 H)[id]?=(H[id]?).map Di.enc:=B6
theorem tG(h:Wg m N=δ j):(A8 m)[N]?=δ (.live 0 (lvs j)):=by obtain⟨ro,b⟩:=qM h;rw[Dy,b];rfl
def AFP(b:∀e∈m,e.ok m)(h:Wg m N=δ j):lok m j:=by obtain⟨ro,c⟩:=qM h;exact b _ (BM c)
def zJ{l:List t.D}(h:Xn m N n t=δ l):∃ro H,m[N]?=δ (.buf ro t l H n):=by unfold Xn at h;split at h;rename_i ro i j H d e;split at h;rename_i g;have c:=Cy g;subst c;split at h;rename_i f;have b:=f;have:=Ty.beq_eq i t b;subst this;injection h with h;refine⟨ro,H,?_⟩;rw[e,<-h];rfl;cases h;cases h;cases h
def Ws{a:Nat}{l:List t.D}(d:∀e∈m,e.ok m)(hr:Rf m N a t n)(h:Xn m N a t=δ l):(A8 m)[N]?=δ (.live n (t.E.cl l))/\θ l=n:=by obtain⟨ro,f,b⟩:=zJ h;obtain⟨_,c⟩:=hr.2 _ _ _ _ _ b;obtain⟨_,rfl⟩:=c rfl;have:f=θ l:=d _ (BM b);refine⟨?_,this.symm⟩;rw[Dy,b];rfl
def zE{a:GF (n+1) t.D}(h:ACm j N n t=δ a):∃pre b,j=pre++(.ar n t a::b)/\(lvs pre).length=N:=by unfold ACm at h;split at h;rename_i pre k l f b g;split at h;rename_i i;have:=Ty.beq_eq _ _ i;injection this with d e;subst d e;injection h with h;obtain⟨d,e⟩:=OS g;refine⟨pre,b,?_,e⟩;rw[d,<-h];rfl;cases h;cases h
theorem ay(n:Nat)(t:Ty)(a:GF (n+1) t.D):(Bh.ar n t a).enc=dw (n+1) t.E a:=rfl
section
variable {P:Program}{R:Type}{H:Am}{k:TV->Option R}{r:R}
theorem V9(h:okT M k=δ r):∃v,M=δ v/\k v=δ r:=by unfold okT at h;grind
theorem gX(v:AV):(tvA v).enc=v:=by cases v<;>rfl
theorem j8(v:AV):(tvA v).ok H:=by cases v<;>exact JW trivial
theorem js{o:Option AV}(h:okA o k=δ r):∃v,o=δ v/\k (tvA v)=δ r:=by unfold okA at h;grind
theorem kR{o:Option R}(h:cond S ε o=δ r):S=η/\o=δ r:=q!
theorem qN(B:∀e∈H,e.ok H)(C:p.ok H)(h:loadT P H b p k=δ r):∃u,gp P b (A8 H) p.enc=δ u.enc/\k u=δ r/\u.ok H:=by
 unfold loadT at h;split at h;rename_i id g;split at h;rename_i A t;obtain⟨u,f,j⟩:=V9 h;refine⟨u,ke f λn c=>?_,j,(RH f).2 H (AFP B t)⟩;grind[TV.enc,Bh.one,Pw,tG];cases h;rename_i A d;obtain⟨u,f,j⟩:=V9 h;refine⟨u,ke f λn c=>?_,j,(RH f).2 H C⟩;simp only[TV.enc,Pw];grind;rename_i id o n v i g;split at h;rename_i A t;split at h;rename_i a F;obtain⟨e,y,h⟩:=DB.1 h;obtain⟨u,f,j⟩:=V9 h;obtain⟨pre,d,rfl,q⟩:=zE F;refine⟨u,ke f λm c=>?_,j,(RH f).2 H (v.lvs_ok e)⟩;rw[v.lvs_enc,v.enc_len]at c;obtain⟨s,w⟩:=ACj v.E (lvs pre) (lvs d) y c;have D:lvs (pre++(.ar n v a::d))=lvs pre++dw (n+1) v.E a++lvs d:=by rw[Gl,HW,ay,A5]
 simp only[TV.enc,Pw,tG t,D];have x:o+i.toNat*v.sz+g=(lvs pre).length+i.toNat*v.E.sz+g:=by rw[q];rfl
 rw[x,C! ⟨O!,s⟩,w,v.lvs_enc];rfl;cases h;cases h;rename_i id z v n i g;split at h;rename_i l t;obtain⟨e,y,h⟩:=DB.1 h;obtain⟨u,f,j⟩:=V9 h;obtain⟨x,_⟩:=Ws B (C (.own id z v n) (by simp[TV.refs])) t;refine⟨u,ke f λm c=>?_,j,(RH f).2 H (v.lvs_ok e)⟩;rw[v.lvs_enc,v.enc_len]at c;obtain⟨s,w⟩:=AGo v.E y c;simp only[TV.enc,Pw,x];rw[C! ⟨O!,s⟩];show δ (List.take m (List.drop (i.toNat*v.E.sz+g) (v.E.cl l)))=_;rw[w,v.lvs_enc];rfl;cases h;cases h
theorem zG{i:BinOp}{y:TV}(h:AGp P i b p y k=δ r):∃u,xR P i b p.enc y.enc=δ u.enc/\k u=δ r/\u.ok H:=by
 unfold AGp at h;split at h;rename_i n a o t;simp only[TV.enc,Bh.one,xR];split at h;obtain⟨c,h⟩:=kR h;have d:¬t<0:=by simpa using c
 refine⟨_,?_,h,JW trivial⟩;grind[jy,TV.enc,Bh.one];obtain⟨c,h⟩:=kR h;have d:¬t<0:=by simpa using c
 refine⟨_,?_,h,JW trivial⟩;grind[jy,TV.enc,Bh.one];split at h;rename_i e;obtain⟨c,h⟩:=kR h;have d:¬t=0:=by simpa using c
 refine⟨_,?_,h,JW trivial⟩;grind[oZ,TV.enc,Bh.one];cases h;split at h;rename_i e;obtain⟨c,h⟩:=kR h;have d:¬t=0:=by simpa using c
 refine⟨_,?_,h,JW trivial⟩;grind[oZ,TV.enc,Bh.one];cases h;grind[js,j8,gX];rename_i a t;simp only[TV.enc,Bh.one,xR];split at h;split at h;rename_i e;exact⟨_,by simp only[C! e,TV.enc,Bh.one],h,JW trivial⟩;cases h;split at h;rename_i e;exact⟨_,by simp only[C! e,TV.enc,Bh.one],h,JW trivial⟩;cases h;cases h;rename_i a t;simp only[TV.enc,Bh.one,xR];split at h;obtain⟨s,j,h⟩:=DB.1 h;exact⟨_,by simp only[vy,TV.enc,Bh.one];exact AHG j,h,JW trivial⟩;grind[js,gX,j8];rename_i l bs;split at h;rename_i m f;split at h;rename_i g;simp only[TV.enc,xR,f,C! g];split at h;exact⟨_,by simp only[TV.enc,Bh.one,eqT],h,JW trivial⟩;exact⟨_,by simp only[TV.enc,Bh.one,eqT],h,JW trivial⟩;cases h;cases h;cases h;cases h
def ACF{a:UnOp}(h:unT a p k=δ r):∃u,unV a p.enc=δ u.enc/\k u=δ r/\u.ok H:=by unfold unT at h;split at h;obtain⟨p,b,h⟩:=js h;exact⟨_,by rw[gX];exact b,h,j8 p⟩;cases h
def AHy(l:List Int):(Ty.int .u8).E.cl l=l.map (wI .u8).f:=by
 unfold Rr.cl;induction l with
 |nil=>rfl
 |cons n l a=>simp only[Bn,It,a];rfl
def ABc:Wm P q b I (.int B i)=Wm P [] b I (.int B i):=by unfold Wm;cases kd P I<;>rfl
def ABd:Wm P q b I (.str L)=Wm P [] b I (.str L):=by unfold Wm;cases kd P I<;>rfl
def xa(g:∀e∈H,e.ok H)(c:p.ok H)(h:AC4 P H b I p k=δ r):∃u,Wm P (A8 H) b I p.enc=δ u.enc/\k u=δ r/\u.ok H:=by
 unfold AC4 at h;split at h;rename_i l;split at h;rename_i d;exact⟨_,ADi l d.1 d.2,h,JW trivial⟩;cases h;rename_i id f n;split at h;rename_i d;split at h;rename_i l j;obtain⟨i,hn⟩:=Ws g (c (.own id f (.int .u8) n) (by simp[TV.refs])) j;refine⟨_,?_,h,JW trivial⟩;simp only[TV.enc,Bh.one,Wm,d.1,d.2,if_true,rowsOf,i];rw[C! ⟨O!,rfl,by rw[(Ty.int .u8).E.clen,hn];show 0+n<=n*1;omega⟩];have:((Ty.int .u8).E.cl l).length=n:=by rw[(Ty.int .u8).E.clen,hn];exact Nat.mul_one n
 rw[VV,<-this,Hi,AHy];exact E! (Option.map AV.str) (wz l);cases h;cases h;obtain⟨p,c,h⟩:=js h;exact⟨_,by rw[gX];exact ABc.trans c,h,j8 p⟩;obtain⟨p,c,h⟩:=js h;exact⟨_,by rw[gX];exact ABd.trans c,h,j8 p⟩;cases h
end
section
variable {P:Program}{R:Type}{H:Am}{k:TV->Option R}{r:R}
theorem jO(h:Wg H N=δ j):S8 (A8 H) N 0=ζ:=by simp[S8,tG h]
def nJ{a:Nat}{l:List t.D}(b:∀e∈H,e.ok H)(hr:Rf H N a t n)(h:Xn H N a t=δ l):S8 (A8 H) N n=ζ:=by simp[S8,(Ws b hr h).1]
theorem o6(x:∀e∈H,e.ok H)(g:p.ok H)(h:mM P H N n p k=δ r):∃u,Vb P (A8 H) N n p.enc=δ u.enc/\k u=δ r/\u.ok H:=by
 unfold mM at h;split at h;rename_i B t f z;split at h;cases h;rename_i hn;have d:f≠0:=λe=>t!
 unfold Vb;simp only[z,D! d];split at h;rename_i id o;split at h;rename_i s c;exact⟨_,by simp only[TV.enc,Bh.one,shift,jO c,if_true],h,JW trivial⟩;cases h;rename_i s q;split at h;rename_i a b A;obtain⟨rfl,y⟩:=OS A;refine⟨_,?_,h,(I1.1 g).2⟩;simp only[TV.enc,shift];rw[C! (by simp only[Af,Gl];omega),Gl,A5,<-y,Qw];cases h;rename_i id m f w i o;split at h;rename_i s c;refine⟨_,?_,h,λ_ h=>by cases h⟩;grind[TV.enc,shift,jO];cases h;rename_i id j w f i o;split at h;rename_i l c;refine⟨_,?_,h,g⟩;simp only[TV.enc,shift,nJ x (g (.own id j w f) (by simp[TV.refs])) c,if_true,dr];cases h;cases h;cases h
theorem wb(h:part P b j N=δ p)(c:∀t,N+t<=(lvs j).length->n+t<=θ g/\(g.drop n).take t=((lvs j).drop N).take t):tW P b g n=δ p.enc:=by grind[RH,tW,List.head?_take,List.head?_drop]
theorem wJ(d:p.ok H)(h:zQ P N n p k=δ r):∃u,sP P N n p.enc=δ u.enc/\k u=δ r/\u.ok H:=by unfold zQ at h;split at h;rename_i e t s g a;obtain⟨u,c,b⟩:=V9 h;refine⟨u,?_,b,(RH c).2 H d⟩;simp only[sP,a,TV.enc];grind[wb];cases h
theorem rR{a:GF n R}{x:R}(h:Fm a i=δ x):0<=i/\i<n:=by obtain⟨c,j,rfl,_⟩:=oI h;grind
theorem pK{i:TV}(q:∀e∈H,e.ok H)(C:p.ok H)(h:mR P H b p i k=δ r):∃u,Vg P (A8 H) b p.enc i.enc=δ u.enc/\k u=δ r/\u.ok H:=by
 unfold mR at h;split at h;rename_i Q i;simp only[TV.enc,Bh.one,Vg];split at h;rename_i len F sz y;simp only[y];split at h;rename_i id J;split at h;rename_i M j;split at h;rename_i pre n v a t O;split at h;rename_i g;obtain⟨rfl,rfl⟩:=g;obtain⟨e,c,h⟩:=DB.1 h;refine⟨_,?_,h,λ_ h=>by cases h⟩;rw[C! (rR c)];simp only[TV.enc,Bh.one,shift,jO j,if_true,Jz];cases h;cases h;cases h;rename_i n v a R t;split at h;rename_i g;obtain⟨rfl,rfl⟩:=g;obtain⟨e,c,h⟩:=DB.1 h;refine⟨_,?_,h,v.lvs_ok e⟩;rw[C! (rR c)];obtain⟨_,w,B,_⟩:=ACo v.E c [] [];simp only[CY,Dl,CU,DA]at w B;have G:i.toNat*v.sz+v.sz<=(dw (n+1) v.E a).length:=w;simp only[TV.enc,shift,HW,ay];rw[C! q!];rw[v.lvs_enc,A5,oS o!];have D:(dw (n+1) v.E a).drop (i.toNat*v.sz)=(v.enc e).cells++(dw (n+1) v.E a).drop (i.toNat*v.sz+v.sz):=by rw[<-MM];have N:((dw (n+1) v.E a).drop (i.toNat*v.sz)).take v.sz=(v.enc e).cells:=B;grind[List.take_append_drop]
 rw[D,A5];rfl;cases h;cases h;rename_i F sz y;simp only[y];split at h;rename_i v l;split at h;rename_i g;subst g;obtain⟨e,c,h⟩:=DB.1 h;obtain⟨K,L⟩:=AJD (f:=v.enc) c;refine⟨_,?_,h,v.lvs_ok e⟩;simp only[TV.enc,Bh.one];rw[C! ⟨K,O!⟩,L,v.lvs_enc,Dl];rfl;cases h;rename_i id d v n;split at h;rename_i l j;split at h;rename_i g;subst g;obtain⟨e,c,h⟩:=DB.1 h;have hr:=C (.own id d v n) (by simp[TV.refs]);obtain⟨I,hn⟩:=Ws q hr j;refine⟨.bptr id d v n i 0,?_,h,λx o=>by simp only[TV.refs,A7]at o;subst o;exact hr⟩;obtain⟨_,_,_,_,s,w,_,_⟩:=sC v.E c;simp only[TV.enc,Bh.one];rw[C! ⟨s,o!,O!,nJ q hr j⟩,DA,Jz];cases h;cases h;rename_i id d v n A m;split at h;rename_i l j;split at h;rename_i g;subst g;obtain⟨e,c,h⟩:=DB.1 h;have hr:=C (.own id d v n) (by simp[TV.refs]);obtain⟨I,hn⟩:=Ws q hr j;refine⟨.bptr id d v n ((A:Int)+i) 0,?_,h,λx o=>by simp only[TV.refs,A7]at o;subst o;exact hr⟩;unfold ix at c;split at c;rename_i s;have z:=(Fp.1 c).1;rw[BJ,EY]at z;simp only[TV.enc,vwE];rw[D! o!];dsimp only;rw[C! ⟨s,o!,rfl,nJ q hr j⟩,Jz,show((A:Int)+i).toNat=A+i.toNat by omega,D5];cases c;cases h;cases h;cases h;cases h;cases h
theorem nF{e:TypeId}{sz:Nat}{cs:List Bh}{i:Int}(b:lok H cs):∀{m j:Nat},wB P e sz cs i k m j=δ r->∃u,(0<=i/\i<((j+m:Nat):Int))/\tW P e (lvs cs) (i.toNat*sz)=δ u.enc/\k u=δ r/\u.ok H
 |m+1,j,h=>by
  simp only[wB]at h;cases a:τ (i=Int.ofNat j)with
  |true=>
   rw[a]at h;have f:i=(j:Int):=q!
   obtain⟨u,d,c⟩:=V9 h;refine⟨u,o!,?_,c,(RH d).2 H b⟩;grind[wb]
  |false=>rw[a]at h;obtain⟨u,g,l⟩:=nF b (m:=m) (j:=j+1) h;grind
theorem wR{i:TV}(A:p.ok H)(h:zV P b p i k=δ r):∃u,jn P b p.enc i.enc=δ u.enc/\k u=δ r/\u.ok H:=by
 unfold zV at h;split at h;rename_i B i;split at h;rename_i n c a;split at h;rename_i len x sz o;split at h;rename_i z;obtain⟨rfl,rfl⟩:=z;obtain⟨e,t,h⟩:=DB.1 h;obtain⟨u,q,f⟩:=V9 h;refine⟨u,?_,f,(RH q).2 H (c.lvs_ok e)⟩;simp only[TV.enc,Bh.one,jn,o];rw[C! (rR t)];refine wb q λm d=>?_;rw[c.lvs_enc,c.enc_len,DA]at d;obtain⟨j,l⟩:=ACj c.E (off:=0) [] [] t (m:=m) (by rw[DA];exact d);simp at j l;have w:lvs [Bh.ar n c a]=dw (n+1) c.E a:=by grind[ay,lvs]
 rw[w,c.lvs_enc,VV];exact⟨j,l⟩;cases h;cases h;rename_i g _;split at h;rename_i len x sz o;split at h;obtain⟨u,C,D,F⟩:=nF (cs:=g) (H:=H) A h;grind[TV.enc,Bh.one,jn];cases h;cases h;rename_i s;split at h;rename_i f;obtain⟨v,y,h⟩:=DB.1 h;exact⟨_,by simp only[TV.enc];exact AIG y f,h,JW trivial⟩;cases h;cases h;cases h
theorem bB{d:Nat}(h:xS d M=δ i)(a:0<=i):WO d (M.map TV.enc)=δ i.toNat:=by unfold xS at h;grind[WO,TV.enc,Bh.one,tO]
theorem wt{L J:Option TV}(G:∀e∈H,e.ok H)(Q:p.ok H)(h:AAL P H b p L J M k=δ r):∃u,gT P (A8 H) b p.enc (L.map TV.enc) (J.map TV.enc) (M.map TV.enc)=δ u.enc/\k u=δ r/\u.ok H:=by
 unfold AAL at h;split at h;cases h;split at h;rename_i s;split at h;rename_i l f i v;split at h;rename_i E;obtain⟨x,c,h⟩:=DB.1 h;refine⟨_,?_,h,JW trivial⟩;unfold Ui at c;split at c;rename_i a;simp only[TV.enc,Bh.one,gT,bB (d:=0) i a.1,bB v (kD a.1 a.2.1)];grind;cases c;cases h;cases h;rename_i A o;split at h;rename_i l f O sz i v D;split at h;rename_i E;obtain⟨x,c,h⟩:=DB.1 h;refine⟨_,?_,h,JW trivial⟩;unfold WJ at c;split at c;rename_i a;have j:(o.map A.enc).length=θ o:=B7 _;have B:=bB (d:=0) i a.1;have t:=bB v (kD a.1 a.2.1);have C:WO (θ o) ε=δ (θ o):=rfl;simp only[TV.enc,Bh.one,gT,j,B,t,C,D];grind[List.map_take,List.map_drop];cases c;cases h;cases h;rename_i id F A n;split at h;rename_i o I;split at h;rename_i l f O sz i v D;split at h;rename_i E;obtain⟨x,c,h⟩:=DB.1 h;have hr:=Q (.own id F A n) (by simp[TV.refs]);obtain⟨R,N⟩:=Ws G hr I;have g:=nJ G hr I;refine⟨_,?_,h,λz K=>by simp only[TV.refs,A7]at K;subst K;exact hr⟩;unfold WJ at c;split at c;rename_i a;have B:=bB (d:=0) i a.1;have t:=bB v (kD a.1 a.2.1);rw[N]at t;have C:WO n ε=δ n:=rfl;simp only[TV.enc,Bh.one,gT,ly,B,t,C,D];rw[C! ⟨E.symm,A.sz_pos,o!,o!,Ai _,g,λq=>by cases q⟩];have m:min (f.toNat-l.toNat) (n-l.toNat)=f.toNat-l.toNat:=o!
 unfold vwE;rw[m];by_cases w:l.toNat=0;rw[C! w,w];by_cases y:f.toNat=0;rw[y];rfl;rw[D! o!,Xk,Xj];rw[D! w];by_cases y:l.toNat=f.toNat
 rw[C! y,C! o!,D! w];rw[D! y,D! o!,DA];cases c;cases h;cases h;cases h;cases h
def za(f:∀e∈H,e.ok H)(g:p.ok H)(h:AHB P H b p k=δ r):∃u,pL P (A8 H) b p.enc=δ u.enc/\k u=δ r/\u.ok H:=by unfold AHB at h;split at h;rename_i s a;exact⟨_,by simp only[pL,a,TV.enc,Bh.one],h,JW trivial⟩;rename_i n e a;exact⟨_,by simp only[pL,a,TV.enc,Bh.one],h,JW trivial⟩;rename_i c l e a;exact⟨_,by simp only[pL,a,TV.enc,Bh.one,B7],h,JW trivial⟩;rename_i e id t c n a;split at h;rename_i l d;refine⟨_,?_,h,JW trivial⟩;simp only[pL,a,TV.enc,Bh.one];cases h;rename_i e a;exact⟨_,by simp only[pL,a,TV.enc,Bh.one],h,JW trivial⟩;rename_i e id t c n i m a;split at h;rename_i l d;obtain⟨_,hn⟩:=Ws f (g (.own id t c n) (by simp[TV.refs])) d;refine⟨_,?_,h,JW trivial⟩;simp only[TV.enc,vwE,Bh.one,BJ,EY,hn];split;rename_i q;rw[q];split<;>simp only[pL,a]<;>rfl;simp only[pL,a];cases h;cases h
end
def YY(h:p.words=δ j):p.enc.solid=ζ/\p.enc.cells=lvs j/\∀H,p.ok H->lok H j:=by unfold TV.words at h;split at h;rename_i x;split at h;rename_i a;simp at a;injection h with h;subst h;refine⟨a.2,?_,λH b=>b⟩;rw[HW,MQ a.1];exact Bh.scalar_cells a.1;cases h;injection h with h;subst h;exact⟨rfl,rfl,λH b=>b⟩;cases h
theorem kg{f c:List Bh}{d n:Nat}(h:ACA j d f n=δ c)(hn:(lvs f).length=n):lvs c=WD (lvs j) d (lvs f)/\d+n<=(lvs j).length/\∀H,lok H j->lok H f->lok H c:=by unfold ACA at h;split at h;rename_i a r i;obtain⟨rfl,l⟩:=OS i;split at h;rename_i m b g;obtain⟨rfl,o⟩:=OS g;refine⟨?_,by simp only[Gl,Af];omega,λH e k=>?_⟩;grind[WD,Gl];grind[I1];cases h;cases h
mutual
theorem Ty.zlvs_ok{H:Am}:∀t:Ty,lok H t.zlvs
 |.bool=>λy a=>by simp only[Ty.zlvs,A7]at a;subst a;trivial
 |.int _=>λy a=>by simp only[Ty.zlvs,A7]at a;subst a;trivial
 |.str=>λy a=>by simp only[Ty.zlvs,A7]at a;subst a;trivial
 |.list _=>λy a=>by simp only[Ty.zlvs,A7]at a;subst a;trivial
 |.arr n t=>λy a=>by simp only[Ty.zlvs,A7]at a;subst a;trivial
 |.prod b=>by simp only[Ty.zlvs];exact b.zlvs_ok
theorem Rp.zlvs_ok{H:Am}:∀a:Rp,lok H a.zlvs
 |.one t=>by simp only[Rp.zlvs];exact t.zlvs_ok
 |.cons t a=>by simp only[Rp.zlvs];exact I1.2 ⟨t.zlvs_ok,a.zlvs_ok⟩
end
def ABo(v:AV):(vC v).enc=[v]:=by cases v<;>rfl
theorem ADR(v:AV):(vC v).ok m:=by cases v<;>trivial
theorem pO:∀z:List AV,lvs (z.map vC)=z
 |[]=>rfl
 |v::r=>by rw[Bn,HW,pO r,ABo];rfl
theorem ABA(z:List AV):lok m (z.map vC):=λx a=>by grind[ADR]
theorem Yb(h:uA P b=δ j):YZ P b=δ (lvs j)/\∀H,lok H j:=by unfold uA at h;split at h;rename_i a t;split at h;rename_i e d;split at h;rename_i c;injection h with h;subst h;exact⟨by rw[t,kL _ _ c],λH=>e.zlvs_ok⟩;grind[pO,ABA];grind[pO,ABA];cases h
theorem sQ{p:ZZ}:∀{a:List (Nat×TV)}{c b:List Bh},xn p c a=δ b->qF p (lvs c) (a.map λq=>(q.1,q.2.enc))=δ (lvs b)/\∀H,lok H c->(∀q∈a,q.2.ok H)->lok H b
 |[],c,b,h=>by simp only[xn,Al]at h;subst h;exact⟨rfl,λH h _=>h⟩
 |(i,v)::r,c,b,h=>by simp only[xn]at h;split at h;rename_i m size B u l;split at h;rename_i k;have e:=Cy k;split at h;rename_i t d;obtain⟨z,A,s⟩:=YY l;obtain⟨x,y,o⟩:=kg d (by rw[dZ,e]);obtain⟨w,n⟩:=sQ h;refine⟨?_,λH g f=>n H (o H g (s H (f (i,v) k!))) λq j=>f q (by simp[j])⟩;grind[qF,dZ];cases h;cases h;cases h
section
variable {P:Program}{R:Type}{env:BT}{H:Am}{k:TV->Option R}{r:R}
theorem xU{a:List (Nat×TV)}(h:zK P b a=δ p):rY P b (a.map λq=>(q.1,q.2.enc))=δ p.enc/\((∀q∈a,q.2.ok H)->p.ok H):=by unfold zK at h;split at h;rename_i z t e j;obtain⟨k,f⟩:=Yb e;rw[VS]at h;obtain⟨g,c,rfl⟩:=h;obtain⟨i,v⟩:=sQ c;refine⟨?_,λd=>v H (f H) d⟩;grind[rY,TV.enc];cases h
def pV:∀{l:List TV}{m:List AV},qm l=δ m->m=l.map TV.enc
 |[],m,h=>by simp only[qm,Al]at h;subst h;rfl
 |.c x::r,m,h=>by simp only[qm]at h;split at h;rename_i b _ a;injection h with h;subst h;rw[Bn,<-pV a];rfl;cases h
 |.g _::_,m,h=>by simp[qm]at h
 |.aptr .. ::_,m,h=>by simp[qm]at h
 |.bptr .. ::_,m,h=>by simp[qm]at h
 |.vw .. ::_,m,h=>by simp[qm]at h
 |.vptr .. ::_,m,h=>by simp[qm]at h
 |.tup _::_,m,h=>by simp[qm]at h
def vJ{y:TV}(h:mmT S p y k=δ r):∃u,mmV S [p.enc,y.enc]=δ u.enc/\k u=δ r/\u.ok H:=by unfold mmT at h;split at h;exact⟨_,by simp only[TV.enc,Bh.one,mmV],h,JW trivial⟩;cases h
def zh{y z:TV}(h:AHC p y z k=δ r):∃u,mm3 p.enc y.enc z.enc=δ u.enc/\k u=δ r/\u.ok H:=by unfold AHC at h;split at h;exact⟨_,by simp only[TV.enc,Bh.one,mm3],h,JW trivial⟩;cases h
theorem vT{F:Op}(ok:Np env H)(h:quT P env H F k=δ r):∃v,CT P (Bq env) (A8 H) F=δ v.enc/\k v=δ r/\v.ok H:=by
 have j:∀x,(JK env x).ok H:=fV ok.env;have g:=LK env;unfold quT at h;split at h;grind[CT];grind[CT];rename_i c a b;split at h;rename_i t K;have w:BI (Bq env) c=.bool t:=by rw[g,K];rfl
 grind[CT,Bool.false_eq_true];cases h;obtain⟨u,d,e⟩:=qN ok.heap (j _) h;grind[CT];rename_i x;split at h;grind[BI,Bq,CT,jO,TV.enc,Bh.one,JW];grind[BI,Bq,CT,TV.enc,Bh.one,JW];grind[BI,Bq,lvs,CT,TV.enc];grind[BI,Bq,CT,jO,TV.enc];rename_i id D_ G n i B s;split at h;rename_i l A;have w:BI (Bq env) x=.ptr id n (i.toNat*G.sz+B):=by rw[g,s];rfl
 have:=j x;rw[s]at this;exact⟨_,by simp only[CT,w,nJ ok.heap (this (.own id D_ G n) (by simp[TV.refs])) A,if_true,TV.enc],h,this⟩;cases h;cases h;simp_all[zG,CT];obtain⟨u,d,e⟩:=ACF (H:=H) h;exact⟨u,by simp only[CT,g,d],e⟩;obtain⟨u,d,e⟩:=xa ok.heap (j _) h;exact⟨u,by simp only[CT,g,d],e⟩;obtain⟨u,d,e⟩:=o6 ok.heap (j _) h;exact⟨u,by simp only[CT,g,d],e⟩;obtain⟨u,d,e⟩:=wJ (j _) h;exact⟨u,by simp only[CT,g,d],e⟩;obtain⟨u,d,e⟩:=pK ok.heap (j _) h;exact⟨u,by simp only[CT,g,d],e⟩;obtain⟨u,d,e⟩:=wR (H:=H) (j _) h;exact⟨u,by simp only[CT,g,d],e⟩;rename_i t x Q O R;obtain⟨u,d,e⟩:=wt ok.heap (j _) h;have q:∀o:Option Operand,o.map (BI (Bq env))=(o.map (JK env)).map TV.enc:=by
  intro o;cases o with
  |none=>rfl
  |some y=>simp only[Bd,g]
 exact⟨u,by simp only[CT,g,q,d],e⟩;rename_i x i;split at h;rename_i N s;split at h;rename_i v z;have w:BI (Bq env) x=.tup (N.map TV.enc):=by rw[g,s];simp only[TV.enc,sM]
 have E:=j x;rw[s]at E;exact⟨v,by simp only[CT,w,B6,z,Bd],h,pT E (BM z)⟩;cases h;cases h;rename_i f a b;split at h;rename_i l m A L;refine⟨_,?_,h,JW trivial⟩;have q:∀o:List Operand,o.map (BI (Bq env))=(o.map (JK env)).map TV.enc:=by intro o;rw[QM];exact Ms λy _=>g y
 simp only[CT,q,<-pV A,<-pV L,TV.enc,Bh.one];cases h;rename_i t C;obtain⟨v,z,h⟩:=V9 h;obtain⟨I,J⟩:=xU (H:=H) z;refine⟨v,?_,h,J λq M=>?_⟩;simp only[CT];rw[<-I,QM];congr 1;exact Ms λp _=>by simp only[Function.comp,g]
 obtain⟨p,_,rfl⟩:=Bk.1 M;exact j _;obtain⟨u,d,e⟩:=za ok.heap (j _) h;exact⟨u,by simp only[CT,g,d],e⟩;obtain⟨u,d,e⟩:=vJ (H:=H) h;exact⟨u,by simp only[CT,g,d],e⟩;obtain⟨u,d,e⟩:=vJ (H:=H) h;exact⟨u,by simp only[CT,g,d],e⟩;obtain⟨u,d,e⟩:=zh (H:=H) h;exact⟨u,by simp only[CT,g,d],e⟩;cases h
end
def Conv(x y:Cx)(v v':AV):Prop:=∀c,Bi x v c->Bi y v' c
def Sm(x y:Cx)(H H2:Ap):Prop:=
 θ H2=θ H/\∀(j:Nat)(e':E5),H2[j]?=δ e'->e'=.dead\/
  (∃g cs cs',H[j]?=δ (.live g cs)/\e'=.live g cs'/\θ cs'=θ cs/\∀(i:Nat)(v':AV),cs'[i]?=δ v'->∃v,cs[i]?=δ v/\Conv x y v v')\/
  (H[j]?=δ e'/\∀g cs,e'≠.live g cs)
theorem Sm.refl(x:Cx)(H:Ap):Sm x x H H:=by
 refine⟨rfl,λj a d=>?_⟩;cases a with
 |live g c=>exact .inr (.inl ⟨g,c,c,d,rfl,rfl,λi v b=>⟨v,b,λ_ r=>r⟩⟩)
 |_=>grind
theorem Sm.own{H d:Ap}{h:Gh}(hr:Sm k y H d):∀B,owned h d B->owned h H B:=by rintro B ⟨j,f,i,c,a⟩;rcases hr.2 j f i with b|⟨g,x,e,b,_⟩|⟨b,_⟩;grind;exact⟨j,_,b,k!,a⟩;exact⟨j,_,b,c,a⟩
def Sm.later{h:Gh}{H a:Ap}{w:World}{x y:Cx}(hr:Sm x y H a):(cx X h H w).Later (cx X h a w):={size:=Ai _,keep:=λ_ _ _ _=>rfl,own:=λB _ b=>b.imp _root_.id (hr.own B),n:=by simp[cx,hr.1],gen:=λ_ _=>Ai _,same:=λ_ _ _=>⟨rfl,rfl⟩}
theorem IC.rel{X:Nat->Prop}{h:Gh}{n:Ap}(H:IC X h q s)(hr:Sm (cx X h q s) (cx X h n s) q n):IC X h n s:=by
 have y:=hr.own (h:=h);have M:(cx X h q s).Later (cx X h n s):=hr.later;have back:∀{j:Nat}{e:E5},n[j]?=δ e->e≠.dead->∃N,q[j]?=δ N/\N≠.dead:=by intro j e l af;rcases hr.2 j e l with a|⟨g,z,C,a,_⟩|⟨a,_⟩;grind;grind;grind
 refine⟨λB p=>⟨(H.out B p).1,λho=>(H.out B p).2 (y B ho)⟩,λj R C l=>?_,λj L l=>?_,λi j e e' B a c J K O D_=>?_,H.bldKeep λj e l p=>?_⟩;rcases hr.2 j _ l with a|⟨g,z,o,a,c,O,D_⟩|⟨_,a⟩;cases a;injection c with S U;subst S U;obtain⟨I,Y⟩:=H.live j R z a;refine⟨I,?_⟩;rcases Y with⟨k,h0⟩|⟨B,A,T,Q,f,k,W,w,ad,G,b⟩;refine .inl ⟨k,?_⟩;grind;refine .inr ⟨B,A,T,Q,f,k,W,w,o!,G,λi v' Z=>?_⟩;obtain⟨v,hv,V⟩:=D_ i v' Z;obtain⟨p1,p2,p3⟩:=b i v hv;exact⟨p1,p2,V _ p3⟩;grind;rcases hr.2 j _ l with a|⟨g,z,o,_,c,_⟩|⟨a,_⟩;cases a;cases c;obtain⟨I,B,r,q1,q2,q3,q4,q5,q6,q7,q8,P⟩:=H.lp j L a;exact⟨I,B,r,q1,q2,q3,q4,q5,q6,q7,q8,λt v m=>⟨(P t v m).1,(P t v m).2.later M⟩⟩;obtain⟨d,E,F⟩:=back a J;obtain⟨d',u,x⟩:=back c K;exact H.inj i j _ _ B E u F x O D_;refine⟨?_,rfl,rfl,rfl,λ_ _ _ _ _=>rfl⟩;rcases hr.2 j _ l with a|⟨g,z,o,_,c,_⟩|⟨a,_⟩;subst a;cases p;subst c;cases p;exact a
theorem Sm.onto{a:Ap}(hr:Sm (cx X h q s) (cx X h q s) q a):Sm (cx X h q s) (cx X h a s) q a:=by have e:(cx X h q s).Later (cx X h a s):=hr.later;refine⟨hr.1,λj k p=>?_⟩;rcases hr.2 j k p with d|⟨g,f,b,d,l,m,n⟩|d;grind;refine .inr (.inl ⟨g,f,b,d,l,m,λi t o=>?_⟩);obtain⟨v,w,H⟩:=n i t o;exact⟨v,w,λc r=>(H c r).later e⟩;grind
def Vp{env2:Env}{b:Ap}(i:θ b=θ q)(hr:∀X h w,IC X h q w→Sm (cx X h q w) (cx X h b w) q b∧ ∀t c,(t,c)∈env2→ ∃v,(t,v)∈A∧Conv (cx X h q w) (cx X h b w) v c):
  E4 N (θ q) A q env2 b:=by
 refine⟨o!,λX h a w s=>?_⟩;obtain⟨e,g⟩:=hr X h w s.sim;refine⟨h,⟨s.sim.rel e,λt c m=>?_,s.size⟩,λ_ _=>⟨rfl,rfl,rfl⟩,e.own⟩;obtain⟨v,d,f⟩:=g t c m;exact⟨(s.env t v d).1,f _ (s.env t v d).2⟩
def Sm.ext{X:Nat->Prop}{c:Gh}{H a b:Ap}{d:World}(hr:Sm k y H b)(e:Gq c a d h H s):Gq c a d h b s where
 os:=e.os
 tape:=e.tape
 output:=e.output
 size:=e.size
 keep:=e.keep
 n:=by rw[hr.1];exact e.n
 gen:=e.gen
 same:=e.same
 fresh B hB:=e.fresh B (hr.own B hB)
 loops:=e.loops
def JI.after{N:Nat}{H:Ap}{v g:AV}{H1 b:Ap}(h:JI P N o A H (Cw v H1))
  (hr:∀X h w,IC X h H1 w->Sm (cx X h H1 w) (cx X h b w) H1 b/\Conv (cx X h H1 w) (cx X h b w) v g):JI P N o A H (Cw g b):=by
 intro r X i a w s Q;apply Vl (h r X i a w s Q);rintro q n ⟨c,u,d,p,j,⟨rfl,rfl⟩,k,e,l⟩;obtain⟨f,m⟩:=hr X d n e;exact⟨c,_,d,_,j,⟨rfl,rfl⟩,m _ k,e.rel f,Sm.ext (X:=X) f l⟩
def JI.before{N:Nat}{env2:Env}{H H2:Ap}{K:AV->Ap->Prop}(b:E4 N (θ H) A H env2 H2)(h:JI P N o env2 H2 K):JI P N o A H K:=by intro r X g a w s Q;obtain⟨f,q,j,l⟩:=b.2 X g a w s;apply Vl (h r X f a w q Q);rintro t u ⟨c,v,e,d,i,k,n,m,p⟩;exact⟨c,v,e,d,i,k,n,m,(E4.ext rfl b.1 j l (Gq.refl g H w)).trans p⟩
def ET.before{args args2:List AV}{H H2:Ap}(hn:θ args2=θ args)
  (hr:∀X h w,IC X h H w->Sm (cx X h H w) (cx X h H2 w) H H2/\∀(j:Nat)(b:AV),args2[j]?=δ b->∃v,args[j]?=δ v/\Conv (cx X h H w) (cx X h H2 w) v b)
  (h:ET P z args2 H2 W):ET P z args H W:=by
 intro X g w a s o l;obtain⟨f,r⟩:=hr X g w s;refine(h X g w a (s.rel f) o! λj b c n m=>?_).mono ?_;obtain⟨v,p,d⟩:=r j b n;exact d _ (l j v c p m);rintro e y ⟨c,v,k,i,rfl,q,u,t,x⟩;exact⟨c,v,k,i,rfl,q,u,t,(Sm.ext (X:=X) f (Gq.refl g H w)).trans x⟩
def WK(v v':AV):Prop:=∀(x:Cx)(c:Value),Bi x v c->Bi x v' c
def WK.refl(v:AV):WK v v:=λ_ _ h=>h
def WK.nil{sz:Nat}(h:0<sz):WK .nils (.vs sz []):=λ_ _ r=>r.nil_vs h
def Da(cs cs':List AV):Prop:=θ cs'=θ cs/\∀(i:Nat)(v':AV),cs'[i]?=δ v'->∃v,cs[i]?=δ v/\WK v v'
theorem Da.refl(a:List AV):Da a a:=⟨rfl,λ_ v h=>⟨v,h,.refl v⟩⟩
theorem Da.append{b f:List AV}(c:Da g U)(a:Da b f):Da (g++b) (U++f):=by refine⟨by simp[c.1,a.1],λi l h=>?_⟩;rcases Ar i (θ U) with d|d;rw[CO d]at h;obtain⟨v,j,k⟩:=c.2 i l h;grind;rw[Ce d]at h;obtain⟨v,j,k⟩:=a.2 _ l h;exact⟨v,by rw[Ce (by rw[<-c.1];exact d),<-c.1];exact j,k⟩
theorem Da.one{b:AV}(h:WK v b):Da [v] [b]:=⟨rfl,λi u a=>by
 match i,a with
 |0,a=>grind
 |i+1,a=>simp at a⟩
def Da.agg{b a:List AV}(h:Da b a):WK (.agg b) (.agg a):=by
 intro x c r;cases r with
 |agg i e hr=>refine .agg (by rw[i,h.1]) e λj m d g f=>?_;obtain⟨v,k,l⟩:=h.2 j m g;exact l _ _ (hr j v d k f)
mutual
def Ty.mk:(t:Ty)->List Bh->Option (t.D×List Bh)
 |.bool,.bl b::r=>δ (b,r)
 |.int k,.it k' n::r=>if k=k' then δ (n,r)else ε
 |.str,.st s::r=>δ (s,r)
 |.list t,.ls t' l::r=>if h:(Ty.list t').beq (Ty.list t)=ζ then δ (Ty.cast h l,r)else ε
 |.list _,.nil::r=>δ ([],r)
 |.arr n t,.ar n' t' a::r=>if h:(Ty.arr n' t').beq (Ty.arr n t)=ζ then δ (Ty.cast h a,r)else ε
 |.prod ts,ls=>ts.mk ls
 |_,_=>ε
def Rp.mk:(ts:Rp)->List Bh->Option (ts.D×List Bh)
 |.one t,ls=>t.mk ls
 |.cons t ts,ls=>
  match t.mk ls with
  |some (x,r)=>match ts.mk r with|some (y,r')=>δ ((x,y),r')|none=>ε
  |none=>ε
end
mutual
theorem Ty.mk_spec:∀(t:Ty)(b:List Bh)(x:t.D)(r:List Bh),t.mk b=δ (x,r)->∃a,b=a++r/\Da (lvs a) (t.enc x).cells
 |.bool,b,x,r,h=>by
  cases b with
  |nil=>simp[Ty.mk]at h
  |cons y b=>
   cases y<;>simp only[Ty.mk]at h<;>try (cases h;done)
   simp only[Al,EI]at h;obtain⟨rfl,rfl⟩:=h;exact⟨[_],rfl,Da.refl _⟩
 |.int k,b,x,r,h=>by
  cases b with
  |nil=>simp[Ty.mk]at h
  |cons y b=>
   cases y<;>simp only[Ty.mk]at h<;>try (cases h;done)
   split at h;rename_i f;subst f;simp only[Al,EI]at h;obtain⟨rfl,rfl⟩:=h;exact⟨[_],rfl,Da.refl _⟩;cases h
 |.str,b,x,r,h=>by
  cases b with
  |nil=>simp[Ty.mk]at h
  |cons y b=>
   cases y<;>simp only[Ty.mk]at h<;>try (cases h;done)
   simp only[Al,EI]at h;obtain⟨rfl,rfl⟩:=h;exact⟨[_],rfl,Da.refl _⟩
 |.list t,b,x,r,h=>by
  cases b with
  |nil=>simp[Ty.mk]at h
  |cons y b=>
   cases y<;>simp only[Ty.mk]at h<;>try (cases h;done)
   split at h;rename_i c;simp only[Al,EI]at h;obtain⟨rfl,rfl⟩:=h;refine⟨[_],rfl,?_⟩;have d:((Ty.list t).enc (Ty.cast c ‹_›))=_:=cK c _;rw[d];exact Da.refl _;cases h;simp only[Al,EI]at h;obtain⟨rfl,rfl⟩:=h;exact⟨[_],rfl,Da.one (WK.nil t.sz_pos)⟩
 |.arr n t,b,x,r,h=>by
  cases b with
  |nil=>simp[Ty.mk]at h
  |cons y b=>
   cases y<;>simp only[Ty.mk]at h<;>try (cases h;done)
   split at h;rename_i c;simp only[Al,EI]at h;obtain⟨rfl,rfl⟩:=h;refine⟨[_],rfl,?_⟩;have d:((Ty.arr n t).enc (Ty.cast c ‹_›))=_:=cK c _;rw[d];have e:∀y:Bh,lvs [y]=y.enc:=λy=>by rw[HW];simp[lvs]
   rw[e];exact Da.refl _;cases h
 |.prod ts,b,x,r,h=>ts.mk_spec b x r (by simpa only[Ty.mk]using h)
theorem Rp.mk_spec:∀(d:Rp)(c:List Bh)(x:d.D)(r:List Bh),d.mk c=δ (x,r)->∃a,c=a++r/\Da (lvs a) (d.cells x)
 |.one t,c,x,r,h=>t.mk_spec c x r (by simpa only[Rp.mk]using h)
 |.cons t d,c,x,r,h=>by simp only[Rp.mk]at h;split at h;rename_i y e f;split at h;rename_i z k g;simp only[Al,EI]at h;obtain⟨rfl,rfl⟩:=h;obtain⟨a,rfl,i⟩:=t.mk_spec c y e f;obtain⟨b,rfl,j⟩:=d.mk_spec e z k g;exact⟨a++b,by rw[A5],by rw[Gl];exact i.append j⟩;cases h;cases h
end
def Ty.isAgg:Ty->Bool
 |.arr .. =>ζ
 |.prod _=>ζ
 |_=>η
def Ty.all(t:Ty)(ls:List Bh):Option t.D:=
 match t.mk ls with
 |some (x,[])=>δ x
 |_=>ε
theorem FV{x:t.D}(h:t.all j=δ x):Da (Go.Ab.lvs j) (t.enc x).cells:=by unfold Ty.all at h;split at h;rename_i y c;obtain⟨a,rfl,d⟩:=t.mk_spec j y [] c;grind;cases h
def Ty.data(t:Ty)(v:TV):Option t.D:=
 match v with
 |.c x=>match t.isAgg|| !x.scalar with|true=>ε|false=>t.all [x]
 |.g cs=>match t.isAgg with|true=>t.all cs|false=>ε
 |_=>ε
def Ty.scalar_cells(h:t.isAgg=η)(x:t.D):(t.enc x).cells=[t.enc x]:=by cases t<;>first|rfl|cases h
def Ty.agg_enc(h:t.isAgg=ζ)(x:t.D):t.enc x=.agg (t.enc x).cells:=by cases t<;>first|rfl|cases h
def Jh{v:TV}{x:t.D}(h:t.data v=δ x):WK v.enc (t.enc x):=by unfold Ty.data at h;split at h;rename_i y;split at h;cases h;rename_i a;simp at a;have:=FV h;rw[t.scalar_cells a.1,HW,MQ a.2]at this;obtain⟨u,b,c⟩:=this.2 0 _ rfl;simp at b;subst b;exact c;rename_i d;split at h;rename_i a;have:=(FV h).agg;rw[<-t.agg_enc a]at this;exact this;cases h;cases h
def Ty.tv(t:Ty)(x:t.D):TV:=
 match t,x with
 |.bool,b=>.c (.bl b)
 |.int k,n=>.c (.it k n)
 |.str,s=>.c (.st s)
 |.list t,l=>.c (.ls t l)
 |.arr n t,a=>.g [.ar n t a]
 |.prod ts,x=>.g (ts.lvs x)
def Ty.tv_enc(t:Ty)(x:t.D):(t.tv x).enc=t.enc x:=by
 cases t with
 |arr n t=>
  have a:∀y:Bh,Go.Ab.lvs [y]=y.enc:=λy=>by rw[HW];simp[Go.Ab.lvs]
  simp only[Ty.tv,TV.enc,a];rfl
 |prod b=>simp only[Ty.tv,TV.enc,b.lvs_cells];rfl
 |_=>rfl
def Ty.tv_ok(t:Ty)(x:t.D):(t.tv x).ok m:=by
 cases t with
 |prod a=>exact a.lvs_ok x
 |_=>exact JW trivial
def Di.ro:Di->Bool
 |.dead=>η
 |.live b _=>b
 |.buf b _ _ _ _=>b
 |.lp b _ _ _ _ _ _ _=>b
 |.mp b _ _ _=>b
def Di.isLp:Di->Bool
 |.lp .. =>ζ
 |_=>η
def LpS(H H':Am):Prop:=∀(id:Nat),id<θ H->∀ro F n env ps a b s,H'[id]?=δ (.lp ro F n env ps a b s)->∃ro0 s0,H[id]?=δ (.lp ro0 F n env ps a b s0)
def LpS.refl(H:Am):LpS H H:=λ_ _ _ _ _ _ _ _ _ _ h=>⟨_,_,h⟩
def Di.lock:Di->Di
 |.dead=>.dead
 |.live _ cs=>.live ζ cs
 |.buf _ t l n ver=>.buf ζ t l n ver
 |.lp _ F n env ps a b s=>.lp ζ F n env ps a b s
 |.mp _ k t es=>.mp ζ k t es
theorem nu(e:Di):e.lock.enc=e.enc:=by cases e<;>rfl
structure Bz(H H':Am):Prop where
 len:H.length<=H'.length
 refs:∀id ver t n,Rf H id ver t n->Rf H' id ver t n
 ro:∀(id:Nat)(e:Di),H[id]?=some e->e.ro=true->H'[id]?=some e
 nb:∀id,id<H.length->(∀t l n ver,H[id]? ≠some (.buf false t l n ver))->∀t l n ver,H'[id]? ≠some (.buf false t l n ver)
 lp:LpS H H'
theorem Bz.refl(H:Am):Bz H H:=⟨Ai _,λ_ _ _ _ h=>h,λ_ _ h _=>h,λ_ _ h=>h,.refl H⟩
def Bz.trans{a b c:Am}(h:Bz a b)(k:Bz b c):Bz a c:=⟨C9 h.len k.len,λid d t n q=>k.refs id d t n (h.refs id d t n q),λid e q r=>k.ro id e (h.ro id e q r) r,λid q r=>k.nb id (C2 q h.len) (h.nb id q r),λid q _ _ _ _ _ _ _ _ r=>by obtain⟨g,i,f⟩:=k.lp id (C2 q h.len) _ _ _ _ _ _ _ _ r;exact h.lp id q _ _ _ _ _ _ _ _ f⟩
def Bz.leaf(h:Bz m l)(k:J.ok m):J.ok l:=by
 cases J with
 |own id a t n=>exact h.refs id a t n k
 |_=>trivial
def Bz.lok(h:Bz m l)(k:lok m j):lok l j:=λx c=>h.leaf (k x c)
def Bz.tv(h:Bz m l)(k:p.ok m):p.ok l:=h.lok k
def Bz.ent(h:Bz m l)(k:O.ok m):O.ok l:=by
 cases O with
 |live b d=>exact h.lok k
 |buf b t H n c=>exact k
 |dead=>trivial
 |lp=>exact k
 |mp=>exact k
def Bz.env{H a:Am}(h:Bz H a){env:BT}(k:∀p∈env,p.2.ok H):∀p∈env,p.2.ok a:=λp b=>h.tv (k p b)
theorem Bz.push(H:Am)(e:Di):Bz H (H++[e]):=by refine⟨k!,λid g t n h=>⟨by have:=h.1;simp;omega,λro f l d a b=>?_⟩,λid i b hr=>?_,λid c h=>q!,λid c _ _ _ _ _ _ _ _ h=>q!⟩;rw[CO h.1]at b;exact h.2 ro f l d a b;grind
def Bz.set{H:Am}{id:Nat}{r:Di}(o:H[id]?=δ O)(hr:O.ro=η)
  (z:∀ro t l n k,r=.buf ro t l n k->∃d v p f,O=.buf d t v p f/\(f<k\/(f=k/\p=n)))
  (D_:∀ro F n env A a b s,r=.lp ro F n env A a b s->∃d x,O=.lp d F n env A a b x:=by intro _ _ _ _ _ _ _ _ h;cases h):Bz H (H.set id r):=by
 have m:id<θ H:=by rcases Ar id (θ H) with u|u;exact u;rw[Cf u]at o;cases o
 refine⟨k!,λj k t n h=>⟨by simpa using h.1,λro K l J C g=>?_⟩,λj I g y=>?_,λj g h t l n k i=>?_,λj g _ _ _ _ _ _ _ _ i=>?_⟩;by_cases c:j=id;subst c;rw[GJ m]at g;injection g with g;obtain⟨d,v,p,f,w,B⟩:=z _ _ _ _ _ g;subst w;obtain⟨E,G⟩:=h.2 _ _ _ _ _ o;rcases B with B|⟨rfl,rfl⟩;exact⟨o!,λO=>o!⟩;exact⟨E,G⟩;rw[DD (λO=>c O.symm)]at g;exact h.2 _ _ _ _ _ g;have c:j≠id:=by rintro rfl;rw[o]at g;injection g with g;subst g;rw[hr]at y;cases y
 rw[DD (λO=>c O.symm)];exact g;by_cases c:j=id;subst c;rw[GJ m]at i;injection i with i;obtain⟨d,v,p,f,w,_⟩:=z _ _ _ _ _ i;subst w;have:d=η:=hr;subst this;exact h _ _ _ _ o;rw[DD (λO=>c O.symm)]at i;exact h _ _ _ _ i;by_cases c:j=id;subst c;rw[GJ m]at i;injection i with i;obtain⟨d,x,q⟩:=D_ _ _ _ _ _ _ _ _ i;exact⟨d,x,by rw[o,q]⟩;rw[DD (λO=>c O.symm)]at i;exact⟨_,_,i⟩
theorem PW{H:Am}(h:∀x∈H,x.ok H)(b:O.ok (H++[O])):∀x∈H++[O],x.ok (H++[O]):=by intro x a;rcases Ao.1 a with a|a;exact(Bz.push H O).ent (h x a);grind
def RG{H:Am}{id:Nat}(d:Bz H (H.set id O))(h:∀x∈H,x.ok H)(c:O.ok (H.set id O)):∀x∈H.set id O,x.ok (H.set id O):=by intro x b;rcases VN b with b|rfl;exact d.ent (h x b);exact c
def Frame(F:List Nat)(H H':Am):Prop:=∀j,j<θ H->j∉F->H'[j]?=H[j]?
def Frame.refl(F:List Nat)(H:Am):Frame F H H:=λ_ _ _=>rfl
def Frame.push(F:List Nat)(H:Am)(e:Di):Frame F H (H++[e]):=λ_ a _=>CO a
theorem Frame.set{F:List Nat}{H:Am}{id:Nat}(h:id∈F):Frame F H (H.set id O):=λj _ hn=>DD λq:id=j=>hn q!
def idT:TV->List Nat
 |.c (.raw a)=>pI a
 |.c (.own id _ _ _)=>[id]
 |.aptr id .. =>[id]
 |.bptr id .. =>[id]
 |.vw id .. =>[id]
 |_=>[]
def AFL(v:TV):∀id∈pI v.enc,id∈idT v:=by
 cases v with
 |c x=>
  cases x with
  |_=>exact λ_ h=>h
 |vw id a t n b m=>intro i h;simp only[TV.enc,vwE]at h;split at h;split at h;exact h;cases h;exact h
 |_=>exact λ_ h=>h
def Q4(H:Am)(e:Di):A8 (H++[e])=A8 H++[e.enc]:=by simp[A8]
theorem Kx(H:Am)(id:Nat)(e:Di):A8 (H.set id e)=(A8 H).set id e.enc:=by simp[A8]
theorem CK(H:Am):(A8 H).length=θ H:=B7 _
section
variable {R:Type}
def storeT(P:Program)(H:Am)(t:TypeId)(p v:TV)(k:TV->Am->Option R):Option R:=
 match v.words,tI P t with
 |some ws,δ (_,n)=>
  match ξ (AET ws) n with
  |false=>ε
  |true=>
   match p with
   |.c (.raw (.ptr id 0 off))=>
    match H[id]? with
    |some (.live η cs)=>match ACA cs off ws n with|some cs'=>k Up (H.set id (.live η cs'))|none=>ε
    |_=>ε
   |.aptr id base m te i off=>
    match H[id]? with
    |some (.live η cs)=>
     match Wh cs base with
     |some (pre,.ar m' te' a::post)=>
      if h:(Ty.arr m' te').beq (Ty.arr m te)=ζ then
       (Fm (n:=m+1) (Ty.cast h a) i).bind λe=>
        match ACA (te.lvs e) off ws n with
        |some ls=>match te.all ls with|some e'=>k Up (H.set id (.live η (pre++(.ar m te (WN (n:=m+1) (Ty.cast h a) i e')::post))))|none=>ε
        |none=>ε
      else ε
     |_=>ε
    |_=>ε
   |.bptr id ver te _ i off=>
    match H[id]? with
    |some (.buf η te' l n' ver')=>
     match ξ ver ver' with
     |true=>
      if h:(Ty.list te').beq (Ty.list te)=ζ then
       (ix (α:=te.D) (Ty.cast h l) i).bind λe=>
        match ACA (te.lvs e) off ws n with
        |some ls=>match te.all ls with|some e'=>k Up (H.set id (.buf η te (E2 (α:=te.D) (Ty.cast h l) i e') n' ver'))|none=>ε
        |none=>ε
      else ε
     |false=>ε
    |_=>ε
   |_=>ε
 |_,_=>ε
theorem yk{b d:List AV}(h:N+θ d<=θ U):WD (g++U++b) (θ g+N) d=g++WD U N d++b:=by
 unfold WD;have e:(g++U++b).take (θ g+N)=g++U.take N:=by rw[A5,dn,BK o!,Su,dp o!]
 have f:(g++U++b).drop (θ g+N+θ d)=U.drop (N+θ d)++b:=by grind[List.drop_drop,List.drop_left]
 grind
theorem Sm.set_less{H m n:Ap}{g:Nat}{f cs':List AV}(x:N<θ H)(s:m=H.set N (.live g f))(t:n=H.set N (.live g cs'))(o:Da f cs')(d:k.Later y):Sm k y m n:=by
 subst s t;refine⟨k!,λj p a=>?_⟩;by_cases b:j=N;subst b;rw[GJ x]at a;injection a with a;subst a;refine .inr (.inl ⟨g,f,cs',q!,rfl,o.1,λi l h=>?_⟩);obtain⟨v,u,w⟩:=o.2 i l h;exact⟨v,u,λc r=>w _ _ (r.later d)⟩;rw[DD (λe=>b e.symm)]at a;cases p with
 |live q c0=>exact .inr (.inl ⟨q,c0,c0,q!,rfl,rfl,λi l h=>⟨l,h,λc r=>r.later d⟩⟩)
 |_=>grind
theorem gK{b:Ap}(l:θ b=θ q)(i:∀(j:Nat)(e:E5),b[j]?=δ e->e≠.dead->∃a,q[j]?=δ a/\a≠.dead):(cx X h q s).Later (cx X h b s):={size:=Ai _,keep:=λ_ _ _ _=>rfl,gen:=λ_ _=>Ai _,same:=λ_ _ _=>⟨rfl,rfl⟩,n:=by simp[cx,l],own:=λB _ m=>m.imp _root_.id (λ⟨j,e,k,d,c⟩=>by obtain⟨a,f,g⟩:=i j e k d;exact⟨j,a,f,g,c⟩)}
theorem JI.set_less{N:Nat}{g:Nat}{b cs':List AV}(d:n<θ q)(h:JI P N o A q (Cw v (q.set n (.live g b))))(f:Da b cs'):JI P N o A q (Cw v (q.set n (.live g cs'))):=by
 refine JI.after h λX e w _=>?_;have a:(cx X e (q.set n (.live g b)) w).Later (cx X e (q.set n (.live g cs')) w):=by grind[gK]
 exact⟨Sm.set_less d rfl rfl f a,λc r=>r.later a⟩
theorem G0{l:List R}{x:R}(h:l[N]?=δ x):N<θ l:=q!
variable {P:Program}{N:Nat}{o:Oper}{env:BT}{H:Am}{k:TV->Am->Option R}{r:R}
def lZ(P:Program)(N:Nat)(o:Oper)(env:BT)(H:Am)(F:List Nat)(k:TV->Am->Option R)(r:R):Prop:=
 ∃v H',JI P N o (Bq env) (A8 H) (Cw v.enc (A8 H'))/\k v H'=δ r/\v.ok H'/\(∀e∈H',e.ok H')/\Bz H H'/\Frame F H H'
theorem wu(ok:Np env H)(ho:o.op=.store b d T)(h:storeT P H b (JK env d) (JK env T) k=δ r):lZ P N o env H (idT (JK env d)) k r:=by
 have V:=LK env;have ax:(JK env T).ok H:=fV ok.env T;have ag:(JK env d).ok H:=fV ok.env d;unfold storeT at h;split at h;rename_i ws y n hw ht;obtain⟨w1,Y,w3⟩:=YY hw;split at h;cases h;rename_i hn;have f:(lvs ws).length=n:=by grind[dZ,Nat.eq_of_beq_eq_true]
 have R:tI P b=δ (y,(JK env T).enc.cells.length):=q!
 split at h;rename_i id x F;split at h;rename_i cs u;split at h;rename_i L hs;obtain⟨s1,s2,s3⟩:=kg hs f;have B:(A8 H)[id]?=δ (.live 0 (lvs cs)):=by rw[Dy,u];rfl
 have j:Bz H (H.set id (.live η L)):=Bz.set u rfl λ_ _ _ _ _ h=>by cases h
 refine⟨Up,_,JI.store ho (id:=id) (g:=0) (off:=x) (v:=(JK env T).enc) (by rw[V,F];rfl) (V T) w1 B R (by rw[Y,f];exact s2) ⟨rfl,?_⟩,h,gW,RG j ok.heap (j.lok (s3 H (ok.heap _ (BM u)) (w3 H ax))),j,Frame.set (by rw[F];exact A7.2 rfl)⟩;rw[Kx,Y,<-s1];rfl;cases h;cases h;rename_i id w m te i x F;split at h;rename_i cs u;split at h;rename_i pre W c a p hs;split at h;rename_i hb;have t:=Ty.beq_eq _ _ hb;injection t with hm S;subst hm S;obtain⟨e,hg,h⟩:=DB.1 h;split at h;rename_i ls Q;split at h;rename_i M A;obtain⟨ad,I⟩:=OS hs;obtain⟨s1,s2,_⟩:=kg Q f;have s:=FV A;have q:(Ty.cast hb a:GF (W+1) c.D)=a:=rfl;rw[q]at hg h;obtain⟨h0,G,rfl,rfl⟩:=oI hg;obtain⟨J,Z,q1,q2,q3⟩:=rW c.E a G;have B:(A8 H)[id]?=δ (.live 0 (lvs pre++J++(c.enc (a G)).cells++(Z++lvs p))):=by rw[Dy,u,ad];show δ (E5.live 0 (lvs (pre++(.ar W c a::p))))=_;rw[Gl,HW,ay,q1];simp only[A5];rfl
 have j:Bz H (H.set id (.live η (pre++(.ar W c (WN (n:=W+1) a (G.val:Int) M)::p)))):=Bz.set u rfl λ_ _ _ _ _ h=>by cases h
 have af:lok H cs:=ok.heap _ (BM u);rw[ad]at af;obtain⟨o1,o2⟩:=I1.1 af;refine⟨Up,_,?_,h,gW,RG j ok.heap (j.lok (I1.2 ⟨o1,λz hz=>?_⟩)),j,Frame.set (by rw[F];exact A7.2 rfl)⟩;have C:x+(lvs ws).length<=(c.enc (a G)).cells.length:=by rw[f,<-c.lvs_enc];exact s2
 have st:=JI.store (P:=P) (N:=N) (K:=Cw .any ((A8 H).set id (.live 0 (WD (lvs pre++J++(c.enc (a G)).cells++(Z++lvs p)) (w+(G.val:Int).toNat*c.sz+x) (JK env T).enc.cells)))) ho (id:=id) (g:=0)
  (off:=w+(G.val:Int).toNat*c.sz+x) (v:=(JK env T).enc) (by rw[V,F];rfl) (V T) w1 B R (by rw[Y,f];simp only[Af,q2,I];have:c.E.sz=c.sz:=rfl;rw[f]at C;simp only[Cz,this];omega) ⟨rfl,rfl⟩
 have ea:w+(G.val:Int).toNat*c.sz+x=(lvs pre++J).length+x:=by rw[Af,I,q2,Cz];rfl
 rw[Y,ea,yk C]at st;have O:=JI.set_less (cs':=lvs (pre++(.ar W c (WN (n:=W+1) a (G.val:Int) M)::p))) (by rw[CK];exact G0 u) st (by rw[Gl,HW,ay,q3 M];simp only[A5];refine(Da.refl _).append ((Da.refl _).append (Da.append ?_ (Da.refl _)));rw[<-c.lvs_enc,<-s1];exact s);rw[Kx];exact O;rcases A1.1 hz with rfl|hz;trivial;exact o2 z (by simp[hz]);cases h;cases h;cases h;cases h;cases h;rename_i id U te nn i x F;split at h;rename_i c l X a0 u;split at h;rename_i hv;have ap:=Cy hv;subst ap;split at h;rename_i hb;have t:=Ty.beq_eq _ _ hb;injection t with S;subst S;obtain⟨e,hg,h⟩:=DB.1 h;split at h;rename_i ls Q;split at h;rename_i M A;obtain⟨s1,s2,_⟩:=kg Q f;have s:=FV A;have q:(Ty.cast hb l:List c.D)=l:=rfl;rw[q]at hg h;obtain⟨J,Z,q1,q2,q3,q4,_,q5⟩:=sC c.E hg;have hr:Rf H id U c nn:=by rw[F]at ag;exact ag (.own id U c nn) (by simp[TV.refs])
 obtain⟨_,ao⟩:=hr.2 _ _ _ _ _ u;obtain⟨_,rfl⟩:=ao rfl;have al:X=θ l:=ok.heap _ (BM u);have B:(A8 H)[id]?=δ (.live X (J++(c.enc e).cells++Z)):=by rw[Dy,u];show δ (E5.live X (c.E.cl l))=_;rw[q1];rfl
 have j:Bz H (H.set id (.buf η c (E2 l i M) X U)):=Bz.set u rfl λ_ _ _ _ _ h=>by cases h;exact⟨_,_,_,_,rfl,.inr ⟨rfl,rfl⟩⟩
 refine⟨Up,_,?_,h,gW,RG j ok.heap ((tJ al.symm).symm),j,Frame.set (by rw[F];exact A7.2 rfl)⟩;have C:x+(lvs ws).length<=(c.enc e).cells.length:=by rw[f,<-c.lvs_enc];exact s2
 have st:=JI.store (P:=P) (N:=N) (K:=Cw .any ((A8 H).set id (.live X (WD (J++(c.enc e).cells++Z) (i.toNat*c.sz+x) (JK env T).enc.cells)))) ho (id:=id) (g:=X)
  (off:=i.toNat*c.sz+x) (v:=(JK env T).enc) (by rw[V,F];rfl) (V T) w1 B R (by rw[Y,f];simp only[Af,q2];have:c.E.sz=c.sz:=rfl;rw[f]at C;rw[this];omega) ⟨rfl,rfl⟩
 have ea:i.toNat*c.sz+x=θ J+x:=by rw[q2];rfl
 rw[Y,ea,yk C]at st;have O:=JI.set_less (cs':=c.E.cl (E2 l i M)) (by rw[CK];exact G0 u) st (by unfold E2;rw[q5 M];refine Da.append (Da.append (Da.refl _) ?_) (Da.refl _);rw[<-c.lvs_enc,<-s1];exact s);rw[Kx];exact O;cases h;cases h;cases h;cases h;cases h;cases h;cases h
end
section
variable {R:Type}
def zB(P:Program)(H:Am)(t:TypeId)(k:TV->Am->Option R):Option R:=
 match uA P t with
 |some z=>k (.c (.raw (.ptr (θ H) 0 0))) (H++[.live η z])
 |none=>ε
def AEv(H:Am)(v:TV)(k:TV->Am->Option R):Option R:=
 match v.words with
 |some ws=>k (.c (.raw (.ptr (θ H) 0 0))) (H++[.live η ws])
 |none=>ε
def lR(t:Ty):List TV->Option (List t.D)
 |[]=>δ []
 |v::r=>match t.data v,lR t r with|some x,δ xs=>δ (x::xs)|_,_=>ε
def elT(P:Program)(t:TypeId):Option Ty:=
 match eI P t with
 |some (ε,e,sz)=>
  match AAQ P 1000 e with
  |some te=>if sz=te.sz/\Ro P e=ζ then δ te else ε
  |none=>ε
 |_=>ε
def gP(len:Nat)(te:Ty)(parts:Array (Nat×Operand))(vs:List TV):Bool:=
 τ (parts.toList.map (·.1)=List.range len)&&(vs.all λv=>match v.words with|some ws=>ξ (AET ws) te.sz|none=>η)&&Nat.ble len 4096&&Nat.ble te.sz 4096
def ZF(P:Program)(env:BT)(H:Am)(t:TypeId)(len:Nat)(parts:Array (Nat×Operand))(k:TV->Am->Option R):Option R:=
 match elT P t with
 |some te=>
  match gP len te parts (parts.toList.map λp=>JK env p.2)with
  |true=>match lR te (parts.toList.map λp=>JK env p.2)with|some xs=>k (.c (.own (θ H) 0 te (θ xs))) (H++[.buf η te xs (θ xs) 0])|none=>ε
  |false=>ε
 |none=>ε
def pq(P:Program)(env:BT)(t:TypeId)(len:Nat)(parts:Array (Nat×Operand))(k:TV->Option R):Option R:=
 match elT P t with
 |some te=>
  match gP len te parts (parts.toList.map λp=>JK env p.2)with
  |true=>match lR te (parts.toList.map λp=>JK env p.2)with|some xs=>k (.c (.ls te xs))|none=>ε
  |false=>ε
 |none=>ε
def gL(P:Program)(H:Am)(t:TypeId)(x y:TV)(k:TV->Am->Option R):Option R:=
 match eI P t,x,y with
 |some (ε,e,_),.c (.it _ l),.c (.it _ c)=>
  match elT P t,uA P e with
  |some te,δ z=>match te.all z with|some zd=>(mk zd l c).bind λr=>k (.c (.own (θ H) 0 te (θ r))) (H++[.buf η te r (θ r) 0])|none=>ε
  |_,_=>ε
 |_,_,_=>ε
def tq(P:Program)(H:Am)(src dst:TypeId)(x:TV)(k:TV->Am->Option R):Option R:=
 match P.underlying src,P.underlying dst,x with
 |some _,δ (.slice e),.c (.st s)=>
  match P.underlying e with
  |some (.int .u8)=>k (.c (.own (θ H) 0 (.int .u8) (Sl s).length)) (H++[.buf η (.int .u8) (Sl s) (Sl s).length 0])
  |_=>ε
 |_,_,_=>ε
def AD5(H:Am)(te:Ty)(v:TV):Option (List te.D):=
 match v with
 |.c (.ls te' l)=>if h:(Ty.list te').beq (Ty.list te)=ζ then δ (Ty.cast h l)else ε
 |.c (.own id ver te' _)=>if h:(Ty.list te').beq (Ty.list te)=ζ then(match Xn H id ver te' with|some l=>δ (Ty.cast (t:=.list te') (t':=.list te) h l)|none=>ε)else ε
 |.vw id ver te' _ lo m=>if h:(Ty.list te').beq (Ty.list te)=ζ then(match Xn H id ver te' with|some l=>δ (Ty.cast (t:=.list te') (t':=.list te) h ((l.drop lo).take m))|none=>ε)else ε
 |.c .nil=>δ []
 |_=>ε
def qq(P:Program)(H:Am)(t:TypeId)(s x:TV)(k:TV->Am->Option R):Option R:=
 match elT P t with
 |some te=>
  match AD5 H te x with
  |some xs=>
   match s with
   |.c .nil=>(app [] xs).bind λr=>k (.c (.own (θ H) 0 te (θ r))) (H++[.buf η te r (θ r) 0])
   |.c (.own id ver te' _)=>
    match H[id]? with
    |some (.buf η t2 l _ ver')=>
     match ξ ver ver' with
     |true=>
      if h:(Ty.list t2).beq (Ty.list te)=ζ/\(Ty.list te').beq (Ty.list te)=ζ then
       (app (α:=te.D) (Ty.cast h.1 l) xs).bind λr=>k (.c (.own id (ver+1) te (θ r))) (H.set id (.buf η te r (θ r) (ver+1)))
      else ε
     |false=>ε
    |_=>ε
   |_=>ε
  |none=>ε
 |none=>ε
variable {P:Program}{N:Nat}{o:Oper}{env:BT}{H:Am}{k:TV->Am->Option R}{r:R}
theorem tR{H:Am}{l:List t.D}:(TV.c (.own (θ H) N t (θ l))).ok (H++[.buf S t l (θ l) N]):=by refine JW ⟨k!,λd h f g b e=>?_⟩;grind
def qz(H:Am)(b:Ty)(n a:Nat):(TV.c (.own (θ H) a b n)).enc=.sl (A8 H).length n b.sz 0 n:=by rw[CK];rfl
def vu(ok:Np env H)(t:o.op=.alloc b)(h:zB P H b k=δ r):lZ P N o env H [] k r:=by
 unfold zB at h;split at h;rename_i z d;obtain⟨e,f⟩:=Yb d;refine⟨_,_,?_,h,JW trivial,PW ok.heap (f _),Bz.push _ _,Frame.push _ _ _⟩;have a:(TV.c (.raw (.ptr (θ H) 0 0))).enc=.ptr (A8 H).length 0 0:=by rw[CK];rfl
 rw[a,Q4];exact JI.alloc t e ⟨rfl,rfl⟩;cases h
def zI(ok:Np env H)(x:o.op=.box b d)(h:AEv H (JK env d) k=δ r):lZ P N o env H [] k r:=by
 unfold AEv at h;split at h;rename_i i t;obtain⟨e,f,g⟩:=YY t;refine⟨_,_,?_,h,JW trivial,PW ok.heap ((Bz.push _ _).lok (g H (fV ok.env d))),Bz.push _ _,Frame.push _ _ _⟩;have a:(TV.c (.raw (.ptr (θ H) 0 0))).enc=.ptr (A8 H).length 0 0:=by rw[CK];rfl
 rw[a,Q4];exact JI.box x (LK env d) e ⟨rfl,by rw[f];rfl⟩;cases h
def mL{t:Ty}:∀{b:List TV}{a:List t.D},lR t b=δ a->Da (b.map TV.enc) (a.map t.enc)
 |[],a,h=>by simp only[lR,Al]at h;subst h;exact Da.refl _
 |v::r,a,h=>by simp only[lR]at h;split at h;rename_i x e c d;injection h with h;subst h;have:=mL d;exact(Da.one (Jh c)).append this;cases h
def jP{t:Ty}:∀{e:List TV}{b:List t.D},lR t e=δ b->Da ((e.map TV.enc).flatMap AV.cells) (t.E.cl b)
 |[],b,h=>by simp only[lR,Al]at h;subst h;exact Da.refl _
 |v::r,b,h=>by simp only[lR]at h;split at h;rename_i x k a g;injection h with h;subst h;have i:=jP g;refine Da.append ?_ i;unfold Ty.data at a;split at a;rename_i y;split at a;cases a;rename_i d;simp at d;have c:=FV a;rw[HW,MQ d.2,<-Bh.scalar_cells d.2]at c;have f:lvs ([]:List Bh)=[]:=rfl;rw[f,Dl]at c;exact c;rename_i j;split at a;exact FV a;cases a;cases a;cases h
theorem jQ(h:elT P b=δ t):∃e,eI P b=δ (ε,e,t.sz)/\Ro P e=ζ:=by grind[elT]
theorem tX{a:Array (Nat×Operand)}(h:elT P b=δ t)(c:gP N t a (a.toList.map λp=>JK env p.2)=ζ):
  Sc P (Bq env) b N a=δ (t.sz,(a.toList.map λp=>JK env p.2).map TV.enc):=by
 obtain⟨e,k,l⟩:=jQ h;unfold gP at c;simp only[BN,K!]at c;obtain⟨⟨⟨f,g⟩,i⟩,j⟩:=c;have d:(a.toList.map λp=>BI (Bq env) p.2)=(a.toList.map λp=>JK env p.2).map TV.enc:=by grind[List.map_congr_left,LK]
 unfold Sc;simp only[k,d];refine C! ⟨t.sz_pos,l,f,?_,Oa i,Oa j⟩;rw[Fo];intro v n;obtain⟨u,m,rfl⟩:=Bk.1 n;have:=Fo.1 g u m;split at this<;>simp_all[YY,dZ]
theorem ABh{b:List t.D}(h:lR t G=δ b):θ b=θ G:=by have:=(mL h).1;grind
theorem Sm.push_less{x:Cx}{H:Ap}(n:Da g U)(d:x.Later y):Sm x y (H++[.live N g]) (H++[.live N U]):=by
 refine⟨k!,λj o e=>?_⟩;rcases Ar j (θ H) with b|b;rw[CO b]at e;cases o with
 |live p c0=>exact .inr (.inl ⟨p,c0,c0,q!,rfl,rfl,λi m h=>⟨m,h,λc r=>r.later d⟩⟩)
 |_=>grind
 have k:=G0 e;simp at k;have l:j=θ H:=o!
 subst l;simp at e;subst e;refine .inr (.inl ⟨N,g,U,k!,rfl,n.1,λi m h=>?_⟩);obtain⟨v,q,s⟩:=n.2 i m h;exact⟨v,q,λc r=>s _ _ (r.later d)⟩
theorem JI.push_less(h:JI P N o A q (Cw v (q++[.live n g])))(i:Da g U):JI P N o A q (Cw v (q++[.live n U])):=by
 refine JI.after h λX f w _=>?_;have b:(cx X f (q++[.live n g]) w).Later (cx X f (q++[.live n U]) w):=by refine gK k! λj e l k=>?_;grind
 exact⟨Sm.push_less i b,λc r=>r.later b⟩
def ml(ok:Np env H)(f:o.op=.buildSlice b n u)(h:ZF P env H b n u k=δ r):lZ P N o env H [] k r:=by unfold ZF at h;split at h;rename_i i d;split at h;rename_i g;split at h;rename_i j c;have e:=tX d g;have t:=ABh c;refine⟨_,_,?_,h,tR,PW ok.heap rfl,Bz.push _ _,Frame.push _ _ _⟩;rw[qz,Q4];have:=TS (N:=N) (H:=A8 H) (K:=Cw _ _) f e ⟨rfl,rfl⟩;rw[B7,<-t]at this;exact JI.push_less this (jP c);cases h;cases h;cases h
theorem AF9{a:Ty}{vs:List AV}{l:List a.D}(h:Da vs (l.map a.enc))(J:Da (vs.flatMap AV.cells) (a.E.cl l))(A: ∀v∈vs,v.cells.length=a.sz):WK (.vs a.sz vs) (.vs a.sz (l.map a.enc)):=by
 intro x c O;cases O with
 |vs f w p z F q=>
  have hn:(l.map a.enc).length=vs.length:=h.1;rw[<-hn];have key: ∀(j:Nat) (e:AV) (i:Nat) (v:AV),(l.map a.enc)[j]? =some e->e.cells[i]? =some v-> ∃b k,vs[j]? =some b/\b.cells[i]? =some k/\WK k v:=by
   intro j e i v d m;obtain⟨b,n,_⟩:=h.2 j e d;have g: ∀u∈l.map a.enc,u.cells.length=a.sz:=λu K=>by obtain⟨y,_,rfl⟩:=Bk.1 K;exact a.enc_len y
   have C:=nR g j e i v d m;obtain⟨k,s,t⟩:=J.2 _ v C;have I:i<a.sz:=by grind
   have G:=A b (BM n);have H:b.cells[i]? =some (b.cells[i]'(by omega)):=As (by omega);have P:=nR A j b i _ n H;grind
  refine Bi.vs f (by grind) p (λj e d=>?_) (λo=>?_) λj e i v d m=>?_
  ·obtain⟨y,_,rfl⟩:=Bk.1 (BM d);exact a.enc_len y
  ·obtain⟨B,r,n,M,N,Q⟩:=F (λe=>o (EJ (by grind)));refine⟨B,r,n,M,N,λj e i v d m=>?_⟩;obtain⟨b,k,s,t,_⟩:=key j e i v d m;grind
  ·obtain⟨b,k,s,t,L⟩:=key j e i v d m;exact L _ _ (q j b i k s t)
def pP(ok:Np env H)(s:o.op=.makeSlice b d T)(h:gL P H b (JK env d) (JK env T) k=δ r):lZ P N o env H [] k r:=by
 have i:=LK env;unfold gL at h;split at h;rename_i e sz Q l O c j v w;split at h;rename_i x z t A;split at h;rename_i L f;obtain⟨I,q,h⟩:=DB.1 h;obtain⟨M,m,u⟩:=jQ t;rw[j]at m;obtain⟨rfl,rfl⟩:=m;obtain⟨J,R⟩:=Yb A;have a:=FV f;obtain⟨⟨C,D_,F⟩,p,G⟩:=AJE x.E L q;refine⟨_,_,?_,h,tR,PW ok.heap rfl,Bz.push _ _,Frame.push _ _ _⟩;rw[qz,Q4];have g:(lvs z).length=x.sz:=by rw[<-a.1,x.enc_len]
 have:=JI.makeSlice (N:=N) (H:=A8 H) (K:=Cw _ _) s j x.sz_pos u J g (by rw[i,v];rfl) (by rw[i,w];rfl) C D_ F ⟨rfl,rfl⟩;rw[p]at this;apply JI.push_less this;rw[<-G,p];induction θ I with
 |zero=>exact Da.refl _
 |succ n B=>exact Da.append a B
 cases h;cases h;cases h
def tu(ok:Np env H)(j:o.op=.convert b I d)(h:tq P H b I (JK env d) k=δ r):lZ P N o env H [] k r:=by have f:=LK env;unfold tq at h;split at h;rename_i u e s l g m;split at h;rename_i i;refine⟨_,_,?_,h,tR,PW ok.heap rfl,Bz.push _ _,Frame.push _ _ _⟩;rw[qz,Q4];obtain⟨c,a⟩:=AIH s;have:=o9 (N:=N) (H:=A8 H) (K:=Cw _ _) j l g i (by rw[f,m];rfl) ⟨rfl,rfl⟩;rw[a,c]at this;exact this;cases h;cases h
def AAh(a:Ty):∀(l:List a.D)(k:Nat),(a.E.cl l).drop (k*a.sz)=a.E.cl (l.drop k)
 |l,0=>by rw[Xk];rfl
 |[],k+1=>by simp[Rr.cl]
 |x::r,k+1=>by have e:a.E.cl (x::r)=(a.enc x).cells++a.E.cl r:=rfl;have b:=a.enc_len x;rw[e,show(k+1)*a.sz=(a.enc x).cells.length+k*a.sz by rw[b,D5,Nat.one_mul,Xh],XQ,Qx o!,CY,Su];exact AAh a r k
def AAi(a:Ty):∀(l:List a.D)(k:Nat),(a.E.cl l).take (k*a.sz)=a.E.cl (l.take k)
 |l,0=>by rw[Xk];rfl
 |[],k+1=>by simp[Rr.cl]
 |x::r,k+1=>by have e:a.E.cl (x::r)=(a.enc x).cells++a.E.cl r:=rfl;have b:a.E.cl (List.take (k+1) (x::r))=(a.enc x).cells++a.E.cl (r.take k):=rfl;have c:=a.enc_len x;rw[e,b,show(k+1)*a.sz=(a.enc x).cells.length+k*a.sz by rw[c,D5,Nat.one_mul,Xh],dn,BK o!,Su,AAi a r k]
theorem AAD{f:List t.D}(x:∀e∈H,e.ok H)(z:p.ok H)(h:AD5 H t p=δ f):Jx (A8 H) t.sz p.enc=δ (θ f,t.E.cl f):=by
 unfold AD5 at h;split at h;rename_i a l;split at h;rename_i j;have c:=Ty.beq_eq _ _ j;injection c with b;subst b;injection h with h;have i:=h;subst i;simp only[TV.enc,Bh.one,Jx,B7];rfl;cases h;rename_i id g a n;split at h;rename_i j;have c:=Ty.beq_eq _ _ j;injection c with b;subst b;split at h;rename_i l r;injection h with h;have i:l=f:=h;obtain⟨s,v⟩:=Ws x (z (.own id g a n) (by simp[TV.refs])) r;have y:=a.E.clen l;have B:a.E.sz=a.sz:=rfl;grind[TV.enc,Bh.one,Jx];cases h;cases h;rename_i id g a n d m;split at h;rename_i j;have c:=Ty.beq_eq _ _ j;injection c with b;subst b;split at h;rename_i l r;injection h with h;have i:(l.drop d).take m=f:=h;obtain⟨s,v⟩:=Ws x (z (.own id g a n) (by simp[TV.refs])) r;have o:θ f=min m (n-d):=by rw[<-i,BJ,EY,v]
 have w:f=(l.drop d).take (min m (n-d)):=by rw[<-i,<-v,<-EY,List.take_eq_take_min]
 have y:(a.E.cl l).length=n*a.sz:=by rw[<-v];exact a.E.clen l
 show Jx (A8 H) a.sz (vwE id n a.sz d m)=_;unfold vwE;by_cases q:min m (n-d)=0;have u:f=[]:=av.1 o!;rw[C! q,u];by_cases A:d=0;rw[C! A];simp only[Jx,s];rw[C! ⟨O!,O!,k!⟩,Xk];rfl;rw[D! A];simp[Jx,Rr.cl];rw[D! q];simp only[Jx,s];have k:(d+min m (n-d))*a.sz<=n*a.sz:=Mu _ o!;rw[D5]at k;rw[C! ⟨O!,O!,by rw[y];exact k⟩,o,AAh,AAi,<-w];cases h;cases h;injection h with h;subst h;rfl;cases h
theorem uE(ok:Np env H)(R:o.op=.call {callee:=.builtin .append,args:= #[d,T],argTypes:= #[b,I]})(Y:b=I)(h:qq P H b (JK env d) (JK env T) k=δ r):lZ P N o env H (idT (JK env d)) k r:=by
 subst Y;have x:=LK env;unfold qq at h;split at h;rename_i te C;obtain⟨e,Q,S⟩:=jQ C;split at h;rename_i w M;have a:=AAD ok.heap (fV ok.env T) M;rw[<-x]at a;split at h;rename_i v;obtain⟨l,u,X⟩:=DB.1 h;obtain⟨W,j⟩:=mj u;rw[CY]at j;subst j;refine⟨_,_,?_,X,tR,PW ok.heap rfl,Bz.push _ _,Frame.push _ _ _⟩;rw[qz,Q4];have:=cI (N:=N) (H:=A8 H) (K:=Cw _ _) R Q te.sz_pos S (by rw[x,v];rfl) a q! ⟨rfl,rfl⟩;exact this;rename_i id g af n v;split at h;rename_i L l J t c;split at h;rename_i Z;have G:=Cy Z;subst G;split at h;rename_i y;have F:=Ty.beq_eq _ _ y.1;injection F with p;have s:=Ty.beq_eq _ _ y.2;injection s with q;subst q;subst p;obtain⟨l2,u,h⟩:=DB.1 h;have f:(Ty.cast y.1 l:List L.D)=l:=rfl;rw[f]at u;obtain⟨W,rfl⟩:=mj u;have hr:Rf H id g L n:=by have:=fV ok.env d;rw[v]at this;exact this (.own id g L n) (by simp[TV.refs])
 obtain⟨_,A⟩:=hr.2 _ _ _ _ _ c;obtain⟨_,rfl⟩:=A rfl;have z:J=θ l:=ok.heap _ (BM c);have i:(A8 H)[id]?=δ (.live J (L.E.cl l)):=by rw[Dy,c];rfl
 have m:Bz H (H.set id (.buf η L (l++w) (l++w).length (g+1))):=Bz.set c rfl λ_ _ _ _ _ h=>by cases h;exact⟨_,_,_,_,rfl,.inl (Nat.lt_succ_self _)⟩
 refine⟨_,_,?_,h,JW ⟨q!,λad I l' n2 U hg=>?_⟩,RG m ok.heap rfl,m,Frame.set (by rw[v];exact A7.2 rfl)⟩;have O:=L.E.clen l;have B:L.E.sz=L.sz:=rfl;rw[B]at O;have:=Rj (N:=N) (H:=A8 H) (g':=J+θ w) (K:=Cw _ _) R Q L.sz_pos S (by rw[x,v];rfl) i (by rw[O,z]) a q! (by rcases VP (θ w) with V|V;grind;exact .inl o!) ⟨rfl,rfl⟩;grind[Kx,List.length_append,Rr.cl,TV.enc,Bh.one,Di.enc];grind;cases h;cases h;cases h;cases h;cases h;cases h
end
def Nc(id ver:Nat)(t:Ty)(l:List t.D):Bh->Bh
 |.own id' ver' t' n=>match ξ id id'&&ξ ver ver' with|true=>.ls t l|false=>.own id' ver' t' n
 |x=>x
mutual
def nW(id ver:Nat)(t:Ty)(l:List t.D):TV->TV
 |.c x=>.c (Nc id ver t l x)
 |.g cs=>.g (cs.map (Nc id ver t l))
 |.tup vs=>.tup (fZ id ver t l vs)
 |.aptr a b n te i o=>.aptr a b n te i o
 |.bptr a v te n i o=>.bptr a v te n i o
 |.vw a v te n i m=>.vw a v te n i m
 |.vptr cs post=>.vptr cs post
def fZ(id ver:Nat)(t:Ty)(l:List t.D):List TV->List TV
 |[]=>[]
 |v::r=>nW id ver t l v::fZ id ver t l r
end
def QW(id ver:Nat)(t:Ty)(l:List t.D):Di->Di
 |.live η cs=>.live η (cs.map (Nc id ver t l))
 |e=>e
def frz(id:Nat)(env:BT)(H:Am):Option (BT×Am):=
 match H[id]? with
 |some (.buf η t l _ ver)=>δ (env.map λp=>(p.1,nW id ver t l p.2),(H.map (QW id ver t l)).set id .dead)
 |_=>ε
def PD(x y:Cx)(a b:List AV):Prop:=θ b=θ a/\∀(i:Nat)(v':AV),b[i]?=δ v'->∃v,a[i]?=δ v/\Conv x y v v'
theorem PD.append{b f:List AV}(c:PD k y g U)(x:PD k y b f):PD k y (g++b) (U++f):=by refine⟨by simp[c.1,x.1],λi l h=>?_⟩;rcases Ar i (θ U) with d|d;rw[CO d]at h;obtain⟨v,j,a⟩:=c.2 i l h;grind;rw[Ce d]at h;obtain⟨v,j,a⟩:=x.2 _ l h;exact⟨v,by rw[Ce (by rw[<-c.1];exact d),<-c.1];exact j,a⟩
def PD.later{x y:Cx}(l:x.Later y)(a:List AV):PD x y a a:=⟨rfl,λ_ v h=>⟨v,h,λ_ r=>r.later l⟩⟩
theorem PD.one{b:AV}(h:Conv k y v b):PD k y [v] [b]:=⟨rfl,λi u a=>by
 match i,a with
 |0,a=>grind
 |i+1,a=>simp at a⟩
def PD.agg{x y:Cx}{b a:List AV}(h:PD x y b a):Conv x y (.agg b) (.agg a):=by
 intro c r;cases r with
 |agg i e hr=>refine .agg (by rw[i,h.1]) e λj m d g f=>?_;obtain⟨v,k,l⟩:=h.2 j m g;exact l _ (hr j v d k f)
def PD.tup{x y:Cx}{b a:List AV}(h:PD x y b a):Conv x y (.tup b) (.tup a):=by
 intro c r;cases r with
 |tup g hr=>refine .tup (by rw[g,h.1]) λj l d f e=>?_;obtain⟨v,i,k⟩:=h.2 j l f;exact k _ (hr j v d i e)
section
variable {x y:Cx}{H:Am}{id n ver:Nat}{t:Ty}{l:List t.D} (lat:x.Later y) (hid:H[id]?=δ (.buf η t l n ver)) (hc:Conv x y (.sl id n t.sz 0 n) (.vs t.sz (l.map t.enc)))
include lat hid hc
theorem nU(e:J.ok H):PD x y J.enc (Nc id ver t l J).enc/\Conv x y J.one (Nc id ver t l J).one:=by
 have same:∀w:Bh,PD x y w.enc w.enc/\Conv x y w.one w.one:=λw=>⟨.later lat _,λ_ r=>r.later lat⟩
 cases J with
 |own f b h g=>simp only[Nc];split;rename_i a;simp only[BN]at a;have c:=Cy a.1;have d:=Cy a.2;subst c d;obtain⟨_,q⟩:=e.2 _ _ _ _ _ hid;obtain⟨rfl,rfl⟩:=q rfl;exact⟨.one hc,hc⟩;grind
 |_=>exact same _
def pC:∀{a:List Bh},lok H a->PD x y (lvs a) (lvs (a.map (Nc id ver t l)))
 |[],_=>.later lat _
 |z::r,h=>by rw[Bn,HW,HW];exact(nU lat hid hc (h z k!)).1.append (pC λw b=>h w (by simp[b]))
mutual
theorem sY:∀{v:TV},v.ok H->Conv x y v.enc (nW id ver t l v).enc
 |.c z,h=>(nU lat hid hc (h z (by simp[TV.refs]))).2
 |.g cs,h=>(pC lat hid hc h).agg
 |.tup vs,h=>PD.tup (qG (vs:=vs) h)
 |.aptr ..,_=>λ_ r=>r.later lat
 |.bptr ..,_=>λ_ r=>r.later lat
 |.vw ..,_=>λ_ r=>r.later lat
 |.vptr ..,_=>λ_ r=>r.later lat
theorem qG:∀{vs:List TV},(TV.tup vs).ok H->PD x y (TV.encL vs) (TV.encL (fZ id ver t l vs))
 |[],_=>.later lat _
 |v::r,h=>by simp only[TV.encL,fZ];have a:v.ok H:=pT h k!;have b:(TV.tup r).ok H:=RF λw c=>pT h (by simp[c]);exact(PD.one (sY a)).append (qG b)
end
end
def sX{H:List t.D}(c:Bz m l)(d:J.ok m):(Nc N n t H J).ok l:=by
 cases J with
 |own f e h g=>simp only[Nc];split;trivial;exact c.leaf d
 |_=>exact c.leaf d
def AAv{H:List t.D}(d:Bz m l)(h:lok m j):lok l (j.map (Nc N n t H)):=λz f=>by obtain⟨w,e,rfl⟩:=Bk.1 f;exact sX d (h w e)
mutual
theorem xr{H d:Am}{id b:Nat}{t:Ty}{l:List t.D}(a:Bz H d):∀{v:TV},v.ok H->(nW id b t l v).ok d
 |.c z,h=>JW (sX a (h z (by simp[TV.refs])))
 |.g cs,h=>AAv a h
 |.tup vs,h=>uy a h
 |.aptr ..,h=>a.lok h
 |.bptr ..,h=>a.lok h
 |.vw ..,h=>a.lok h
 |.vptr ..,h=>a.lok h
theorem uy{H c:Am}{id b:Nat}{t:Ty}{l:List t.D}(d:Bz H c):∀{e:List TV},(TV.tup e).ok H->(TV.tup (fZ id b t l e)).ok c
 |[],_=>λz i=>by simp[fZ,TV.refs,TV.refsL]at i
 |v::r,h=>by have f:v.ok H:=pT h k!;have g:(TV.tup r).ok H:=RF λw a=>pT h (by simp[a]);refine RF λw a=>?_;simp only[fZ]at a;rcases A1.1 a with rfl|a;exact xr d f;exact pT (uy d g) a
end
theorem ADH{i:Nat}{l:List t.D}(f:m[N]?=δ (.buf η t l n i)):Bz m ((m.map (QW N i t l)).set N .dead):=by
 have s:=G0 f;refine⟨k!,λj F E v h=>⟨by simpa using h.1,λro Q L M u c=>?_⟩,λj e c hr=>?_,λj H h E l2 v F a=>?_,λj H _ _ _ _ _ _ _ _ a=>?_⟩;by_cases d:j=N;grind;rw[DD (λe=>d e.symm),B6]at c;cases a:m[j]? with
 |none=>grind
 |some e=>
  rw[a]at c;simp only[Bd,Al]at c;cases e with
  |live b k=>cases b<;>simp[QW]at c
  |dead=>cases c
  |lp=>cases c
  |mp=>cases c
  |buf b q o p r=>simp only[QW]at c;exact h.2 _ _ _ _ _ (by rw[a,c])
 have d:j≠N:=by rintro rfl;rw[f]at c;injection c with c;subst c;cases hr
 rw[DD (λe=>d e.symm),B6,c];cases e with
 |live b k=>cases b with|true=>rfl|false=>cases hr
 |dead=>cases hr
 |buf b q o p r=>rfl
 |lp=>rfl
 |mp=>rfl
 by_cases d:j=N;grind;rw[DD (λe=>d e.symm),B6]at a;cases g:m[j]? with
 |none=>rw[g]at a;cases a
 |some e=>
  rw[g]at a;simp only[Bd,Al]at a;cases e with
  |live b k=>cases b<;>simp[QW]at a
  |dead=>cases a
  |lp=>cases a
  |mp=>cases a
  |buf b q o p r=>grind[QW]
 by_cases d:j=N;grind[List.getElem?_set_self];rw[DD (λe=>d e.symm),B6]at a;cases g:m[j]? with
 |none=>rw[g]at a;cases a
 |some e=>
  rw[g]at a;simp only[Bd,Al]at a;cases e with
  |live b k=>cases b<;>simp[QW]at a
  |dead=>cases a
  |buf b q o p r=>cases a
  |mp=>cases a
  |lp C G D_ K O I J P=>injection a with _ w x y z A B _;subst w x y z A B;exact⟨_,_,rfl⟩
theorem AG7{env2:BT}(ok:Np F m)(h:frz N F m=some (env2,l)):Np env2 l/\Bz m l/\ ∀H,E4 H (A8 m).length (Bq F) (A8 m) (Bq env2) (A8 l):=by
 unfold frz at h;split at h;rename_i t E n i d;simp only[Al,EI]at h;obtain⟨rfl,rfl⟩:=h;have G:=G0 d;have A:=ADH d;have hn:n=E.length:=ok.heap _ (BM d);refine⟨⟨λp M=>?_,λe R=>?_⟩,A,λH=>?_⟩;obtain⟨q,z,rfl⟩:=Bk.1 M;exact xr A (ok.env q z);rcases VN R with R|rfl;obtain⟨k,S,rfl⟩:=Bk.1 R;have O:=ok.heap k S;cases k with
 |live b D_=>
  cases b with
  |true=>exact A.lok O
  |false=>exact AAv A O
 |dead=>trivial
 |buf b Q P T U=>exact O
 |lp=>exact O
 |mp=>exact O
 trivial;have u:(A8 m)[N]? =some (.live n (t.E.cl E)):=by rw[Dy,d];rfl
 refine Vp (by simp[A8]) λX g w s=>?_;have C: ∀j,(A8 ((m.map (QW N i t E)).set N .dead))[j]? =if j=N then some .dead else(m[j]?).map λe=>(QW N i t E e).enc:=by intro j;rw[Dy];by_cases v:j=N;subst v;rw[if_pos rfl,GJ (by simpa using G)];rfl;grind
 have back: ∀(j:Nat) (e:E5),(A8 ((m.map (QW N i t E)).set N .dead))[j]? =some e->e≠ .dead->j≠N/\ ∃k,(A8 m)[j]? =some k/\k≠ .dead:=by
  intro j e a f;rw[C]at a;split at a;injection a with a;exact(f a.symm).elim;rename_i v;refine⟨v,?_⟩;cases z:m[j]? with
  |none=>rw[z]at a;cases a
  |some k=>
   refine⟨k.enc,by rw[Dy,z];rfl,λL=>f ?_⟩;rw[z]at a;simp only[Bd,Al]at a;cases k with
   |live b D_=>simp[Di.enc]at L
   |dead=>exact a.symm
   |buf b Q P T U=>simp[Di.enc]at L
   |lp=>simp[Di.enc]at L
   |mp=>simp[Di.enc]at L
 have y:(cx X g (A8 m) w).Later (cx X g (A8 ((m.map (QW N i t E)).set N .dead)) w):=gK (by simp[A8]) λj e a f=>(back j e a f).2;have hO: ∀B,g.io N=some B-> ¬(cx X g (A8 ((m.map (QW N i t E)).set N .dead)) w).O B:=by rintro B I (hX|⟨j,e,a,f,J⟩);exact(s.out B hX).2 ⟨N,_,u,k!,I⟩;obtain⟨v,k,Y,Z⟩:=back j e a f;exact v (s.inj j N _ _ B Y u Z k! J I)
 have o:Conv (cx X g (A8 m) w) (cx X g (A8 ((m.map (QW N i t E)).set N .dead)) w) (.sl N n t.sz 0 n) (.vs t.sz (E.map t.enc)):=λc r=>Bi.froze s u (ADj t.E E) (by rw[hn];exact B7 _) y rfl hO r;refine⟨⟨by simp[A8],λj e' a=>?_⟩,λtt v' K=>?_⟩;rw[C]at a;split at a;injection a with a;exact .inl a.symm;cases z:m[j]? with
 |none=>rw[z]at a;cases a
 |some k=>
  rw[z]at a;simp only[Bd,Al]at a;have x:(A8 m)[j]? =some k.enc:=by rw[Dy,z];rfl
  cases k with
  |live b D_=>
   refine .inr (.inl ?_);cases b with
   |true=>simp only[QW,Di.enc]at a;exact⟨0,lvs D_,lvs D_,x,a.symm,rfl,(PD.later y _).2⟩
   |false=>simp only[QW,Di.enc]at a;obtain⟨V,W⟩:=pC y d o (ok.heap _ (BM z));exact⟨0,lvs D_,_,x,a.symm,V,W⟩
  |dead=>exact .inl a.symm
  |buf b Q P T U=>simp only[QW,Di.enc]at a;exact .inr (.inl ⟨T,Q.E.cl P,Q.E.cl P,x,a.symm,rfl,(PD.later y _).2⟩)
  |lp=>subst a;exact .inr (.inr ⟨x,λ_ _ h=>by cases h⟩)
  |mp=>subst a;exact .inr (.inr ⟨x,λ_ _ h=>by cases h⟩)
 simp only[Bq,QM,Bk]at K;obtain⟨p,M,e⟩:=K;simp only[Function.comp,EI]at e;obtain⟨rfl,rfl⟩:=e;exact⟨p.2.enc,Bk.2 ⟨p,M,rfl⟩,sY y d o (ok.env p M)⟩;cases h
@[reducible] def DL:List Ty->Type
 |[]=>Unit
 |[t]=>t.D
 |t::u::r=>t.D×DL (u::r)
def inp:(ts:List Ty)->List TV->Option (DL ts)
 |[],[]=>δ ()
 |[t],[v]=>t.data v
 |t::u::r,v::vs=>
  match t.data v,inp (u::r) vs with
  |some x,δ y=>δ (x,y)
  |_,_=>ε
 |_,_=>ε
def vf:(ts:List Ty)->DL ts->List TV
 |[],_=>[]
 |[t],x=>[t.tv x]
 |t::u::r,x=>t.tv x.1::vf (u::r) x.2
def az:(ts:List Ty)->DL ts->List AV
 |[],_=>[]
 |[t],x=>[t.enc x]
 |t::u::r,x=>t.enc x.1::az (u::r) x.2
def one:List TV->TV
 |[v]=>v
 |vs=>.tup vs
def lJ:List AV->AV
 |[v]=>v
 |vs=>.tup vs
def LG(bt:Ty):(rs:List Ty)->DL (rs++[bt])->DL rs×bt.D
 |[],y=>((),y)
 |[_],y=>(y.1,y.2)
 |_::u::r,y=>((y.1,(LG bt (u::r) y.2).1),(LG bt (u::r) y.2).2)
inductive Pg where
 |c2 (f:FuncId) (te:Ty) (ds rs:List Ty) (post:List AV) (g:List te.D->DL ds->Option (DL (rs++[.list te])))
 |cl (f:FuncId) (t:Ty)
 |cg (f:FuncId) (ds rs:List Ty) (g:DL ds->Option (DL rs))
 |c0 (f:FuncId) (ds rs:List Ty) (g:DL ds->Option (DL rs))
 |c1 (f:FuncId) (pos:Nat) (bt:Ty) (ds rs:List Ty) (g:bt.D->DL ds->Option (DL (rs++[bt])))
def Pg.f:Pg->FuncId
 |.c0 f .. =>f
 |.c1 f .. =>f
 |.c2 f .. =>f
 |.cl f _=>f
 |.cg f .. =>f
def fnB:AV->AV->Bool
 |.fn (.func F) [] [],.fn (.func G) [] []=>ξ F G
 |_,_=>η
def AG5{w:AV}(h:fnB v w=ζ):v=w:=by unfold fnB at h;split at h<;>simp_all
def vR:List TV->List AV->Bool
 |[],[]=>ζ
 |.c (.raw v)::r,w::s=>fnB v w&&vR r s
 |_,_=>η
def yW:∀{l:List TV}{p:List AV},vR l p=ζ->l.map TV.enc=p
 |[],[],_=>rfl
 |[],_::_,h=>by simp[vR]at h
 |v::r,[],h=>by cases v<;>simp[vR]at h
 |v::r,w::s,h=>by unfold vR at h;split at h;rename_i e;cases e;rename_i c d;injection c with a1 a2;injection d with a b;subst a1 a2 a b;simp only[BN]at h;rw[Bn,yW h.2];exact E! (· ::_) (AG5 h.1);cases h
def VH:Nat->AV->List AV->List AV
 |0,v,l=>v::l
 |n+1,v,x::l=>x::VH n v l
 |_+1,v,[]=>[v]
def Pg.Ok(P:Program):Pg->Prop
 |.c2 f te ds rs post g=>∀l x y,g l x=δ y->(LG (.list te) rs y).2.length=θ l->∀H id,H[id]?=δ (.live (θ l) (te.E.cl l))->
  ET P f (.sl id (θ l) te.sz 0 (θ l)::(az ds x++post)) H (Cw (lJ (az rs (LG (.list te) rs y).1)) (H.set id (.live (θ l) (te.E.cl (LG (.list te) rs y).2))))
 |.cl f t=>∀(l:List t.D)(H:Am),(∀e∈H,e.ok H)->(l=[]->ET P f [.vs t.sz []] (A8 H) (Cw (.vs t.sz []) (A8 (H++[.dead]))))/\
  ∀r,l≠ []->app [] l=δ r->ET P f [.vs t.sz (l.map t.enc)] (A8 H) (Cw (.sl (θ H) (θ r) t.sz 0 (θ r)) (A8 (H++[.buf η t r (θ r) 0])))
 |.c0 f ds rs g=>∀x y,g x=δ y->∀H,ET P f (az ds x) H (Cw (lJ (az rs y)) H)
 |.cg f ds rs g=>∀x y,g x=δ y->∀H,ET P f (az ds x) H (Cw (lJ (az rs y)) H)
 |.c1 f pos bt ds rs g=>∀b x y,g b x=δ y->∀H id,H[id]?=δ (.live 0 (bt.enc b).cells)->ET P f (VH pos (.ptr id 0 0) (az ds x)) H (Cw (lJ (az rs (LG bt rs y).1)) (H.set id (.live 0 (bt.enc (LG bt rs y).2).cells)))
def wM:Ty->Bool
 |.bool=>ζ
 |.int _=>ζ
 |.str=>ζ
 |_=>η
def AA5(H:Am)(t:Ty)(v:TV):Option t.D:=
 match v with
 |.c (.own id ver _ _)=>
  match H[id]? with
  |some (.buf η t' l _ ver')=>
   match ξ ver ver' with
   |true=>if h:(Ty.list t').beq t=ζ then δ (Ty.cast h l)else ε
   |false=>ε
  |_=>ε
 |v=>t.data v
def ZV(H:Am):(ts:List Ty)->List TV->Option (DL ts)
 |[],[]=>δ ()
 |[t],[v]=>AA5 H t v
 |t::u::r,v::vs=>
  match AA5 H t v,ZV H (u::r) vs with
  |some x,δ y=>δ (x,y)
  |_,_=>ε
 |_,_=>ε
section
variable {R:Type}
def AAe(c:Pg)(vs:List TV)(H:Am)(k:TV->Am->Option R):Option R:=
 match c with
 |.c0 _ ds rs g=>match inp ds vs with|some x=>(g x).bind λy=>k (one (vf rs y)) H|none=>ε
 |.c1 _ pos bt ds rs g=>
  match vs[pos]? with
  |some (.c (.raw (.ptr id 0 0)))=>
   match H[id]? with
   |some (.live η cs)=>
    match bt.all cs,inp ds (vs.take pos++vs.drop (pos+1))with
    |some b,δ x=>(g b x).bind λy=>k (one (vf rs (LG bt rs y).1)) (H.set id (.live η (bt.lvs (LG bt rs y).2)))
    |_,_=>ε
   |_=>ε
  |_=>ε
 |.c2 _ te ds rs post g=>
  match vs with
  |.c (.own id ver _ _)::r=>
   match H[id]? with
   |some (.buf η t l n' ver')=>
    match ξ ver ver' with
    |true=>
     if h:(Ty.list t).beq (Ty.list te)=ζ then
      match inp ds (r.take (θ ds)),vR (r.drop (θ ds)) post with
      |some x,ζ=>(g (Ty.cast h l) x).bind λy=>
       cond (ξ (LG (.list te) rs y).2.length n') (k (one (vf rs (LG (.list te) rs y).1)) (H.set id (.buf η te (LG (.list te) rs y).2 n' ver'))) ε
      |_,_=>ε
     else ε
    |false=>ε
   |_=>ε
  |_=>ε
 |.cg _ ds rs g=>match rs.all wM,ZV H ds vs with|true,δ x=>(g x).bind λy=>k (one (vf rs y)) H|_,_=>ε
 |.cl _ t=>
  match vs with
  |[.c (.ls te l)]=>
   if h:(Ty.list te).beq (Ty.list t)=ζ then
    cond (τ (((θ l:Nat):Int)=0)) (k (.c (.ls t [])) (H++[.dead])) ((app (α:=t.D) [] (Ty.cast h l)).bind λr=>k (.c (.own (θ H) 0 t (θ r))) (H++[.buf η t r (θ r) 0]))
   else ε
  |[.c .nil]=>k (.c (.ls t [])) (H++[.dead])
  |_=>ε
def XM:∀(a:List Ty)(x:DL a),(vf a x).map TV.enc=az a x
 |[],_=>rfl
 |[t],x=>by simp only[vf,az,Bn,Hg,t.tv_enc]
 |t::u::r,x=>by simp only[vf,az,Bn,t.tv_enc,XM (u::r)]
theorem j9{H:Am}:∀(b:List Ty)(x:DL b),∀v∈vf b x,v.ok H
 |[],_,v,a=>by simp[vf]at a
 |[t],x,v,a=>by simp only[vf,A7]at a;subst a;exact t.tv_ok x
 |t::u::r,x,v,a=>by simp only[vf,A1]at a;rcases a with rfl|a;exact t.tv_ok _;exact j9 (u::r) x.2 v a
def ny(a:List TV):(one a).enc=lJ (a.map TV.enc):=by
 match a with
 |[]=>rfl
 |[v]=>rfl
 |v::w::r=>simp only[one,lJ,TV.enc,sM,Bn]
def tQ(h:∀v∈G,v.ok m):(one G).ok m:=by
 match G,h with
 |[],h=>exact RF h
 |[v],h=>exact h v k!
 |v::w::r,h=>exact RF h
def YR:∀{a:List Ty}{b:List TV}{x:DL a},inp a b=δ x->Da (b.map TV.enc) (az a x)
 |[],[],x,h=>Da.refl _
 |[t],[v],x,h=>Da.one (Jh h)
 |t::u::r,v::b,x,h=>by simp only[inp]at h;split at h;rename_i y z c d;injection h with h;subst h;exact(Da.one (Jh c)).append (YR d);cases h
 |[],_::_,x,h=>by simp[inp]at h
 |[t],[],x,h=>by simp[inp]at h
 |[t],_::_::_,x,h=>by simp[inp]at h
 |_::_::_,[],x,h=>by simp[inp]at h
theorem sm:∀{n:Nat}{a:List AV}{v:AV}{b:List AV},a[n]?=δ v->Da (a.take n++a.drop (n+1)) b->Da a (VH n v b)
 |0,u::a,v,b,h,hl=>by simp at h;subst h;exact(Da.one (WK.refl u)).append hl
 |n+1,u::a,v,b,h,hl=>by
  cases b with
  |nil=>have:=hl.1;simp at this
  |cons d b=>
   have c:WK u d:=by obtain⟨w,j,k⟩:=hl.2 0 d rfl;grind
   have e:Da (a.take n++a.drop (n+1)) b:=⟨by have:=hl.1;simpa using this,λi g f=>hl.2 (i+1) g f⟩
   exact(Da.one c).append (sm h e)
def AE5(c:Pg)(vs:List TV):List Nat:=
 match c with
 |.c0 .. =>[]
 |.c1 _ pos .. =>match vs[pos]? with|some v=>idT v|none=>[]
 |.c2 .. =>match vs[0]? with|some v=>idT v|none=>[]
 |.cl .. =>[]
 |.cg .. =>[]
def AI6(c:Pg)(vs:List TV):List TV:=
 match c with
 |.c2 .. =>vs.drop 1
 |.cg .. =>[]
 |_=>vs
def o7(hn:θ U=θ g)
  (A:∀X h w,IC X h q w->∀(j:Nat)(u:AV),U[j]?=δ u->∃l,g[j]?=δ l/\Conv (cx X h q w) (cx X h (q.map λ_=>.dead) w) l u)
  (E:∀x y:Cx,Conv x y v v) (h:ET P z U (q.map λ_=>.dead) (Cw v (q.map λ_=>.dead))):ET P z g q (Cw v q):=by
 intro X H w f s R hr;have F:∀m B,¬owned m (q.map λ_=>E5.dead) B:=λm B ⟨id,e,a,d,_⟩=>by
  rw[B6]at a;cases k:q[id]? with
  |none=>rw[k]at a;cases a
  |some n=>rw[k]at a;injection a with a;exact d a.symm
 have nd:∀(id:Nat)(e:E5),(q.map λ_=>E5.dead)[id]?=δ e->e=.dead:=λid e a=>by
  rw[B6]at a;cases k:q[id]? with
  |none=>rw[k]at a;cases a
  |some n=>rw[k]at a;injection a with a;exact a.symm
 have M:IC X H (q.map λ_=>E5.dead) w:=by refine⟨λB i=>⟨(s.out B i).1,F H B⟩,λid Q O a=>?_,λid L a=>?_,λid G e n B a _ d=>N! (nd id e a) d,λid e a C=>?_⟩;cases nd id _ a;cases nd id _ a;cases nd id e a;cases C
 refine(h X H w f M o! λj u c t b=>?_).mono ?_;obtain⟨l,I,J⟩:=A X H w s j u t;exact J c (hr j l c I b);rintro e r ⟨c,T,m,N,rfl,⟨rfl,rfl⟩,S,K,x⟩;have o:∀B,B<w.heap.size->r.heap[B]?=w.heap[B]? :=λB i=>x.keep B i (F H B);have p:Gq H q w H q r:=⟨x.os,x.tape,x.output,x.size,λB i _=>o B i,Ai _,λ_ _=>Ai _,λ_ _ _=>⟨rfl,rfl⟩,λB D_=>.inl D_,x.loops⟩
 exact⟨c,_,H,q,rfl,⟨rfl,rfl⟩,s.of_ext p (λid e a d=>.inl ⟨a,rfl,rfl,rfl,λB i=>o B (s.io_at a d i)⟩) s.inj,E _ _ _ K,p⟩
def tE{x:t.D}(G:p.ok m)(k:∀e∈m,e.ok m)(v:AA5 m t p=δ x)(X:IC C h (A8 m) s):
  Conv (cx C h (A8 m) s) (cx C h ((A8 m).map λ_=>.dead) s) p.enc (t.enc x):=by
 have z:∀B,¬owned h ((A8 m).map λ_=>E5.dead) B:=λB ⟨id,e,a,o,_⟩=>by
  rw[B6]at a;cases k:(A8 m)[id]? with
  |none=>rw[k]at a;cases a
  |some J=>rw[k]at a;injection a with a;exact o a.symm
 have i:(cx C h (A8 m) s).Later (cx C h ((A8 m).map λ_=>.dead) s):=⟨Ai _,λ_ _ _ _=>rfl,λB _ w=>w.elim .inl λq=>(z B q).elim,by simp[cx],λ_ _=>Ai _,λ_ _ _=>⟨rfl,rfl⟩⟩
 unfold AA5 at v;split at v;rename_i id j A y;split at v;rename_i u l I g b;split at v;rename_i F;have f:=Cy F;subst f;split at v;rename_i H;have d:=Ty.beq_eq _ _ H;subst d;cases v;have hn:I=θ l:=k _ (BM b);have hr:Rf m id j A y:=G (.own id j A y) (by simp[TV.refs]);obtain⟨_,q⟩:=hr.2 _ _ _ _ _ b;obtain⟨rfl,rfl⟩:=q rfl;intro c r;have a:(A8 m)[id]?=δ (.live (θ l) (u.E.cl l)):=by rw[Dy,b,<-hn];rfl
 exact Bi.froze X a (ADj u.E l) (B7 _) i rfl (λB n w=>w.elim (λq=>(X.out B q).2 ⟨id,_,a,k!,n⟩) (z B)) (show Bi _ (.sl id (θ l) u.sz 0 (θ l)) c from hn▸r);cases v;cases v;cases v;exact λc r=>Jh v _ _ (r.later i)
def tF{H:Am}(b:∀e∈H,e.ok H){X:Nat→Prop}{g:Gh}{w:World}(s:IC X g (A8 H) w):∀{c:List Ty}{a:List TV}{x:DL c},(∀v∈a,v.ok H)→ZV H c a=δ x→
  PD (cx X g (A8 H) w) (cx X g ((A8 H).map λ_=>.dead) w) (a.map TV.enc) (az c x)
 |[],[],x,_,h=>⟨rfl,λi l d=>by simp[az]at d⟩
 |[t],[v],x,hv,h=>.one (tE (hv v k!) b h s)
 |t::u::r,v::a,x,hv,h=>by simp only[ZV]at h;split at h;rename_i y z j k;injection h with h;subst h;exact(PD.one (tE (hv v k!) b j s)).append (tF b s (λw f=>hv w (by simp[f])) k);cases h
 |[],_::_,x,_,h=>by simp[ZV]at h
 |[t],[],x,_,h=>by simp[ZV]at h
 |[t],_::_::_,x,_,h=>by simp[ZV]at h
 |_::_::_,[],x,_,h=>by simp[ZV]at h
def vD{H:Am}:∀{a:List Ty}{b:List TV}{x:DL a},ZV H a b=δ x->(az a x).length=(b.map TV.enc).length
 |[],[],x,h=>rfl
 |[t],[v],x,h=>rfl
 |t::u::r,v::b,x,h=>by simp only[ZV]at h;split at h;rename_i y z d c;injection h with h;subst h;simpa[az]using vD c;cases h
 |[],_::_,x,h=>by simp[ZV]at h
 |[t],[],x,h=>by simp[ZV]at h
 |[t],_::_::_,x,h=>by simp[ZV]at h
 |_::_::_,[],x,h=>by simp[ZV]at h
def qI(h:wM t=ζ)(x:t.D)(a b:Cx):Conv a b (t.enc x) (t.enc x):=by
 cases t with
 |bool=>intro c r;cases r;exact .bool _
 |int k=>intro c r;cases r;exact .int _ _
 |str=>intro c r;cases r with|str t h=>exact .str t h
 |_=>cases h
def nj{a b:Cx}:∀{rs:List Ty}(_:rs.all wM=ζ)(y:DL rs),PD a b (az rs y) (az rs y)
 |[],_,_=>⟨rfl,λi d c=>by simp[az]at c⟩
 |[t],h,y=>.one (qI (by simpa using h) y a b)
 |t::u::r,h,y=>by simp only[kF,BN]at h;exact(PD.one (qI h.1 y.1 a b)).append (nj (rs:=u::r) (by simp[h.2]) y.2)
def ABu(h:PD y k g g):Conv y k (lJ g) (lJ g):=by
 match g,h with
 |[],h=>exact h.tup
 |[v],h=>obtain⟨u,c,d⟩:=h.2 0 v rfl;injection c with c;subst c;exact d
 |_::_::_,h=>exact h.tup
def xY{c:Pg}(hc:c.Ok P){k:TV→Am→Option R}{r:R}(hv:∀v∈G,v.ok m)(D_:∀e∈m,e.ok m)(h:AAe c G m k=δ r):
  ∃v Y,ET P c.f (G.map TV.enc) (A8 m) (Cw v.enc (A8 Y))/\k v Y=δ r/\v.ok Y/\(∀e∈Y,e.ok Y)/\Bz m Y/\Frame (AE5 c G) m Y:=by
 unfold AAe at h;split at h;rename_i f N C g;split at h;rename_i x U;obtain⟨y,V,h⟩:=DB.1 h;refine⟨_,m,?_,h,tQ (j9 C y),D_,Bz.refl m,Frame.refl _ _⟩;rw[ny,XM];have S:=YR U;refine ET.before (args2:=az N x) (H2:=A8 m) S.1 (λX g0 w s=>⟨⟨rfl,λj e' p=>?_⟩,λj v' p=>?_⟩) (hc x y V _);cases e' with
 |dead=>exact .inl rfl
 |live g1 O=>exact .inr (.inl ⟨g1,O,O,p,rfl,rfl,λi v hi=>⟨v,hi,λ_ r=>r⟩⟩)
 |_=>exact .inr (.inr ⟨p,k!⟩)
 obtain⟨v,q1,q2⟩:=S.2 j v' p;exact⟨v,q1,λd rr=>q2 _ _ rr⟩;cases h;rename_i f pos M N C g;split at h;rename_i id hp;split at h;rename_i cs z;split at h;rename_i b x hb U;obtain⟨y,V,h⟩:=DB.1 h;have K:Bz m (m.set id (.live η (M.lvs (LG M C y).2))):=Bz.set z rfl λ_ _ _ _ _ h=>by cases h
 refine⟨_,_,?_,h,tQ (j9 C _),RG K D_ (M.lvs_ok _),K,Frame.set (by simp only[AE5,hp];exact A7.2 rfl)⟩;rw[ny,XM,Kx];have I:id<(A8 m).length:=by rw[CK];exact G0 z
 have S:=YR U;have ao:=FV hb;have H:Da (G.map TV.enc) (VH pos (.ptr id 0 0) (az N x)):=by refine sm ?_ (by rw[<-List.map_take,<-lj,<-Mr];exact S);rw[B6,hp];rfl
 have n:=hc b x y V ((A8 m).set id (.live 0 (M.enc b).cells)) id (by rw[GJ I]);rw[Xf]at n;have e1:(Di.live η (M.lvs (LG M C y).2)).enc=.live 0 (M.enc (LG M C y).2).cells:=by simp only[Di.enc,M.lvs_enc]
 rw[e1];refine ET.before H.1 (λX g0 w s=>?_) n;have af:A8 m=(A8 m).set id (.live 0 (lvs cs)):=by
  have:(A8 m)[id]?=δ (.live 0 (lvs cs)):=by rw[Dy,z];rfl
  apply Is;intro j;by_cases J:j=id;subst J;rw[GJ I,this];rw[DD (λe=>J e.symm)]
 have al:(cx X g0 (A8 m) w).Later (cx X g0 ((A8 m).set id (.live 0 (M.enc b).cells)) w):=by refine gK k! λj e p ap=>?_;by_cases J:j=id;subst J;exact⟨.live 0 (lvs cs),by rw[Dy,z];rfl,k!⟩;rw[DD (λe=>J e.symm)]at p;exact⟨e,p,ap⟩
 refine⟨Sm.set_less I af rfl ao al,λj v' p=>?_⟩;obtain⟨v,q1,q2⟩:=H.2 j v' p;exact⟨v,q1,λd rr=>q2 _ _ (rr.later al)⟩;cases h;cases h;cases h;rename_i f te N C W g;split at h;rename_i id F t0 n0 r0;split at h;rename_i t l n' ar z;split at h;rename_i hb;have ag:=Cy hb;subst ag;split at h;rename_i L;have o:=Ty.beq_eq _ _ L;injection o with o;subst o;split at h;rename_i x U hp;obtain⟨y,V,h⟩:=DB.1 h;have B:(Ty.cast L l:List t.D)=l:=rfl;rw[B]at V;have hn:n'=θ l:=D_ _ (BM z);have hr:Rf m id F t0 n0:=hv _ Ip (.own id F t0 n0) (by simp[TV.refs]);obtain⟨_,q⟩:=hr.2 _ _ _ _ _ z;obtain⟨rfl,rfl⟩:=q rfl;cases Z:ξ (LG (.list t) C y).2.length n' with
 |false=>rw[Z]at h;cases h
 |true=>
  rw[Z]at h;have T:(LG (.list t) C y).2.length=n':=Cy Z;have K:Bz m (m.set id (.buf η t (LG (.list t) C y).2 n' F)):=Bz.set z rfl λ_ _ _ _ _ e=>by cases e;exact⟨_,_,_,_,rfl,.inr ⟨rfl,rfl⟩⟩
  refine⟨_,_,?_,h,tQ (j9 C _),RG K D_ T.symm,K,Frame.set (by simp[AE5,idT])⟩;rw[ny,XM,Kx];have S:=YR U;have ad:=yW hp;have H:Da ((TV.c (.own id F t n')::r0).map TV.enc) (.sl id (θ l) t.sz 0 (θ l)::(az N x++W)):=by
   rw[Bn,<-De (θ N) r0,Mr,ad];have e1:(TV.c (.own id F t n')).enc=.sl id (θ l) t.sz 0 (θ l):=by rw[<-hn];rfl
   rw[e1];rw[<-rT];rw[<-rT (l:=az N x++W)];exact(Da.refl _).append (S.append (Da.refl _))
  have n:=hc l x y V (by rw[T,hn]) (A8 m) id (by rw[Dy,z,<-hn];rfl);have e2:(Di.buf η t (LG (.list t) C y).2 n' F).enc=.live (θ l) (t.E.cl (LG (.list t) C y).2):=by rw[<-hn];rfl
  rw[e2];refine ET.before H.1 (λX g0 w s=>⟨⟨rfl,λj e' p=>?_⟩,λj v' p=>?_⟩) n;cases e' with
  |dead=>exact .inl rfl
  |live g1 O=>exact .inr (.inl ⟨g1,O,O,p,rfl,rfl,λi v hi=>⟨v,hi,λ_ r=>r⟩⟩)
  |_=>exact .inr (.inr ⟨p,k!⟩)
  obtain⟨v,q1,q2⟩:=H.2 j v' p;exact⟨v,q1,λd rr=>q2 _ _ rr⟩
 cases h;cases h;cases h;cases h;cases h;rename_i f N C g;split at h;rename_i x hg U;obtain⟨y,V,h⟩:=DB.1 h;refine⟨_,m,?_,h,tQ (j9 C y),D_,Bz.refl m,Frame.refl _ _⟩;rw[ny,XM];have S:(az N x).length=(G.map TV.enc).length:=vD U;exact o7 S (λX g0 w s j u p=>(tF D_ s hv U).2 j u p) (λa b=>ABu (nj hg y)) (hc x y V _);cases h;rename_i f t;have same:∀{args A:List AV}{Q:AV->Ap->Prop},Da args A->ET P f A (A8 m) Q->ET P f args (A8 m) Q:=λH n=>by
  refine ET.before H.1 (λX g0 w s=>⟨⟨rfl,λj e' p=>?_⟩,λj v' p=>?_⟩) n;cases e' with
  |dead=>exact .inl rfl
  |live g1 O=>exact .inr (.inl ⟨g1,O,O,p,rfl,rfl,λi v hi=>⟨v,hi,λ_ r=>r⟩⟩)
  |_=>exact .inr (.inr ⟨p,k!⟩)
  obtain⟨v,q1,q2⟩:=H.2 j v' p;exact⟨v,q1,λd rr=>q2 _ _ rr⟩
 split at h;rename_i te l;split at h;rename_i L;have o:=Ty.beq_eq _ _ L;injection o with o;subst o;have B:(Ty.cast L l:List te.D)=l:=rfl;rw[B]at h;cases hz:τ (((θ l:Nat):Int)=0)with
 |true=>
  rw[hz]at h;have h0:l=[]:=by
   have:((θ l:Nat):Int)=0:=by simpa using hz
   exact EJ o!
  subst h0;refine⟨TV.c (Bh.ls te []),m++[Di.dead],?_,h,JW trivial,PW D_ trivial,Bz.push _ _,Frame.push _ _ _⟩;exact(hc [] m D_).1 rfl
 |false=>
  rw[hz]at h;have h0:l≠ []:=by rintro rfl;simp at hz
  obtain⟨r,hr,h⟩:=DB.1 h;have e:Di.ok (m++[.buf η te r (θ r) 0]) (.buf η te r (θ r) 0):=rfl;have q:=(hc l m D_).2 r h0 hr;refine⟨TV.c (Bh.own (θ m) 0 te (θ r)),m++[Di.buf η te r (θ r) 0],?_,h,tR,PW D_ e,Bz.push _ _,Frame.push _ _ _⟩;exact q
 cases h;refine⟨TV.c (Bh.ls t []),m++[Di.dead],?_,h,JW trivial,PW D_ trivial,Bz.push _ _,Frame.push _ _ _⟩;exact same (Da.one (WK.nil t.sz_pos)) ((hc [] m D_).1 rfl);cases h
def AID:Pg->Pg
 |.c0 f ds rs g=>.cg f ds rs g
 |c=>c
def ADS{c:Pg}(h:c.Ok P):(AID c).Ok P:=by cases c<;>exact h
end
section
variable {P:Program}{N:Nat}{o:Oper}{env:Env}{H:Ap}{K:AV->Ap->Prop}
def sU{e:TypeId}{sz:Nat}{rows:List AV}(n:o.op=.binOp .eql b d (.const (.slice ε 0 0)) I)(E:P.underlying b=δ (.slice e))(F:BI env d=.vs sz rows)
  (C:∀x,(rows≠ []->x=η)->K (.bool x) H):JI P N o env H K:=by
 apply Ct (by rw[n];rfl);intro X h a w s Q;have l:=DY s.env d;rw[F]at l;generalize i:a.eval d=cx0 at l;cases l with
 | @vs sz rows c cap f m D_ p z J=>
  have k:=run_underlying E w;have g:(execOp a.eval o).run P w=.ok (.value (.bool c.isNone)) w:=by
   unfold execOp;rw[n];have r:a.eval (.const (.slice ε 0 0))=.slice ε 0 0:=rfl;have u:(eqGuard .eql b d (.const (.slice ε 0 0)) (.slice c (θ rows) cap) (.slice ε 0 0)).run P w=.ok () w:=by unfold eqGuard;simp
   have v:(Op.equal b (.slice c (θ rows) cap) (.slice ε 0 0)).run P w=.ok c.isNone w:=by
    have y:∃t,Op.maxDepth=t+1:=⟨9999,rfl⟩
    obtain⟨t,A⟩:=y;unfold Op.equal;rw[A];cases c<;>simp[Op.equalIn,k]
   simp only[i,r,Sem.run_bind,u,Result.andThen_ok,binOp,v,Sem.run_pure]
  unfold Oper.wp;rw[g,Oper.upon_value];refine⟨_,_,h,H,rfl,C c.isNone (λj=>?_),.bool _,s.sim,Gq.refl _ _ _⟩;obtain⟨B,G,q,_⟩:=z j;rw[q];rfl
def JI.clear{t e:TypeId}{x:Operand}{id O l n sz:Nat}(ho:o.op=.call {callee:=.builtin .clear,args:= #[x],argTypes:= #[t]})(hd:o.dst=ε)(he:eI P t=δ (ε,e,sz))(bN:Ro P e=ζ)(hz:YZ P e=δ U)(Z:θ U=sz)
  (hx:BI env x=.sl id O sz l n) (F:H[id]?=δ (E5.live O g)) (a4:l+n*sz<=θ g) (hk:K (.tup []) (H.set id (.live O (WD g l (ς n U).flatten)))):JI P N o env H K:=by
 apply Ct (by rw[ho];rfl);intro X h a w s Q;obtain⟨b1,b,hi⟩:=QV he;obtain⟨i,zv,v,b4,a',b2⟩:=Tq bN;have a2:=km hi v;obtain⟨i',y,a0,a8,a6⟩:=da (cx X h H w) hz;have:i'=i:=by rw[v]at a0;exact(BH a0).symm
 subst this;have:y=zv:=by rw[a']at a8;exact(BH a8).symm
 subst this;have A:y.cells.size=sz:=by rw[b2,a2]
 have rx:=DY s.env x;rw[hx]at rx;have S:=run_underlying b1 w;have V:(ς n U).flatten.length=n*sz:=by simp[Z]
 obtain⟨ar,ao⟩:=s.sim.live id O g F;have b0:∃ad cap,a.eval x=.slice ad n cap/\(n≠0->∃B,h.io id=δ B/\ad=δ ⟨B,l,ε⟩):=by
  generalize a.eval x=c at rx;cases rx with
  |sl h1 h2 h3 hc=>rcases hc ar with⟨_,z,_,q4⟩|⟨B,cap,C,_,_,q4⟩;exact⟨ε,0,by rw[q4,z],λbG=>(bG z).elim⟩;exact⟨_,cap,q4,λ_=>⟨B,C,rfl⟩⟩
 obtain⟨ad,cap,ag,bb⟩:=b0;have a1:id<θ H:=by rcases Ar id (θ H) with h2|h2;exact h2;rw[Cf h2]at F;cases F
 by_cases hn:n=0;subst hn;have G:(execOp a.eval o).run P w=.ok (.value (.tuple #[])) w:=by unfold execOp;rw[ho];simp only[resolve,invoke,builtin,Sem.run_bind,Sem.run_pure,Result.andThen_ok,QN,Bn,Hg,ag,Builtin.clear_];simp[S];cases ad<;>simp
 unfold Oper.wp;rw[G,Oper.upon_value];have e1:H.set id (.live O (WD g l (ς 0 U).flatten))=H:=by
  have:WD g l (ς 0 U).flatten=g:=by simp[WD]
  rw[this];apply Is;intro j;by_cases a3:j=id;subst a3;rw[GJ a1,F];rw[DD λe=>a3 e.symm]
 rw[e1]at hk;exact⟨_,_,h,H,rfl,hk,.tup rfl λ_ _ _ h=>by (cases h),s.sim,Gq.refl _ _ _⟩;obtain⟨B,L,rfl⟩:=bb hn;rcases ao with⟨a5,_⟩|⟨B',af,T,fz,f,R,hb,al,b3,ap,J⟩;rw[show(cx X h H w).io id=h.io id from rfl,L]at a5;cases a5;rw[show(cx X h H w).io id=h.io id from rfl,L]at R;injection R with e0;subst e0;have Y:(Builtin.zeroCells y.cells n).size=n*sz:=by rw[Ya,A]
 have I:∀j,j<n*sz->∃d u,(Builtin.zeroCells y.cells n)[j]?=δ d/\(ς n U).flatten[j]?=δ u/\d.oneCell'=ζ/\Bi (cx X h H w) u d:=by
  intro j r;have a7:0<sz:=by rcases VP sz with q|q;subst q;simp at r;exact q
  have hm:j%sz<y.cells.size:=by rw[A];exact Xi _ a7
  have E:y.cells[j%sz]?=δ (y.cells[j%sz]'hm):=Nr hm;have ax:∀(m j:Nat),j<m*sz->(ς m U).flatten[j]?=U[j%sz]? :=by
   intro m;induction m with
   |zero=>intro j r;omega
   |succ m ih=>intro j r;rw[lq,oX];rcases Ar j sz with bt|bl;rw[CO o!,VQ bt];rw[Ce o!,Z,ih (j-sz) (by rw[D5]at r;omega),<-Nat.mod_eq_sub_mod bl]
  have a9:U[j%sz]?=δ (U[j%sz]'(by rw[Z];exact Xi _ a7)):=As _;have W:(Builtin.zeroCells y.cells n)[j]?=δ (y.cells[j%sz]'hm):=by
   unfold Builtin.zeroCells;rw[aw,Array.getElem?_range,C! (by rw[A];exact r)];have bz:j%y.cells.size<y.cells.size:=by rw[A];rw[A]at hm;exact hm
   rw[Bd,getElem!_pos y.cells _ bz];simp only[A]
  cases a6 with
  |agg C z q3=>exact⟨_,_,W,by rw[ax n j r,a9],z _ _ E,q3 _ _ _ a9 E⟩
 obtain⟨w',M,p1,p2,p3,p4,p5,p6,p7,p8,p9⟩:=Uj (P:=P) (off:=l) (Builtin.zeroCells y.cells n).toList 0 af w hb (by simp[Y];omega) ap (λd hd=>by
  obtain⟨j,r⟩:=Ci hd;have bm:j<n*sz:=by rw[<-Y];have:=(Fp.1 r).1;simpa using this
  obtain⟨d',u,C,_,q3,_⟩:=I j bm;rw[PX]at r;rw[r]at C;injection C with C;rw[C];exact q3)
 have G:(execOp a.eval o).run P w=.ok (.value (.tuple #[])) w':=by
  unfold execOp;rw[ho];simp only[resolve,invoke,builtin,Sem.run_bind,Sem.run_pure,Result.andThen_ok,QN,Bn,Hg,ag,Builtin.clear_];have b5:∀(α:Type)(p q:α),(match n with|0=>p|_+1=>q)=q:=by
   intro α p q;cases n with
   |zero=>exact(hn rfl).elim
   |succ m=>rfl
  obtain⟨m,rfl⟩:∃m,n=m+1:=⟨n-1,o!⟩
  simp[S,zeroValue,typeInfo,v,a'];rw[p1];rfl
 have hh:Holds (cx X h H w) (WD g l (ς n U).flatten) M fz:=by
  refine⟨λj=>if l<=j/\j<l+n*sz then(Builtin.zeroCells y.cells n).getD (j-l) undef else f j,by rw[jx (by rw[V];exact a4)];omega,by rw[p3];exact ap,λj u r=>?_⟩;rw[th (by rw[V];exact a4),V]at r;rw[p4];simp only[Jz,Dk,Y,PX];split at r;rename_i D_;rw[C! D_,C! D_];obtain⟨d,u',C,z,q3,q4⟩:=I (j-l) o!;rw[z]at r;injection r with r;subst r;have e:(Builtin.zeroCells y.cells n).getD (j-l) undef=d:=by rw[QS,C];rfl
  rw[e];exact⟨C,q3,q4⟩;rename_i D_;rw[D! D_,D! D_];exact J j u r
 obtain⟨C,z⟩:=s.sim.upd (g':=O) (B:=B) (arr:=M) (T:=T) (fz:=fz) (w':=w') F (Ai _) (λ_=>⟨L,by rw[p3];exact al.symm⟩) (.inl L) p2 (λk _ hk=>p5 k hk) p6 p7 p8 (by rw[p9];exact Ai _) hh;unfold Oper.wp;rw[G,Oper.upon_value];exact⟨_,_,_,_,rfl,hk,.tup rfl λ_ _ _ h=>by (cases h),C,z⟩
def qi(k:o.op=.call {callee:=.builtin .clear,args:= #[d],argTypes:= #[b]})(m:P.underlying b=δ (.slice I))
  (t:BI env d=.vs n []) (l:K (.tup []) H):JI P N o env H K:=by
 apply Ct (by rw[k];rfl);intro X h a w s Q;have j:=DY s.env d;rw[t]at j;have e:=run_underlying m w;have i:∃f cap,a.eval d=.slice f 0 cap:=by
  generalize a.eval d=c at j;cases j with
  |vs=>exact⟨_,_,rfl⟩
 obtain⟨f,cap,g⟩:=i;have x:(execOp a.eval o).run P w=.ok (.value (.tuple #[])) w:=by unfold execOp;rw[k];simp only[resolve,invoke,builtin,Sem.run_bind,Sem.run_pure,Result.andThen_ok,QN,Bn,Hg,g,Builtin.clear_];simp[e];cases f<;>simp
 unfold Oper.wp;rw[x,Oper.upon_value];exact⟨_,_,h,H,rfl,l,.tup rfl λ_ _ _ h=>by (cases h),s.sim,Gq.refl _ _ _⟩
end
def WL(P:Program)(N:Nat)(ops:Array Oper):List Oper->Env->Ap->(Env->Ap->Prop)->Prop
 |[],env,H,Q=>∃env1 H1,E4 N (θ H) env H env1 H1/\Q env1 H1
 |o::rest,env,H,Q=>∃env1 H1,E4 N (θ H) env H env1 H1/\
  Xb ops o.guard env1 (JI P N o env1 H1 λv H'=>WL P N ops rest (env1.putO o.dst v) H' Q) (WL P N ops rest (env1.putO o.dst (.tup [])) H1 Q)
def WL.weak{N:Nat}{Q:Env->Ap->Prop}{env1:Env}{H e:Ap}(w:E4 N (θ H) A H env1 e):∀{os:List Oper},WL P N a os env1 e Q->WL P N a os A H Q
 |[],h=>by obtain⟨c,b,d,q⟩:=h;exact⟨c,b,w.trans (d.of_le w.1),q⟩
 |o::os,h=>by obtain⟨c,b,d,q⟩:=h;exact⟨c,b,w.trans (d.of_le w.1),q⟩
theorem sV{X:Exit→Act→World→Prop}{Q:Env→Ap→Prop}:
  ∀(l:List Nat)(os:List Oper),l.map (a[·]?)=os.map δ->∀(env:Env)(H:Ap)(h:Gh)(r:Act)(w:World),On N os=ζ->WL P N a os env H Q->St C h N env H r w->(∀f n y u q,Q f n->St C y N f n u q->Gq h H w y n q->u.defers=r.defers->X .normal u q)->wpOpsIn (FR Z) 0 P a X l r w:=by
 intro l;induction l with
 |nil=>
  intro os d env H h r w _ hr s z;have:os=[]:=t!
  subst this;obtain⟨env1,A,b,hr⟩:=hr;obtain⟨x,e,E,d⟩:=b.2 C h r w s;exact z env1 A x r w hr e (E4.ext rfl b.1 E d (Gq.refl h H w)) rfl
 |cons i l M=>
  intro os d env H h r w U hr s z;match os,d with
  |o::os,d=>
   simp at d;obtain⟨R,m⟩:=d;simp only[wpOpsIn,R];have g:∀t,o.dst=δ t->t<r.tmps.size:=by intro t j;simp only[On]at U;rw[s.size];grind
   have p:On N os=ζ:=by simp_all[On]
   obtain⟨env1,A,b,hr⟩:=hr;obtain⟨x,e,E,d⟩:=b.2 C h r w s;have O:=E4.ext rfl b.1 E d (Gq.refl h H w);rcases xw e.env hr with⟨K,S⟩|⟨K,T⟩;rw[C! K];refine Oper.wpIn_mono ?_ (S Z C x r w e X);rintro u q ⟨c,v,y,n,rfl,k,Y,W,L⟩;have V:=L.later C;apply M os m _ n y _ q p k ⟨W,OT.putO (e.env.later V) g Y,(dS _ _ _).trans e.size⟩;intro env2 B m a2 I F G J D_;exact z env2 B m a2 I F G (O.trans (L.trans J)) (D_.trans (by cases o.dst<;>rfl));rw[D! q!];refine⟨λ_ _=>O!,M os m _ A x _ w p T ⟨e.sim,OT.putO e.env g (.tup rfl λ_ _ _ h=>by cases h),(dS _ _ _).trans e.size⟩ ?_⟩;intro env2 B m a2 I F G J D_;exact z env2 B m a2 I F G (O.trans J) (D_.trans (by cases o.dst<;>rfl))
theorem FU{N:Nat}{H:Ap}{id:Nat}{b:Array Oper}(i:On N b.toList=ζ)(h:WL P N b b.toList A H (Q .normal)):JU P N (.region id b η) A H Q:=by intro r X g a w s _;refine wpIn_region (sV (List.range b.size) b.toList ?_ A H g a w i h s ?_);apply Is;grind;intro c d f l m q j k e;exact⟨f,c,d,q,j,k,.same e⟩
open Go.MapKept (IsKey)
def Pv{α:Type}(n:Int)(v:α):List (Int×α)->List (Int×α)
 |[]=>[(n,v)]
 |p::r=>bif p.1==n then(n,v)::r else p::Pv n v r
def LB{α:Type}(n:Int):List (Int×α)->Option α
 |[]=>ε
 |p::r=>bif p.1==n then δ p.2 else LB n r
def yO{a c:Type}(f:a->c)(n:Int)(v:a):∀b:List (Int×a),(Pv n v b).map (λp=>(p.1,f p.2))=Pv n (f v) (b.map λp=>(p.1,f p.2))
 |[]=>rfl
 |p::r=>by simp only[Pv,Bn];cases p.1==n<;>simp[yO f n v r]
def tN{b c:Type}(f:b->c)(n:Int):∀a:List (Int×b),LB n (a.map λp=>(p.1,f p.2))=(LB n a).map f
 |[]=>rfl
 |p::r=>by simp only[LB,Bn];cases p.1==n<;>simp[tN f n r]
section
variable {X:Nat->Prop}{h:Gh}{H:Ap}{w:World}
def IC.of_extM{a:Gh}(c:IC X h H w)(k:Gq h H w a q s)
  (key:∀(id:Nat)(e:E5),q[id]?=δ e->e≠.dead->(H[id]?=δ e/\a.gen id=h.gen id/\a.io id=h.io id/\a.cap id=h.cap id/\∀B,h.io id=δ B->s.heap[B]?=w.heap[B]?)\/(e.isB=ζ/\BAt a s id e))
  (inj:∀(id b:Nat)(e g:E5)(B:Nat),q[id]?=δ e->q[b]?=δ g->e≠.dead->g≠.dead->a.io id=δ B->a.io b=δ B->id=b):IC X a q s:=
 c.of_ext' k (λi e j f=>(key i e j f).imp id λh=>.inr (.inr h)) inj
theorem IC.push_m(s:IC X h H w)(o:Obj)(cap:Nat)(E:E5)(u:E.isB=ζ)
  (t:BAt (h.at_ (θ H) (δ w.heap.size) 0 cap) {w with heap:=w.heap.push o} (θ H) E):
  IC X (h.at_ (θ H) (δ w.heap.size) 0 cap) (H++[E]) {w with heap:=w.heap.push o}:=by
 refine s.of_extM (Gq.push o cap E) (λid e d g=>?_) λid q e r B m n b c k l=>?_;rcases Il d with⟨a,d⟩|⟨rfl,rfl⟩;refine .inl ⟨d,by simp[Gh.at_,BX a],by simp[Gh.at_,BX a],by simp[Gh.at_,BX a],λB f=>?_⟩;have:=s.io_at d g f;grind;grind;rcases Il m with⟨l1,i⟩|⟨rfl,_⟩<;>rcases Il n with⟨l2,j⟩|⟨rfl,_⟩;exact s.inj _ _ _ _ B i j b c (by simpa[Gh.at_,BX l1]using k) (by simpa[Gh.at_,BX l2]using l);have p:=s.io_at i b (by simpa[Gh.at_,BX l1]using k);grind[Gh.at_];have p:=s.io_at j c (by simpa[Gh.at_,BX l2]using l);grind[Gh.at_];rfl
def IC.setM(s:IC X h H w){E E':E5}{o o':Obj}{w':World}(g:H[N]?=δ E)(J:E.isB=ζ)(v:E'.isB=ζ)(m:h.io N=δ n)(K:w.heap[n]?=δ o)(A:∀r,o≠.loop r)
  (G:w'.heap=w.heap.setIfInBounds n o') (C:w'.os=w.os) (B:w'.tape=w.tape) (M:w'.output=w.output) (x:BAt h w' N E'):
  IC X h (H.set N E') w'/\Gq h H w h (H.set N E') w':=by
 have d:N<θ H:=by rcases Ar N (θ H) with f|f;exact f;rw[Cf f]at g;cases g
 have b:E≠.dead:=by rintro rfl;cases J
 have O:∀k,k≠n->w'.heap[k]?=w.heap[k]? :=λk h=>by rw[G];simp[Oc h]
 have own:∀k,owned h (H.set N E') k->owned h H k:=by rintro k ⟨i,e,j,c,f⟩;rcases JH d j with⟨y,a⟩|⟨rfl,_⟩;exact⟨i,e,a,c,f⟩;exact⟨i,E,g,b,f⟩
 have I:Gq h H w h (H.set N E') w':=by refine⟨C,B,M,by rw[G];simp,λk _ hn=>O k λe=>hn ⟨N,E,g,b,by rw[e];exact m⟩,k!,λ_ _=>Ai _,λ_ _ _=>⟨rfl,rfl⟩,λk O=>.inl (own k O),λk r hr=>⟨r,?_⟩⟩;refine(O k λe=>?_).trans hr;subst e;rw[K]at hr;injection hr with hr;exact A r hr
 refine⟨s.of_extM I (λi e j c=>?_) (λi D_ e F k j f p q t u=>?_),I⟩;rcases JH d j with⟨y,a⟩|⟨rfl,rfl⟩;refine .inl ⟨a,rfl,rfl,rfl,λk z=>O k λe=>?_⟩;subst e;exact y (s.inj i N _ _ k a g c b z m);exact .inr ⟨v,x⟩;rcases JH d j with⟨y,a⟩|⟨rfl,rfl⟩<;>rcases JH d f with⟨L,l⟩|⟨rfl,rfl⟩;exact s.inj i D_ e F k a l p q t u;exact s.inj i D_ e E k a g p b t u;exact s.inj i D_ E F k g l b q t u;rfl
end
def mN{k:IntKind}{n:Int}:∀(l:List MapEntry)(a:List (Int×AV))(i:Nat),θ l=θ a→(∀(j:Nat)(p:Int×AV),a[j]?=δ p→ ∃e:MapEntry,l[j]?=δ e∧e.key=.int k p.1)→
  (Instr.findNow (.int k) (.int k n) l i=δ ε/\LB n a=ε/\∀v,Pv n v a=a++[(n,v)])\/∃j e p,Instr.findNow (.int k) (.int k n) l i=δ (δ (i+j,e.val))/\l[j]?=δ e/\a[j]?=δ p/\e.key=.int k n/\LB n a=δ p.2/\∀v,Pv n v a=a.set j (n,v)
 |[],[],_,_,_=>.inl ⟨rfl,rfl,λ_=>rfl⟩
 |[],_::_,_,hl,_=>by simp at hl
 |_::_,[],_,hl,_=>by simp at hl
 |e::l,p::a,i,hl,h=>by
  obtain⟨z,o,r⟩:=h 0 p rfl;simp only[aq,Al]at o;subst o;have m:Instr.sameNow (.int k) (.int k n) e.key=δ (n==p.1):=by rw[r];simp[Instr.sameNow]
  by_cases hn:p.1=n;refine .inr ⟨0,e,p,?_,rfl,rfl,by rw[r,hn],?_,λv=>?_⟩;simp[Instr.findNow,m,hn];simp[LB,hn];simp[Pv,hn];have c:(n==p.1)=η:=by simp;exact λe=>hn e.symm
  have b:(p.1==n)=η:=by simpa using hn
  rcases mN (k:=k) (n:=n) l a (i+1) (by simpa using hl) (λj q x=>by simpa using h (j+1) q (by simpa using x))with⟨d,f,g⟩|⟨j,s,y,d,f,g,t,u,w⟩;exact .inl ⟨by simp[Instr.findNow,m,c,d],by simp[LB,b,f],λv=>by simp[Pv,b,g]⟩;exact .inr ⟨j+1,s,y,by simp[Instr.findNow,m,c,d];omega,by simpa using f,by simpa using g,t,by simp[LB,b,u],λv=>by simp[Pv,b,w]⟩
section
variable {P:Program}{N:Nat}{o:Oper}{env:Env}{H:Ap}{K:AV->Ap->Prop}
def JI.makeMap(k:IntKind)(c:o.op=.makeMap b ε)(e:K (.mp (θ H)) (H++[.mp k []])):JI P N o env H K:=by
 apply Ct (by rw[c];rfl);intro X h a w s Q;have t:(execOp a.eval o).run P w=.ok (.value (.map (δ w.heap.size))) {w with heap:=w.heap.push (.map #[] 0)}:=by unfold execOp;rw[c];rfl
 unfold Oper.wp;rw[t,Oper.upon_value];refine⟨_,_,_,_,rfl,e,?_,s.sim.push_m (.map #[] 0) 0 (.mp k []) rfl ⟨w.heap.size, #[],by simp[Gh.at_],by simp[Gh.at_],k!,rfl,λj p d=>by simp at d⟩,Gq.push _ _ _⟩;exact .mp (by simp[cx]) rfl λ_=>⟨w.heap.size,by simp[cx,Gh.at_],rfl⟩
def ADc(a:St C h N env H e s)(u:BI env d=.mp n)(r:H[n]?=δ (.mp B V)):
  ∃(k:Nat)(b:Array MapEntry),e.eval d=.map (δ k)/\h.io n=δ k/\h.gen n=0/\s.heap[k]?=δ (.map b b.size)/\b.size=θ V/\∀(j:Nat)(p:Int×AV),V[j]?=δ p->∃w:MapEntry,b[j]?=δ w/\w.born=j/\w.key=.int B p.1/\∀d,Bi d p.2 w.val:=by
 have g:=DY a.env d;rw[u]at g;obtain⟨k,b,i,l,m,X,o⟩:=a.sim.bld n _ r rfl;generalize e.eval d=c at g;cases g with
 |mp t y q=>obtain⟨v,x,rfl⟩:=q l;rw[show(cx C h H s).io n=h.io n from rfl,i]at x;injection x with x;subst x;exact⟨k,b,rfl,i,l,m,X,o⟩
def ADN(w:St X h N env H e s)(a:BI env d=.int B i):e.eval d=.int B i:=by have b:=DY w.env d;rw[a]at b;generalize e.eval d=c at b;cases b;rfl
theorem JI.mapUpdate{et:TypeId}{C:Operand}{id:Nat}{k:IntKind}{es:List (Int×AV)}{n:Int}{v:AV}(U:o.op=.mapUpdate b d T C)(hm:BI env d=.mp id)(J:BI env T=.int k n)
  (hp:∀(x:Cx)(c:Value),Bi x (BI env C) c->∀y,Bi y v c) (V:P.underlying b=δ (.map I et)) (l:P.underlying I=δ (.int k)) (G:H[id]?=δ (.mp k es)) (t:K .any (H.set id (.mp k (Pv n v es)))):JI P N o env H K:=by
 apply Ct (by rw[U];rfl);intro X h a w s Q;obtain⟨B,m,Y,D_,Z,u,q5,q6⟩:=ADc s hm G;have qk:=ADN s J;have rv:=hp _ _ (DY s.env C);generalize z:a.eval C=c at rv;have af:id<θ H:=q!
 have f:IsKey (.int k) (.int k n):=rfl;have q:B<w.heap.size:=(au.1 u).1;have A:execOp a.eval o=(do Instr.mapUpdate b (a.eval d) (a.eval T) (a.eval C);pure .skip):=by unfold execOp;rw[U]
 rcases mN (n:=n) (k:=k) m.toList es 0 q! (λj p W=>by obtain⟨e,e1,_,E,_⟩:=q6 j p W;exact⟨e,q!,E⟩)with⟨F,R,S⟩|⟨j,e0,p0,F,R,S,h4,h5,h6⟩;have g:(execOp a.eval o).run P w=.ok .skip {w with heap:=w.heap.setIfInBounds B (.map (m.push {key:=.int k n,val:=c,born:=m.size}) (m.size+1))}:=by rw[A,Y,qk,z];simp[Instr.mapUpdate,run_underlying V,MapKept.run_getObj_map u,MapKept.run_checkKey l f,MapKept.run_findKey l F,MapKept.run_setObj_map _ u]
 unfold Oper.wp;rw[g,Oper.upon_skip];obtain⟨M,O⟩:=s.sim.setM (E':=.mp k (Pv n v es)) (o':=.map (m.push {key:=.int k n,val:=c,born:=m.size}) (m.size+1))
  (w':={w with heap:=w.heap.setIfInBounds B (.map (m.push {key:=.int k n,val:=c,born:=m.size}) (m.size+1))}) G rfl rfl D_ u (λr e=>by cases e) rfl rfl rfl rfl (by refine⟨B,m.push {key:=.int k n,val:=c,born:=m.size},D_,Z,by simp[q],q!,λj p W=>?_⟩;rw[S]at W;rcases Ob j (θ es) with ao|rfl|ad;grind;rw[Ce (Ai _),Gi]at W;simp only[aq,Al]at W;subst W;exact⟨{key:=.int k n,val:=c,born:=m.size},q!,q5,rfl,rv⟩;rw[Cf w!]at W;cases W)
 exact⟨_,_,_,_,rfl,t,.any _,M,O⟩;have W:m[j]?=δ e0:=by simpa using R
 have al:j<m.size:=(au.1 W).1;have g:(execOp a.eval o).run P w=.ok .skip {w with heap:=w.heap.setIfInBounds B (.map (m.modify j λe=>{e with key:=.int k n,val:=c}) m.size)}:=by rw[A,Y,qk,z];simp[Instr.mapUpdate,run_underlying V,MapKept.run_getObj_map u,MapKept.run_checkKey l f,MapKept.run_findKey l F,W,h4,MapKept.run_keyThatStays f,MapKept.run_setObj_map _ u]
 unfold Oper.wp;rw[g,Oper.upon_skip];obtain⟨M,O⟩:=s.sim.setM (E':=.mp k (Pv n v es)) (o':=.map (m.modify j λe=>{e with key:=.int k n,val:=c}) m.size)
  (w':={w with heap:=w.heap.setIfInBounds B (.map (m.modify j λe=>{e with key:=.int k n,val:=c}) m.size)}) G rfl rfl D_ u (λr e=>by cases e) rfl rfl rfl rfl (by refine⟨B,m.modify j λe=>{e with key:=.int k n,val:=c},D_,Z,by simp[q],q!,λi p L=>?_⟩;rw[h6,XS]at L;split at L;grind;rename_i ag;obtain⟨e,e1,E⟩:=q6 i p L;exact⟨e,q!,E⟩)
 exact⟨_,_,_,_,rfl,t,.any _,M,O⟩
def ABK(P:Program)(t:TypeId):Option AV:=
 match (P.info? t).bind (·.zero)with
 |some (.agg cs)=>if cs.toList.all (·.oneCell')then δ (.agg (cs.toList.map qC))else ε
 |some (.bool b)=>δ (.bool b)
 |_=>ε
theorem ACH(h:ABK P b=δ v)(w:World):∃t,(zeroValue b).run P w=.ok t w/\∀x,Bi x v t:=by unfold ABK at h;split at h;rename_i d a;split at h;rename_i e;obtain⟨i,c,a⟩:=DB.1 a;refine⟨.agg d,by simp[zeroValue,typeInfo,c,a],λx=>?_⟩;have:=xg x (.agg d);grind[ABg];cases h;rename_i z a;obtain⟨i,c,a⟩:=DB.1 a;injection h with h;subst h;exact⟨.bool z,by simp[zeroValue,typeInfo,c,a],λx=>.bool z⟩;cases h
theorem JI.lookup{O:TypeId}{id:Nat}{k:IntKind}{es:List (Int×AV)}{n:Int}{z:AV}{g:Bool}(t:o.op=.lookup b d T g)(hm:BI env d=.mp id)(G:BI env T=.int k n)
  (U:P.underlying b=δ (.map I O)) (f:P.underlying I=δ (.int k)) (hz:ABK P O=δ z) (he:H[id]?=δ (.mp k es))
  (hk:K (bif g then .tup [(LB n es).getD z,.bool (LB n es).isSome]else(LB n es).getD z) H):JI P N o env H K:=by
 apply Ct (by rw[t];cases g<;>rfl);intro X h a w s Q;obtain⟨B,q,Y,q2,q3,Z,q5,q6⟩:=ADc s hm he;have qk:=ADN s G;have i:IsKey (.int k) (.int k n):=rfl;have y:execOp a.eval o=(do pure (.value (<-Instr.lookup b (a.eval d) (a.eval T) g))):=by unfold execOp;rw[t]
 have x:∀(c:Value)(v:AV)(m:Bool),(execOp a.eval o).run P w=.ok (.value (bif g then .tuple #[c,.bool m]else c)) w→Bi (cx X h H w) v c→K (bif g then .tup [v,.bool m]else v) H→
   Oper.wp P o a w (λa' L=>∃c v E C,a'=a.put o.dst c/\K v C/\Bi (cx X E C L) v c/\IC X E C L/\Gq h H w E C L) Q:=by
  intro c v m A J hK;unfold Oper.wp;rw[A,Oper.upon_value];refine⟨_,_,h,H,rfl,hK,?_,s.sim,Gq.refl _ _ _⟩;cases g;exact J;refine .tup k! λj u V l S=>?_;rcases j with _|_|j;grind;simp at l S;subst l S;exact .bool m;grind
 rcases mN (n:=n) (k:=k) q.toList es 0 q! (λj p l=>by obtain⟨e,r,_,D_,_⟩:=q6 j p l;exact⟨e,q!,D_⟩)with⟨F,h2,R⟩|⟨j,M,W,F,h2,R,h4,h5,h6⟩;obtain⟨v,J,hr⟩:=ACH hz w;refine x v z η ?_ (hr _) q!;rw[y,Y,qk];cases g<;>simp[Instr.lookup,run_underlying U,MapKept.run_getObj_map Z,MapKept.run_checkKey f i,MapKept.run_findKey f F,J];obtain⟨e',r,_,_,D_⟩:=q6 j W R;have l:q[j]?=δ M:=q!
 rw[l]at r;injection r with r;subst r;refine x M.val W.2 ζ ?_ (D_ _) q!;rw[y,Y,qk];cases g<;>simp[Instr.lookup,run_underlying U,MapKept.run_getObj_map Z,MapKept.run_checkKey f i,MapKept.run_findKey f F]
theorem JI.range{f:TypeId}{id:Nat}{k:IntKind}{es:List (Int×AV)}(t:o.op=.range b d)(j:BI env d=.mp id)(l:P.underlying b=δ (.map I f))(g:H[id]?=δ (.mp k es))
  (i:K (.itp (θ H) id) (H++[.it (θ es) []])):JI P N o env H K:=by
 apply Ct (by rw[t];rfl);intro X h a w s Q;obtain⟨B,e,p,q,v,r,u,x⟩:=ADc s j g;have c:id<θ H:=q!
 have n:(execOp a.eval o).run P w=.ok (.value (.pointer (δ ⟨w.heap.size,0,ε⟩))) {w with heap:=w.heap.push (.mapIter (δ B) (θ es) #[] (θ es))}:=by unfold execOp;rw[t];simp only[p];simp[Instr.range,run_underlying l,MapKept.run_getObj_map r,newObj,u];rfl
 unfold Oper.wp;rw[n,Oper.upon_value];refine⟨_,_,_,_,rfl,i,?_,s.sim.push_m (.mapIter (δ B) (θ es) #[] (θ es)) B (.it (θ es) []) rfl ⟨w.heap.size,by simp[Gh.at_],by simp[Gh.at_],by simp[Gh.at_]⟩,Gq.push _ _ _⟩;exact .itp (by simp[cx]) (by simp[cx];omega) rfl λ_=>⟨w.heap.size,by simp[cx,Gh.at_],rfl,λ_=>by simp[cx,Gh.at_,BX c,q]⟩
def AGI{id m:Nat}{seen:List Nat}(w:St C h N env H e s)(F:BI env d=.itp id m)(D_:H[id]?=δ (.it n seen))(a:H[m]?=δ (.mp B V)):
  ∃(k f:Nat)(b:Array MapEntry),e.eval d=.pointer (δ ⟨k,0,ε⟩)/\h.io id=δ k/\h.gen id=0/\s.heap[k]?=δ (.mapIter (δ f) n seen.toArray n)/\h.cap id=f/\s.heap[f]?=δ (.map b b.size)/\b.size=θ V/\∀(j:Nat)(p:Int×AV),V[j]?=δ p->∃X:MapEntry,b[j]?=δ X/\X.born=j/\X.key=.int B p.1/\∀d,Bi d p.2 X.val:=by
 have l:=DY w.env d;rw[F]at l;obtain⟨k,o,q,r⟩:=w.sim.bld id _ D_ rfl;obtain⟨f,b,t,u,v,y,z⟩:=w.sim.bld m _ a rfl;generalize e.eval d=c at l;cases l with
 |itp E J I A=>obtain⟨G,g,rfl,x⟩:=A q;rw[show(cx C h H s).io id=h.io id from rfl,o]at g;injection g with g;subst g;have x:=x u;rw[show(cx C h H s).io m=h.io m from rfl,t]at x;injection x with x;have x:f=h.cap id:=x;subst x;exact⟨k,_,b,rfl,o,q,r,rfl,v,y,z⟩
theorem JI.next{x:Operand}{id m:Nat}{k:IntKind}{es:List (Int×AV)}{seen:List Nat}(ho:o.op= .next x false)(hx:BI env x= .itp id m)(f:H[id]? =some (.it es.length seen))(he:H[m]? =some (.mp k es))
  (z:(∀j,j<es.length->j∈seen)->K (.tup [.bool false]) H)
  (C: ∀(j:Nat) (p:Int×AV),es[j]? =some p->j∉seen->K (.tup [.bool true,.int k p.1,p.2]) (H.set id (.it es.length (seen++[j])))):JI P N o env H K:=by
 apply Ct (by rw[ho];rfl);intro X h a w s Q;obtain⟨B,v,c,q1,q2,q3,q4,qc,q5,q6,q7⟩:=AGI s hx f he;have al:execOp a.eval o=(do pure (.value (<-Instr.next (a.eval x) false o.type))):=by unfold execOp;rw[ho]
 have y: ∀(j:Nat) (e:MapEntry),c[j]? =some e->e.born=j/\j<es.length:=by
  intro j e q;have I:j<es.length:=by grind[Array.getElem?_eq_some_iff]
  obtain⟨e',E,T,_⟩:=q7 j _ (As I);rw[q]at E;injection E with E;subst E;exact⟨T,I⟩
 have t: ∀e∈c.toList,e.born<es.length:=λe A=>by grind[List.getElem?_of_mem]
 have M:w.heap[B]? =some (.mapIter (some v) es.length seen.toArray es.length):=q4;generalize V:Array.filter (λe:MapEntry=>!seen.toArray.contains e.born) c=L;have G: ∀e∈L.toList,e∈c.toList/\e.born∉seen:=λe A=>by rw[<-V]at A;simpa using A
 have E:L.filter (λx=>decide (x.born<es.length))=L:=Array.filter_eq_self.2 (λx hx=>by simpa using t x (G x (by simpa using hx)).1);have T:L.filter (λx=>decide (x.born>=es.length))= #[]:=by grind[Array.filter_eq_empty_iff]
 have D_:(Instr.next (.pointer (some ⟨B,0,none⟩)) false o.type).run P w=((do
   let b:=(if L.isEmpty then #[none]else #[])++L.map some;match b[<-choose (.mapNext b.size)]? with
   |some (some e)=>
    setObj B (.mapIter (some v) es.length (seen.toArray.push e.born) c.size)
    pure (.tuple #[.bool true,e.key,e.val])
   |some none=>pure (.tuple #[.bool false])
   |none=>stuck "Next: no such candidate"):Sem Value).run P w:=by
  simp only[Instr.next,getObj,Sem.run_bind,Sem.run,M,q5,Result.andThen,next_test_false seen.toArray c es.length es.length t (Ai _),PY,if_false,V,E,T,Array.append_empty];rfl
 by_cases h0:L.size=0;have W:L= #[]:=mh h0;subst W;have g:(execOp a.eval o).run P w= .ok (.value (.tuple #[.bool false])) w:=by simp_all[Sem.run_bind,Sem.run,Question.forced]
 unfold Oper.wp;rw[g,Oper.upon_value];refine⟨_,_,h,H,rfl,z λj q=>?_,.tup k! λi u d f n=>?_,s.sim,Gq.refl _ _ _⟩;obtain⟨e,O,R,_⟩:=q7 j _ (As q);rcases Classical.em (j∈seen)with U|U;exact U;have:e∈(Array.filter (λe:MapEntry=>!seen.toArray.contains e.born) c).toList:=by have A:e∈c:=uV O;simp[A,R,U]
 rw[V]at this;simp at this;rcases i with _|i;simp at f n;subst f n;exact .bool false;simp at f;have ap:L.isEmpty=false:=by simp[Array.isEmpty,h0]
 obtain⟨i,l,ao,Y,Z,ad,af,ag⟩: ∃(i:Nat) (l:World),i<L.size/\l.heap=w.heap/\l.os=w.os/\l.output=w.output/\l.tape=w.tape/\(choose (Question.mapNext L.size)).run P w= .ok i l:=by by_cases hf:L.size<=1;exact⟨0,w,o!,rfl,rfl,rfl,rfl,by simp[choose,Sem.run,Question.forced,hf]⟩;exact⟨_,w.drew,Xi _ o!,rfl,rfl,rfl,rfl,by simp only[choose,Sem.run,Question.forced,decide_eq_true_eq,hf,if_false,Question.cut];rfl⟩
 have A:L[i]∈L.toList:=k!
 obtain⟨m1,m2⟩:=G _ A;obtain⟨j,q⟩:=Ci m1;have q:c[j]? =some L[i]:=by simpa using q
 obtain⟨O,R⟩:=y j _ q;obtain⟨e,S,c2,c3,c4⟩:=q7 j _ (As R);rw[q]at S;injection S with S;subst S;have F:B<w.heap.size:=(au.1 q4).1;have g:(execOp a.eval o).run P w= .ok (.value (.tuple #[.bool true,.int k es[j].1,L[i].val])) {l with heap:=w.heap.setIfInBounds B (.mapIter (some v) es.length (seen++[j]).toArray es.length)}:=by
  rw[al,q1,Sem.run_bind,D_];simp only[ap,PY,if_false,Array.empty_append,Array.size_map,Sem.run_bind,ag,Result.andThen_ok,aw,Nr ao,Bd];have J:(setObj B (.mapIter (some v) es.length (seen.toArray.push L[i].born) c.size)).run P l= .ok () {l with heap:=w.heap.setIfInBounds B (.mapIter (some v) es.length (seen++[j]).toArray es.length)}:=by simp[setObj,Sem.run,Y,M,O,q6]
  simp only[J,Result.andThen_ok,Sem.run_pure,c3]
 unfold Oper.wp;rw[g,Oper.upon_value];obtain⟨s1,s2⟩:=s.sim.setM (E':=.it es.length (seen++[j])) (o':=.mapIter (some v) es.length (seen++[j]).toArray es.length) (w':={l with heap:=w.heap.setIfInBounds B (.mapIter (some v) es.length (seen++[j]).toArray es.length)}) f rfl rfl q2 q4 (λr e=>by cases e) rfl Z af ad
  ⟨B,q2,q3,by simp[F,qc]⟩
 refine⟨_,_,_,_,rfl,C j _ (As R) (by rw[<-O];exact m2),.tup k! λi u d f n=>?_,s1,s2⟩;rcases i with _|_|_|i;simp at f n;subst f n;exact .bool true;simp at f n;subst f n;exact .int _ _;simp at f n;subst f n;exact c4 _;simp at f
theorem JI.entry{x:Operand}{id m j:Nat}{k:IntKind}{es:List (Int×AV)}{seen:List Nat}{p:Int×AV}(l:o.op=.entry x)(C:BI env x=.itp id m)(f:H[id]?=δ (.it (θ es) (seen++[j])))(t:H[m]?=δ (.mp k es))
  (y:es[j]?=δ p) (z:K (.tup [.int k p.1,p.2]) H):JI P N o env H K:=by
 apply Ct (by rw[l];rfl);intro X h a w s Q;obtain⟨B,I,b,D_,S,T,E,U,F,G,n⟩:=AGI s C f t;obtain⟨e,J,q,r,L⟩:=n j p y;have v:b.find? (λx=>x.born==j)=δ e:=by
  rw[<-Array.find?_toList,<-q];refine find_born e b.toList ?_ q!;have R:b.toList.map (·.born)=List.range b.size:=by refine Is λi=>?_;rw[B6,PX];rcases Ar i b.size with A|A;obtain⟨e,M,O,_⟩:=n i _ (As (by omega:i<θ es));grind;grind
  grind
 have c:(execOp a.eval o).run P w=.ok (.value (.tuple #[.int k p.1,e.val])) w:=by unfold execOp;rw[l];simp only[D_];simp[Instr.entry,getObj,Sem.run,E,F,G,v,r]
 unfold Oper.wp;rw[c,Oper.upon_value];refine⟨_,_,h,H,rfl,z,.tup k! λi u d f g=>?_,s.sim,Gq.refl _ _ _⟩;rcases i with _|_|i;simp at f g;subst f g;exact .int _ _;grind;grind
end
mutual
def Ty.flat:Ty->Bool
 |.list _=>η
 |.arr _ t=>t.flat
 |.prod ts=>ts.flat
 |_=>ζ
def Rp.flat:Rp->Bool
 |.one t=>t.flat
 |.cons t ts=>t.flat&&ts.flat
end
def Plain(v:AV):Prop:=∀(x:Cx)(c:Value),Bi x v c->∀y,Bi y v c
theorem Plain.agg{a:List AV}(h:∀v∈a,Plain v):Plain (.agg a):=λx c r y=>by
 cases r with
 |agg e f i=>exact .agg e f λj v d b g=>h v (BM b) x d (i j v d b g) y
mutual
theorem Ty.plain_cells:∀(t:Ty),t.flat=ζ->∀x:t.D,∀v∈(t.enc x).cells,Plain v
 |.bool,_,b,v,d=>by simp only[Ty.enc,AV.cells,A7]at d;subst d;exact λ_ c r y=>by cases r;exact .bool _
 |.int k,_,n,v,d=>by simp only[Ty.enc,AV.cells,A7]at d;subst d;exact λ_ c r y=>by cases r;exact .int _ _
 |.str,_,s,v,d=>by
  simp only[Ty.enc,AV.cells,A7]at d;subst d;exact λ_ c r y=>by
   cases r with
   |str t e=>exact .str t e
 |.list t,h,_,_,_=>by cases h
 |.arr n t,h,a,v,d=>by simp only[Ty.enc,AV.cells,Gf]at d;obtain⟨i,_,d⟩:=d;exact t.plain_cells h _ v d
 |.prod ts,h,x,v,d=>ts.plain_cells h x v d
theorem Rp.plain_cells:∀(b:Rp),b.flat=ζ->∀x:b.D,∀v∈b.cells x,Plain v
 |.one t,h,x,v,a=>t.plain_cells h x v a
 |.cons t b,h,x,v,a=>by simp only[Rp.flat,BN]at h;simp only[Rp.cells,Ao]at a;rcases a with a|a;exact t.plain_cells h.1 _ v a;exact b.plain_cells h.2 _ v a
end
theorem Ty.plain(t:Ty)(h:t.flat=ζ)(x:t.D):Plain (t.enc x):=by have a:=t.plain_cells h x;cases t<;>grind[Plain.agg,Ty.enc,AV.cells]
section
variable {R:Type}
def tK(P:Program)(H:Am)(t:TypeId)(k:TV->Am->Option R):Option R:=
 match P.underlying t with
 |some (.map kt et)=>
  match P.underlying kt,AAQ P 1000 et with
  |some (.int kk),δ ty=>k (.c (.raw (.mp (θ H)))) (H++[.mp η kk ty []])
  |_,_=>ε
 |_=>ε
def mU(P:Program)(H:Am)(t:TypeId)(m kx v:TV)(k:TV->Am->Option R):Option R:=
 match P.underlying t with
 |some (.map kt _)=>
  match m,kx with
  |.c (.raw (.mp id)),.c (.it kk n)=>
   match P.underlying kt,H[id]? with
   |some (.int k1),δ (.mp η k2 ty es)=>
    if k1=kk/\k2=kk then
     match ty.flat with
     |true=>match ty.data v with|some x=>k Up (H.set id (.mp η k2 ty (Pv n x es)))|none=>ε
     |false=>ε
    else ε
   |_,_=>ε
  |_,_=>ε
 |_=>ε
def wT(P:Program)(H:Am)(t:TypeId)(g:Bool)(m kx:TV)(k:TV->Am->Option R):Option R:=
 match P.underlying t with
 |some (.map kt et)=>
  match m,kx with
  |.c (.raw (.mp id)),.c (.it kk n)=>
   match P.underlying kt,H[id]?,ABK P et with
   |some (.int k1),δ (.mp _ k2 ty es),δ z=>
    if k1=kk/\k2=kk then
     match AV.beq z (ty.enc ty.zero)with
     |true=>k (bif g then .tup [ty.tv ((LB n es).getD ty.zero),.c (.bl (LB n es).isSome)]else ty.tv ((LB n es).getD ty.zero)) H
     |false=>ε
    else ε
   |_,_,_=>ε
  |_,_=>ε
 |_=>ε
variable {P:Program}{N:Nat}{o:Oper}{env:BT}{H:Am}{k:TV->Am->Option R}{r:R}
theorem tL(ok:Np env H)(t:o.op=.makeMap b ε)(h:tK P H b k=δ r):∀F,lZ P N o env H F k r:=by intro F;unfold tK at h;split at h;split at h;rename_i a c _ _;have st:Bz H (H++[.mp η a c []]):=Bz.push H _;refine⟨_,_,JI.makeMap a t ⟨?_,?_⟩,h,JW trivial,PW ok.heap trivial,st,Frame.push F H _⟩;show AV.mp (A8 H).length=AV.mp (θ H);rw[CK];rw[Q4];rfl;cases h;cases h
def pQ{u:Operand}(ok:Np env H)(E:o.op=.mapUpdate b d T u)(h:mU P H b (JK env d) (JK env T) (JK env u) k=δ r):lZ P N o env H (List.range (θ H)) k r:=by
 have m:=LK env;unfold mU at h;split at h;rename_i K I F;split at h;rename_i id J n D C;split at h;rename_i k1 q a t g i;split at h;rename_i f;obtain⟨w,A⟩:=f;subst w A;split at h;rename_i e;split at h;rename_i x G;have st:Bz H (H.set id (.mp η q a (Pv n x t))):=Bz.set i rfl λ_ _ _ _ _ h=>by cases h
 refine⟨Up,_,JI.mapUpdate (id:=id) (k:=q) (n:=n) (v:=a.enc x) (es:=t.map λp=>(p.1,a.enc p.2)) E (by rw[m,D];rfl) (by rw[m,C];rfl) (λy c l z=>?_) F g (by rw[Dy,i];rfl) ⟨rfl,?_⟩,h,gW,RG st ok.heap trivial,st,λj B hn=>(hn (Hh.2 B)).elim⟩;rw[m]at l;exact a.plain e x y c (Jh G y c l) z;rw[Kx,<-yO];rfl;cases h;cases h;cases h;cases h;cases h;cases h
theorem uR(ok:Np env H)(y:o.op=.lookup b d T S)(h:wT P H b S (JK env d) (JK env T) k=δ r):∀F,lZ P N o env H F k r:=by
 intro F;have i:=LK env;unfold wT at h;split at h;rename_i G D_ A;split at h;rename_i id E n x w;split at h;rename_i k1 ro C c a z f u B;split at h;rename_i t;obtain⟨l,q⟩:=t;subst l q;split at h;rename_i s;have e:(LB n (a.map λp=>(p.1,c.enc p.2))).getD z=(c.tv ((LB n a).getD c.zero)).enc:=by rw[tN,beq_eq _ _ s,Ty.tv_enc];cases LB n a<;>rfl
 refine⟨_,H,JI.lookup (id:=id) (k:=C) (n:=n) (z:=z) (g:=S) (es:=a.map λp=>(p.1,c.enc p.2)) y (by rw[i,x];rfl) (by rw[i,w];rfl) A f B (by rw[Dy,u];rfl) ⟨?_,rfl⟩,h,?_,ok.heap,Bz.refl H,Frame.refl F H⟩;rw[e,tN];cases S<;>cases LB n a<;>rfl;cases S;exact Ty.tv_ok _ _;refine RF λv m=>?_;rcases A1.1 m with rfl|m;exact Ty.tv_ok _ _;simp at m;subst m;exact JW trivial;cases h;cases h;cases h;cases h;cases h
end
end Go.Ab
