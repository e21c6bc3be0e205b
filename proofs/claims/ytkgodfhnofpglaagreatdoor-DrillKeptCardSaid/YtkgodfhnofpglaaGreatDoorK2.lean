/- Texts of wip, joined and shortened by wip/tools/pack.py; nothing is assumed. -/
import Derived.Test.YtkgodfhnofpglaaGreatDoorK1
import Derived.Laws.MakeOwn
import Derived.RangeFuncNested
import Derived.Lib.ConvBytes
import Derived.Laws.AppendOwn
import Derived.Laws.IdiomRangeMap
noncomputable section
set_option linter.all false
open Option renaming some->D
open Go renaming Ψ->E
open Option renaming some->δ,none->ε
open Bool renaming true->ζ,false->η
open List renaming length->θ,replicate->ς
open Nat renaming beq->ξ
open Decidable renaming decide->τ
namespace Go.Ab
variable {b I H:TypeId}{N n:Nat}{d T:Operand}{g U:List AZ}{R Y:Type}{P:Program}{q:As}{s:World}{c:Code}{i:Int}{u:Array (Nat×Operand)}{z:FuncId}{A:Env}{B:IntKind}{C:Nat→Prop}{v:AZ}{h:Gh}{Q:Exit->Env->As->Prop}{y k:Cx}{X:Nat->Prop}{L:List UInt8}{o:Oper}{S:Bool}{V:List (Int×AZ)}{W:AZ→As→Prop}{Z:Option Nat}{a:Array Oper}{e:Act}{r:TypeDesc}{x:FO}{K:Value}
section
variable {P:Program}{N:Nat}{o:Oper}{env:Env}{H:As}{K:AZ->As->Prop}
theorem rR{c:Call}
  (A:o.op=.call c) (m:c.callee=.value d) (G:BN env d=.fn (.func z) U g) (D_:Enters P z=ζ)
  (E:Ei P z (pU env c U g) H K):Jn P N o env H K:=by
 apply C6 (by rw[A];rfl);intro X h a w s Q;have k:=Di s.env d;rw[G]at k
 obtain⟨b,e,r,t,C,I,J⟩:∃b e,a.eval d=.func (.func z) b e∧b.size=θ U∧e.size=θ g∧
   (∀(j:Nat)(v:AZ)(c:Value),U[j]?=D v->b[j]?=D c->Bv (cx X h H w) v c)/\(∀(j:Nat)(v:AZ)(c:Value),g[j]?=D v->e[j]?=D c->Bv (cx X h H w) v c):=by
  generalize a.eval d=cf at k;cases k<;>grind
 have q:(execOp a.eval o).run P w=.ok (.enter z (b++c.args.map a.eval++e)) w:=by unfold execOp;rw[A];simp only[resolve,m,r,Deferred.ofValue,Sem.run_bind,Sem.run_pure,Result.andThen_ok,invoke,jm D_]
 unfold Oper.wp;rw[q];simp only[Oper.upon_enter];have i:∀(j:Nat)(v:AZ)(f:Value),(pU env c U g)[j]?=D v->(b++c.args.map a.eval++e)[j]?=D f->Bv (cx X h H w) v f:=by
  intro j v f l n;unfold pU at l;rcases Aw j (θ U+c.args.size)with y|u;rw[CW w!]at l;rw[ZE w!]at n;rcases Aw j (θ U)with F|p
  grind;rw[Cm p,B9]at l;rw[uR o!,dX,t]at n;cases B:c.args[j-θ U]? with
  |none=>grind
  |some x=>rw[B]at n;rw[Qe,B]at l;simp only[Br,Ap]at l n;subst l n;exact Di s.env x
  grind
 refine(E X h w _ s.sim ?_ i).mono ?_;simp[pU,t,C];grind
def Tt(P:Program)(env:Env)(t:TypeId)(len:Nat)(parts:Array (Nat×Operand)):Ω (Nat×E AZ):=
 match eI P t with
 |some (ε,e,sz)=>
  let vs:=parts.toList.map λp=>BN env p.2
  if 0<sz/\S9 P e=ζ/\parts.toList.map (·.1)=List.range len/\(vs.all λv=>v.solid&&τ (θ v.cells=sz))=ζ/\len<=4096/\sz<=4096 then D (sz,vs)else ε
 |_=>ε
theorem Wa{len sz:Nat}{vs:E AZ}(c:o.op=.buildSlice b len u)(d:Tt P env b len u=D (sz,vs))(t:K (.vs sz vs) H):Jn P N o env H K:=by grind[Tt,Jn.buildSlice]
theorem fL{t:TypeId}{len sz:Nat}{f:Array (Nat×Operand)}{T:Ψ AZ}(ho:o.op=.buildSlice t len f)(r:Tt P env t len f=D (sz,T))
  (hk:K (.sl (θ H) 0 sz 0 (θ T)) (H++[.live 0 (T.flatMap AZ.cells)])):Jn P N o env H K:=by
 unfold Tt at r;split at r
 case h_2=>cases r
 rename_i e y he;simp only at r;split at r
 case isFalse=>cases r
 rename_i L;obtain⟨a5,a3,F,a9,O⟩:=L;simp only[Ap,EW]at r;obtain⟨rfl,a8⟩:=r;have ao:∀v∈T,v.solid=ζ/\θ v.cells=y:=λv S=>by grind[List.all_eq_true]
 apply C6 (by rw[ho];rfl);intro X h a w s Q;obtain⟨ap,b,hi⟩:=Rf he;obtain⟨i,z,G,_,hz,a'⟩:=VI a3;have B:=nU hi G;have hl:θ T=len:=by have k:=E! θ F;grind[θ]
 let A:Ψ Value:=f.toList.map λp=>a.eval p.2;have V:θ A=len:=by grind[θ]
 have R:∀(j:Nat)(v:AZ)(c:Value),T[j]?=D v->A[j]?=D c->Bv (cx X h H w) (.agg v.cells) (.agg c.cells)/\θ v.cells=y:=by
  intro j v c S L;have Z:=ao v (BQ S);refine⟨?_,Z.2⟩;subst a8;simp only[A,B9]at S L;cases r:f.toList[j]? with
  |none=>rw[r]at S;cases S
  |some p=>rw[r]at S L;simp only[Br,Ap]at S L;subst S L;exact Xo (Di s.env p.2) Z.1
 have J:∀c∈A,c.cells.size=y:=by
  intro c L;obtain⟨j,g⟩:=Cu L;have Y:j<θ T:=by grind[Nat.lt_or_ge,u?]
  obtain⟨k,n⟩:=R j _ c (Ar Y) g;cases k<;>grind
 have ar:(f.map λq=>(q.1,a.eval q.2)).toList=(A.zipIdx 0).map λx=>(x.2,x.1):=by
  apply JN;intro j;simp only[Array.toList_map,B9,List.getElem?_zipIdx,DQ,A];cases r:f.toList[j]? with
  |none=>rfl
  |some p=>
   have k:(f.toList.map (·.1))[j]?=D p.1:=by rw[B9,r];rfl
   rw[F]at k;have Y:j<len:=by rcases Aw j len with n|n;exact n;rw[Cn (by simpa using n)]at k;cases k
   rw[R8 Y]at k;simp only[Ap]at k;simp[k]
 have C:∀l:Ψ Value,(∀c∈l,c.cells.size=y)->(l.flatMap λc=>c.cells.toList).length=θ l*y:=by
  intro l;induction l with
  |nil=>simp
  |cons c l ih=>intro hl;simp only[IV,Ae,Dq,hl c k!,ih (λd M=>hl d (CQ _ M)),CY,ED];omega
 have W:(A.flatMap λc=>c.cells.toList).length=len*y:=by rw[C A J,V]
 have I:∃D_:Array Value,(execOp a.eval o).run P w=.ok (.value (.slice (D ⟨w.heap.size,0,ε⟩) len len)) {w with heap:=w.heap.push (.cells D_ e)}/\D_.toList=A.flatMap λc=>c.cells.toList:=by
  unfold execOp;rw[ho];by_cases h0:len=0;subst h0;have:A=[]:=EX V;refine⟨#[],?_,by rw[this];rfl⟩;have r:f= #[]:=by have k:=E! θ F;simp at k;exact k
  simp[Instr.buildSlice,run_underlying ap,L5 hi,r,Instr.fill,newRow,show Array.range 0= #[]from rfl];refine⟨(A.flatMap λc=>c.cells.toList).toArray,?_,rfl⟩;have ag:¬len*i.size=0:=by rw[B];exact Nat.mul_ne_zero h0 o!
  have a4:¬len*i.size>2^24:=by rw[B];have:=oR O.1 O.2;omega
  have hf:=Go.Great.fill_whole (s:=y) a5 A ((Array.range (len*i.size)).map (z.cells[· %z.cells.size]!)) J (by simp[V,B]);have:=run_buildSlice (P:=P) w t e len (f.map λq=>(q.1,a.eval q.2)) _ i z ap G hz a4 ag (by rw[ar,B]at*;exact hf);simp only[Sem.run_bind];rw[show(f.map λx=>match x with|(i,x)=>(i,a.eval x))=(f.map λq=>(q.1,a.eval q.2))from rfl,this];rfl
 obtain⟨D_,I,ad⟩:=I;unfold Oper.wp;rw[I,Oper.upon_value]
 have U:∀(l:Ψ AZ)(m:Ψ Value),θ m=θ l→(∀(j:Nat)(v:AZ)(c:Value),l[j]?=D v→m[j]?=D c→Bv (cx X h H w) (.agg v.cells) (.agg c.cells))→
   Bv (cx X h H w) (.agg (l.flatMap AZ.cells)) (.agg (m.flatMap λc=>c.cells.toList).toArray):=by
  intro l;induction l with
  |nil=>intro m Z _;have:m=[]:=EX (by simpa using Z);subst this;exact .agg rfl (λj c g=>by simp at g) λj v c g=>by simp at g
  |cons v l ih=>
   intro m Z hr;cases m with
   |nil=>simp at Z
   |cons c m=>
    have r0:=hr 0 v c rfl rfl;have r1:=ih m (by simpa using Z) λj v' c' k n=>hr (j+1) v' c' (by simpa using k) (by simpa using n);cases r0 with
    |agg al a0 a6=>
     cases r1 with
     |agg a2 a1 a7=>
      have e2:(m.flatMap λc=>c.cells.toList).length=(l.flatMap AZ.cells).length:=by simpa using a2
      refine .agg (by simp[e2,al]) (λj d g=>?_) λj u d g M=>?_;simp only[IV,Yw]at g;rcases Aw j c.cells.size with n|n;rw[CW (by simpa using n)]at g;exact a0 j d (by simpa using g);rw[Cm (by simpa using n)]at g;exact a1 _ d (by simpa using g);simp only[IV,Yw]at g M;rcases Aw j c.cells.size with n|n;rw[CW (by simpa using n)]at M;rw[CW o!]at g;exact a6 j u d g (by simpa using M);rw[Cm (by simpa using n)]at M;rw[Cm o!]at g;rw[Dq,al]at M;exact a7 _ u d g (by simpa using M)
 have ax:=U T A o! λj v c k n=>(R j v c k n).1;have E:D_=(A.flatMap λc=>c.cells.toList).toArray:=by rw[<-ad]
 have hh:=Q3 ax;rw[<-E]at hh;refine⟨_,_,_,_,rfl,hk,.sl (by simp[cx]) (by simp[cx,Gh.at_]) ⟨_,_,by rw[hl]⟩ λ_=>.inr ⟨w.heap.size,len,by simp[cx,Gh.at_],o!,?_,by rw[hl]⟩,s.sim.push D_ e (0,0) _ hh,G3.push _ _ _⟩;simp only[cx,Gh.at_,if_true,E,gW,W];omega
theorem nj{t e:TypeId}{x y:Operand}{V U:IntKind}{l c:Int}{sz:Nat}{z:List AZ}(ho:o.op= .makeSlice t x y)(he:eI P t=some (none,e,sz))(ap:0<sz)(M:S9 P e=true)(hz:Z0 P e=some z)(R:z.length=sz)
  (hx:BN env x= .int V l) (hy:BN env y= .int U c) (h0:0<=l) (h1:l<=c) (h2:c<=16777216) (hk:K (.sl H.length 0 sz 0 l.toNat) (H++[.live 0 (List.replicate l.toNat z).flatten])):Jn P N o env H K:=by
 refine C6 (by rw[ho];rfl) ?_;intro X h a w s Q;obtain⟨O,b,hi⟩:=Rf he;obtain⟨i,zv,g,ad,T,S⟩:=VI M;have k:=nU hi g;obtain⟨n,d,al,ar,D_⟩:=gQ (cx X h H w) hz;have:n=i:=by grind[Option.some.inj]
 subst this;have:d=zv:=by grind[Option.some.inj]
 subst this;have W:=Di s.env x;have Y:=Di s.env y;rw[hx]at W;rw[hy]at Y;have ex:a.eval x= .int V l:=by generalize a.eval x=q at W;cases W;rfl
 have ey:a.eval y= .int U c:=by generalize a.eval y=q at Y;cases Y;rfl
 have F:(n.bytes:Int)*c<=281474976710656:=by have:(n.bytes:Int)*c<=1048576*16777216:=Int.mul_le_mul (by omega) h2 (by omega) (by omega);omega
 have Z:=run_make (P:=P) w t e n d O g T V U l c h0 h1 F (by omega);have G:(execOp a.eval o).run P w= .ok (.value (.slice (some ⟨w.heap.size,0,none⟩) l.toNat c.toNat)) (w.alloc (.cells (madeCells d.cells (c.toNat*n.size)) e)):=by unfold execOp;grind[Sem.run_bind,Result.andThen_ok,Sem.run_pure]
 unfold Oper.wp;rw[G,Oper.upon_value];have p:d.cells.size=sz:=by rw[S,k]
 have hh:Holds (cx X h H w) (List.replicate l.toNat z).flatten (madeCells d.cells (c.toNat*n.size)) (0,0):=by
  have I:(List.replicate l.toNat z).flatten.length=l.toNat*sz:=by simp[R]
  have A:l.toNat*sz<=c.toNat*n.size:=by rw[k];exact Nh _ (by omega)
  have B: ∀(m j:Nat),j<m*sz->(List.replicate m z).flatten[j]? =z[j%sz]? :=by
   intro m;induction m with
   |zero=>intro j E;omega
   |succ m ih=>
    intro j E;rw[oP,qw];rcases Aw j sz with ao|ag
    ·grind[List.getElem?_append_left,Nat.mod_eq_of_lt]
    ·grind[List.getElem?_append_right,Nat.add_mul,Nat.mod_eq_sub_mod]
  refine⟨λj=>d.cells.getD (j%sz) undef,by rw[I,size_madeCells];exact A,λ_ _=>by simp,λj v E=>?_⟩;have C:j<l.toNat*sz:=by grind[Nat.lt_or_ge,List.getElem?_eq_none]
  rw[B _ _ C]at E;have u:j%sz<d.cells.size:=by grind[Nat.mod_lt]
  have f:d.cells[j%sz]? =some (d.cells[j%sz]'u):=Oe u;have J:d.cells.getD (j%sz) undef=d.cells[j%sz]'u:=by rw[Ra,f];rfl
  have r:(madeCells d.cells (c.toNat*n.size))[j]? =some (d.cells[j%sz]'u):=by
   unfold madeCells;rw[dX,Array.getElem?_range,if_pos (DG C A)];have L:j%d.cells.size<d.cells.size:=by rw[p];rw[p]at u;exact u
   rw[Br,getElem!_pos d.cells _ L];simp only[p]
  simp only[J];cases D_ with
  |agg q1 q2 q3=>exact⟨r,q2 _ _ f,q3 _ _ _ E f⟩
 refine⟨_,_,_,_,rfl,hk,.sl (by simp[cx]) (by simp[cx,Gh.at_]) ⟨_,_,rfl⟩ λ_=>.inr ⟨w.heap.size,c.toNat,by simp[cx,Gh.at_],by omega,?_,rfl⟩,s.sim.push _ e (0,0) _ hh,G3.push _ _ _⟩;simp[cx,Gh.at_,size_madeCells,k]
end
section
variable {X:Nat->Prop}{h:Gh}{H:As}{w:World}
def Ig.loopSet(s:Ig X h H w){L:nu}{r:Loop}(g:H[N]?=D (.lp L))(f:h.io N=D n)(C:w.heap[n]?=D (.loop r))(st:LoopState)(p:Ω Code):
  Ig X h (H.set N (.lp {L with state:=st,pending:=p})) (w.putObj n (.loop {r with state:=st,pending:=p}))/\G3 h H w h (H.set N (.lp {L with state:=st,pending:=p})) (w.putObj n (.loop {r with state:=st,pending:=p})):=by
 have d:N<θ H:=by rcases Aw N (θ H)with c|c;exact c;rw[Cn c]at g;cases g
 have D_:G3 h H w h (H.set N (.lp {L with state:=st,pending:=p})) (w.putObj n (.loop {r with state:=st,pending:=p})):=by refine⟨rfl,rfl,rfl,k!,λk M hn=>?_,k!,λ_ _=>Am _,λ_ _ _=>⟨rfl,rfl⟩,λk B=>?_,λk y O=>?_⟩;refine World.putObj_heap_other λe=>?_;subst e;exact hn ⟨N,_,g,k!,f⟩;obtain⟨i,e,l,j,c⟩:=B;rcases Jm d l with⟨G,b⟩|⟨rfl,_⟩;exact .inl ⟨i,e,b,j,c⟩;exact .inl ⟨i,_,g,k!,c⟩;by_cases e:k=n;subst e;exact⟨_,World.putObj_heap_same (tj C)⟩;exact⟨y,by rw[World.putObj_heap_other e,O]⟩
 refine⟨s.of_ext D_ (λi e l j=>?_) (λi P z A k l c u x T o=>?_),D_⟩;rcases Jm d l with⟨G,b⟩|⟨rfl,rfl⟩;refine .inl ⟨b,rfl,rfl,rfl,λE a=>World.putObj_heap_other λe=>?_⟩;subst e;exact G (s.inj i N _ _ E b g j k! a f);obtain⟨K,E,S,a,q,l,c,T,o,I,J,F⟩:=s.lp i L g;rw[show(cx X h H w).io i=h.io i from rfl,f]at a;injection a with e;subst e;rw[show(cx X h H w).w.heap=w.heap from rfl,C]at q;injection q with e;injection e with e;subst e;refine .inr (.inr ⟨_,rfl,K,n,_,f,World.putObj_heap_same (tj C),rfl,rfl,T,o,I,J,λt v m=>⟨(F t v m).1,(F t v m).2.later (D_.later X)⟩⟩);rcases Jm d l with⟨Q,z⟩|⟨rfl,_⟩<;>rcases Jm d c with⟨R,A⟩|⟨rfl,_⟩;exact s.inj _ _ _ _ k z A u x T o;exact s.inj _ _ _ _ k z g u k! T o;exact s.inj _ _ _ _ k g A k! x T o;rfl
def Ig.kill(s:Ig X h H w)(a:N<θ H):Ig X h (H.set N .dead) w/\G3 h H w h (H.set N .dead) w:=by
 have n:G3 h H w h (H.set N .dead) w:=by refine⟨rfl,rfl,rfl,Am _,λk r hn=>rfl,k!,λ_ _=>Am _,λ_ _ _=>⟨rfl,rfl⟩,λk t=>?_,λk y u=>⟨y,u⟩⟩;obtain⟨i,e,d,b,j⟩:=t;rcases Jm a d with⟨q,c⟩|⟨rfl,rfl⟩;exact .inl ⟨i,e,c,b,j⟩;exact(b rfl).elim
 refine⟨s.of_ext n (λi e d b=>?_) (λi x l m k d j f g o p=>?_),n⟩;rcases Jm a d with⟨q,c⟩|⟨rfl,rfl⟩;exact .inl ⟨c,rfl,rfl,rfl,λv _=>rfl⟩;exact(b rfl).elim;rcases Jm a d with⟨z,l⟩|⟨rfl,rfl⟩;rcases Jm a j with⟨A,m⟩|⟨rfl,rfl⟩;exact s.inj _ _ _ _ k l m f g o p;exact(g rfl).elim;exact(f rfl).elim
end
def SU:Env->E Tmp->E AZ->Env
 |env,t::ts,v::vs=>SU (env.put t v) ts vs
 |env,_,_=>env
theorem oI{x}:∀(d:E Tmp)(e:E AZ)(b:E Value)env(a:Act),(∀t∈d,t<a.tmps.size)→θ b=θ e→
  (∀(j:Nat)(v:AZ)(c:Value),e[j]?=D v->b[j]?=D c->Bv x v c)->PW x env a->
  PW x (SU env d e) {a with tmps:=(d.zip b).foldl (λ(tmps:Array Value)(q:Tmp×Value)=>tmps.setIfInBounds q.1 q.2) a.tmps}
 |[],e,b,env,a,_,_,_,h=>by simpa[SU]using h
 |t::d,[],b,env,a,_,hl,_,h=>by have:b=[]:=EX q!;subst this;simpa[SU]using h
 |t::d,v::e,c::b,env,a,ht,hl,hr,h=>by
  have f:=h.put (ht t k!) (hr 0 v c rfl rfl);exact oI d e b (env.put t v) (a.put (D t) c) (λu i=>by rw[gI];exact ht u (CQ _ i)) q!
   (λj k g f l=>hr (j+1) k g q! q!) f
def mC:∀(l:E (Tmp×Value))a,(l.foldl (λ(tmps:Array Value)(q:Tmp×Value)=>tmps.setIfInBounds q.1 q.2) a).size=a.size
 |[],a=>rfl
 |q::l,a=>by rw[mw,mC l];simp
def AGJ(id:Nat)(K:AZ->As->Prop):Exit->Env->As->Prop
 |.normal,_,H=>∃L,H[id]?=D (.lp L)/\K (.bool ζ) (H.set id (.lp {L with state:=.ready,pending:=ε}))
 |.ret,_,H=>∃L,H[id]?=D (.lp L)/\K (.bool η) (H.set id (.lp {L with state:=.done,pending:=D .ret}))
 |.exit k,_,H=>∃L,H[id]?=D (.lp L)/\K (.bool η) (H.set id (.lp {L with state:=.done,pending:=D (.exit k)}))
 |_,_,_=>False
section
variable {P:Program}{N:Nat}{o:Oper}{env:Env}{H:As}{K:AZ->As->Prop}
theorem Jn.yield{c:Call}{L:nu}(ho:o.op=.call c)(T:c.callee=.value d)(hf:BN env d=.yf n)(he:H[n]?=D (.lp L))
  (hn:c.args.size=L.params.size) (a6:(L.params.toList.all λt=>decide (t<L.n))=ζ)
  (hw:J0 P L.n L.assign (SU L.env L.params.toList (c.args.toList.map (BN env))) H λe env1 H1=>e=.normal/\∃A,H1[n]?=D (.lp A)/\A.state=.ready/\J0 P L.n L.body env1 (H1.set n (.lp {A with state:=.busy})) (AGJ n K)):Jn P N o env H K:=by
 intro ro X h a w s Q;obtain⟨hg,B,r,F,hb,h1,h2,h3,h4,h5,h6,h7⟩:=s.sim.lp n L he;have F:h.io n=D B:=F;have hb:w.heap[B]?=D (.loop r):=hb;have G:=Di s.env d;rw[hf]at G;have ao:a.eval d=.func (.yield B) #[] #[]:=by generalize a.eval d=cf at G;cases G<;>grind
 have ad:(execOp a.eval o).run P w=.ok (.round B r.fn ((r.params.zip (c.args.map a.eval)).foldl (λtmps (t,a)=>tmps.setIfInBounds t a) r.tmps) r.assign r.body) w:=by unfold execOp;rw[ho];simp only[resolve,T,ao,Deferred.ofValue,Sem.run_bind,Sem.run_pure,Result.andThen_ok,invoke];rw[show(#[]++c.args.map a.eval:Array Value)=c.args.map a.eval by simp];exact run_yield hb (by rw[Array.size_map,hn,h3])
 refine⟨λ_ _=>P!,?_⟩;rw[Oper.semAt_eq _ _ _ (λc hc=>by rw[ho]at hc;cases hc),ad,Oper.uponIn_round];refine⟨(λh=>by cases h),?_⟩;let R:Ending->World->Prop:=λe M=>∃c v y S,e=.returned c/\K v S/\Bv (cx X y S M) v c/\Ig X y S M/\G3 h H w y S M;refine RoundIn.mono (R:=R) ?_ (by rintro e M ⟨c',v,y,S,rfl,k,hv,hs,hx⟩;exact⟨c',v,y,S,rfl,k,hv,hs,hx⟩);apply roundIn_of_wpIn trivial;have a4:((r.params.zip (c.args.map a.eval)).foldl (λtmps (t,a)=>tmps.setIfInBounds t a) r.tmps)=((L.params.toList.zip (c.args.toList.map a.eval)).foldl (λ(tmps:Array Value)(q:Tmp×Value)=>tmps.setIfInBounds q.1 q.2) r.tmps):=by grind[Array.toList_zip,Array.toList_map]
 rw[a4,h4,h5];have ag:St X h L.n (SU L.env L.params.toList (c.args.toList.map (BN env))) H {tmps:=(L.params.toList.zip (c.args.toList.map a.eval)).foldl (λ(tmps:Array Value)(q:Tmp×Value)=>tmps.setIfInBounds q.1 q.2) r.tmps,defers:=[]} w:=by
  refine⟨s.sim,?_,by rw[mC,h6]⟩;refine oI (x:=cx X h H w) L.params.toList (c.args.toList.map (BN env)) (c.args.toList.map a.eval) L.env {tmps:=r.tmps,defers:=[]} (λt ht=>?_) k! (λj v f hj hd=>?_) (λt v m=>⟨by rw[h6];exact(h7 t v m).1,(h7 t v m).2⟩);grind;rw[B9]at hj hd;cases hx:c.args.toList[j]? with
  |none=>grind
  |some x=>rw[hx]at hj hd;simp only[Br,Ap]at hj hd;subst hj hd;exact Di s.env x
 refine wpIn_mono (hw (D B) X h _ w ag λl e=>by injection e with e;subst e;exact⟨r,hb⟩) ?_;rintro e a1 w1 ⟨y,env1,H1,⟨rfl,A,U,a3,E⟩,s1,x1,_⟩;obtain⟨W,O,r1,g,p,I,J,q3,q4,q5,q6,q7⟩:=s1.sim.lp n A U;have g:y.io n=D O:=g;have p:w1.heap[O]?=D (.loop r1):=p;have Y:n<θ H:=by rcases Aw n (θ H)with h2|h2;exact h2;grind[u?]
 have eB:O=B:=by have:=(x1.same n Y (by rw[show y.gen n=0 from W,show h.gen n=0 from hg])).1;rw[g,F]at this;injection this
 subst eB;obtain⟨ax,al⟩:=s1.sim.loopSet U g p .busy A.pending;have ar:({r1 with state:=.busy}:Loop)={r1 with state:=.busy,pending:=A.pending}:=by rw[<-J]
 refine⟨_,run_beginRound p (by rw[I,a3]),?_⟩;rw[ar];refine wpIn_mono (E (D O) X y a1 _ ⟨ax,s1.env.later (al.later X),s1.size⟩ λl e=>by injection e with e;subst e;exact⟨_,World.putObj_heap_same (tj p)⟩) ?_;rintro e a2 w2 ⟨D_,env2,H2,q,s2,x2,_⟩
 have C:∀(b:Ω Code)u,H2[n]?=D (.lp u)→K (.bool b.isNone) (H2.set n (.lp {u with state:=if b.isNone then .ready else .done,pending:=b}))→
   ∃v M,(Instr.endRound O b).run P w2=.ok v M/\R (.returned v) M:=by
  intro b u V hk;obtain⟨ap,B2,r2,i,z,p1,p2,p3,p4,p5,p6,p7⟩:=s2.sim.lp n u V;have i:D_.io n=D B2:=i;have z:w2.heap[B2]?=D (.loop r2):=z;have Z:n<θ H1:=DG Y x1.n;have eB:B2=O:=by have:=(x2.same n (by simpa using Z) (by rw[show D_.gen n=0 from ap,show y.gen n=0 from W])).1;rw[i,g]at this;injection this
  subst eB;obtain⟨a0,a5⟩:=s2.sim.loopSet V i z (if b.isNone then .ready else .done) b;exact⟨_,_,run_endRound b z,_,_,D_,_,rfl,hk,.bool _,a0,((x1.trans al).trans x2).trans a5⟩
 cases e with
 |normal=>obtain⟨u,I,J⟩:=q;exact C ε u I J
 |ret=>obtain⟨u,I,J⟩:=q;exact C (D .ret) u I J
 |exit k=>obtain⟨u,I,J⟩:=q;exact C (D (.exit k)) u I J
 |_=>exact q.elim
end
section
variable {P:Program}{N:Nat}{env:Env}{H:As}{Q:Exit->Env->As->Prop}
def AGD(P:Program)(N:Nat)(env:Env)(id:Nat)(Q:Exit->Env->As->Prop)(H:As):Prop:=
 ∃L,H[id]?=D (.lp L)/\L.state≠.busy/\(match L.pending with
  |none=>Q .normal env (H.set id .dead)
  |some c=>J0 P N c env (H.set id .dead) Q)
def ABS{args}{R:Ending->World->Prop}(h:Calls P z args s R):CallsIn (FR Z) n P z args s R:=by
 have a:CallsIn Fence.wide n P z args s R:=callsIn_wide.2 h;cases Z with
 |none=>exact a
 |some l=>exact a
theorem ni{f:Operand}{y:Array Tmp}{assign body:Code}{first o:Ψ AZ}{G:FuncId}(env0:Env)(al:∀p∈env0,p∈env)(hf:BN env f=.fn (.func G) first o)(hE:Enters P G=ζ)
  (T:Ei P G (first++[.yf (θ H)]++o) (H++[.lp ⟨N,env0,y,assign,body,.ready,ε⟩]) λ_ C=>AGD P N env (θ H) Q C):J0 P N (.rangeFunc f y assign body) env H Q:=by
 intro r X h a w s k;have V:=Di s.env f;rw[hf]at V
 obtain⟨b,g,ao,n1,n2,ax,a0⟩:∃b g,a.eval f=.func (.func G) b g∧b.size=θ first∧g.size=θ o∧
   (∀(j:Nat)(v:AZ)(c:Value),first[j]?=D v->b[j]?=D c->Bv (cx X h H w) v c)/\(∀(j:Nat)(v:AZ)(c:Value),o[j]?=D v->g[j]?=D c->Bv (cx X h H w) v c):=by
  generalize a.eval f=cf at V;cases V<;>grind
 have main:∀i(rc:Loop)(mark:Ψ Deferred),Ig X h H i→G3 h H w h H i→rc.state=.ready→rc.pending=ε→rc.tmps=a.tmps→rc.params=y→rc.assign=assign→rc.body=body→mark.Nodup→
   (∀d∈mark,∃D_,d={target:=.collected D_,args:= #[]}/\w.heap.size<=D_/\i.heap[D_]?=D (.deferred (D [])))->
   CallsIn (FR r) (0-1) P G (b++ #[.func (.yield i.heap.size) #[] #[]]++g) (i.alloc (.loop rc))
    (rangePost (FR r) 0 P i.heap.size (λe a' Y=>∃F E C,Q e E C/\St X F N E C a' Y/\G3 h H w F C Y/\Wr a w a' Y) {a with defers:=mark++a.defers}):=by
  intro i rc mark s0 A e1 e2 e3 e4 e5 e6 ap U;have xp:=G3.push (h:=h) (H:=H) (w:=i) (.loop rc) 0 (.lp ⟨N,env0,y,assign,body,.ready,ε⟩);have sp:=s0.push_any (.loop rc) 0 (.lp ⟨N,env0,y,assign,body,.ready,ε⟩) λ_=>.inr ⟨_,rfl,by simp[cx,Gh.at_],i.heap.size,rc,by simp[cx,Gh.at_],by show(i.heap.push (.loop rc))[i.heap.size]?=_;simp,e1,e2,e4,e5,e6,by rw[e3];exact s.size,λt v m=>by obtain⟨m1,m2⟩:=s.env t v (al _ m);refine⟨by rw[<-s.size];exact m1,?_⟩;rw[e3];exact m2.later ((A.trans xp).later X)⟩;have ea:i.alloc (.loop rc)={i with heap:=i.heap.push (.loop rc)}:=rfl;rw[ea];generalize a4:({i with heap:=i.heap.push (.loop rc)}:World)=W1 at xp sp;generalize a5:h.at_ (θ H) (D i.heap.size) 0 0=g1 at xp sp;have O:g1.gen (θ H)=0/\g1.io (θ H)=D i.heap.size:=by grind[Gh.at_]
  have hl:=(A.trans xp).later X;have ar:(b++ #[Value.func (.yield i.heap.size) #[] #[]]++g).size=(first++[AZ.yf (θ H)]++o).length:=by simp[n1,n2];omega
  have R:∀(j:Nat)(v:AZ)(c:Value),(first++[AZ.yf (θ H)]++o)[j]?=D v->(b++ #[Value.func (.yield i.heap.size) #[] #[]]++g)[j]?=D c->Bv (cx X g1 (H++[.lp ⟨N,env0,y,assign,body,.ready,ε⟩]) W1) v c:=by
   intro j v c I u;rcases Aw j (θ first+1)with a3|a1;rw[CW w!]at I;rw[ZE w!]at u;rcases Aw j (θ first)with ag|a2
   rw[CW ag]at I;rw[ZE o!]at u;exact(ax j v c I u).later hl;have:j=θ first:=o!
   subst this;rw[Cm (Am _),Gw]at I;rw[uR o!,n1,Gw]at u;simp at I u;subst I u;exact .yf (by simp[cx]) rfl λ_=>⟨i.heap.size,O.2,rfl⟩
   rw[Cm w!]at I;rw[uR w!]at u;refine(a0 _ v c ?_ u).later hl;simpa[n1]using I
  have hC:=T X g1 W1 _ sp ar R;apply (ABS hC).mono;rintro e Y ⟨c,v,F,C,rfl,⟨L,hL,S,hQ⟩,sc,rv,x⟩;obtain⟨hg,B,K,z,hb,q1,q2,q3,q4,q5,q6,q7⟩:=sc.lp (θ H) L hL;have z:F.io (θ H)=D B:=z;have hb:Y.heap[B]?=D (.loop K):=hb;have eB:B=i.heap.size:=by have:=(x.same (θ H) k! (by rw[show F.gen (θ H)=0 from hg,O.1])).1;rw[z,O.2]at this;injection this
  subst eB;obtain⟨s2,x2⟩:=sc.loopSet hL z hb .exhausted K.pending;have ad:θ H<(C.set (θ H) (.lp {L with state:=.exhausted,pending:=K.pending})).length:=by have:=x.n;simp at this⊢;omega
  obtain⟨s3,x3⟩:=s2.kill ad;rw[Y8]at s3 x3;have M:=((xp.trans x).trans x2).trans x3;have st:St X F N env (C.set (θ H) .dead) {a with defers:=mark++a.defers} (Y.putObj i.heap.size (.loop {K with state:=.exhausted,pending:=K.pending})):=⟨s3,λt v m=>⟨(s.env t v m).1,(s.env t v m).2.later ((A.trans M).later X)⟩,s.size⟩
  have df:Wr a w {a with defers:=mark++a.defers} (Y.putObj i.heap.size (.loop {K with state:=.exhausted,pending:=K.pending})):=by refine⟨mark,rfl,ap,λd Z=>?_⟩;obtain⟨D_,h1,h2,h3⟩:=U d Z;exact⟨D_,h1,h2,M.defs s0 h3⟩
  refine⟨K.pending,_,run_endLoop hb (by rw[q1];exact S),?_⟩;rw[q2]at*;cases hp:L.pending with
  |none=>rw[hp]at hQ st df M;exact⟨F,env,_,hQ,st,A.trans M,df⟩
  |some cd=>rw[hp]at hQ st df M s3;apply wpIn_mono (hQ r X F _ _ st (k.later (A.trans M)));rintro e' a' a6 ⟨h2,env2,H2,q,s',x',d'⟩;exact⟨h2,env2,H2,q,s',(A.trans M).trans x',df.trans s3 (A.trans M) x' d'⟩
 have J:∀l W,(resolve a.eval (rangeCall f l) 0).run P W=.ok {target:=.fn (.func G) g,args:=b++ #[.func (.yield l) #[] #[]]} W:=by intro l W;have u:a.eval (.const (.func (.yield l) #[] #[]))=.func (.yield l) #[] #[]:=rfl;simp[resolve,ao,u,Deferred.ofValue]
 refine wpIn_rangeFunc λfn _=>?_;cases r with
 |none=>
  have A:G3 h H w h H (w.alloc (.deferred (D []))):=G3.grow rfl rfl rfl (by show _<=(w.heap.push _).size;simp) λk hk=>by show(w.heap.push _)[k]?=_;grind
  have s0:Ig X h H (w.alloc (.deferred (D []))):=s.sim.grow rfl rfl rfl (by show _<=(w.heap.push _).size;simp) λk hk=>by show(w.heap.push _)[k]?=_;rw[UV,D! o!]
  have hm:=main (w.alloc (.deferred (D []))) {state:=.ready,pending:=ε,fn,tmps:=a.tmps,params:=y,assign,body,defers:=w.heap.size} [{target:=.collected w.heap.size,args:= #[]}] s0 A rfl rfl rfl rfl rfl rfl k! λd Z=>by simp only[A7]at Z;exact⟨w.heap.size,Z,Am _,World.alloc_heap_new w _⟩
  rw[World.size_alloc]at hm;exact⟨_,_,_,_,_,_,_,_,run_enterLoop_outer fn a.tmps y assign body,J _ _,λ_ _=>P!,by simp only[invoke];exact jm hE _ _,(λh=>by cases h),hm⟩
 |some l=>
  obtain⟨x,hx⟩:=k l rfl;have hm:=main w {state:=.ready,pending:=ε,fn,tmps:=a.tmps,params:=y,assign,body,defers:=x.defers} [] s.sim (G3.refl _ _ _) rfl rfl rfl rfl rfl rfl k! λd Z=>by cases Z
  exact⟨_,_,_,_,_,_,_,_,run_enterLoop_inner hx fn a.tmps y assign body,J _ _,λ_ _=>P!,by simp only[invoke];exact jm hE _ _,(λh=>by cases h),hm⟩
end
def isQ:Op->Bool
 |.move _|.assign _|.pick .. |.load .. |.nilCheck _|.binOp .. |.unOp .. |.convert .. |.fieldAddr .. |.field .. |.indexAddr .. |.index .. |.slice .. |.extract .. |.makeFunc .. |.build .. =>ζ
 |.call c=>match c.callee with|.builtin .len=>ζ|.builtin .max=>ζ|.builtin .min=>ζ|_=>η
 |_=>η
abbrev AJ1:=FuncId->E AZ->As->Ω (AZ×As)
abbrev AJ2:=Nat->Code->Env->As->Ω (Exit×Env×As)
def yW(P:Program)(env:Env)(H:As)(op:Op):Ω AZ:=
 match op with
 |.buildSlice t len parts=>match Tt P env t len parts with|some (sz,vs)=>D (.vs sz vs)|none=>ε
 |op=>Cd P env H op
def dq(op:Op):Bool:=match op with|.buildSlice .. =>ζ|op=>isQ op
def y8(ops:Array Oper)(m:E Nat):Nat->E Nat->E Nat
 |0,_=>[]
 |n+1,left=>
  let rdy:=left.filter λi=>left.all λp=>p==i|| !QF m p i
  let qs:=rdy.filter λi=>match ops[i]? with|some o=>dq o.op|none=>η
  let last:=λi=>left.all λj=>j==i||QF m i j||IT ops j
  let es:=rdy.filter λi=>!IT ops i&&last i
  let as:=rdy.filter λi=>IT ops i&&last i
  match qs,es,as with
  |i::_,_,_=>i::y8 ops m n (left.erase i)
  |[],i::_,_=>i::y8 ops m n (left.erase i)
  |[],[],i::_=>i::y8 ops m n (left.erase i)
  |[],[],[]=>[]
def AB2(ops:Array Oper):E Nat:=y8 ops (If ops.toList []) ops.size (List.range ops.size)
section
variable {P:Program}{call:AJ1}{code:AJ2}{H H':As}{v:AZ}{F:E Nat}
theorem mA{N}(b:yW P A H o.op=D v):ai P N o A H (AB8 A o.op) v:=by
 unfold yW at b;split at b;rename_i t len a i;split at b;rename_i sz f d;injection b with e;subst e;intro c g h k;refine Wa i (sz:=sz) (vs:=f) ?_ ⟨rfl,rfl⟩;rw[<-d];have j:=ir h;unfold Tt;have:(a.toList.map λp=>BN c p.2)=a.toList.map λp=>BN A p.2:=Ng λp d=>by grind[Op.operands]
 rw[this];cases b;exact YM b
end
def mT(F:Fence)(n0:Nat)(P:Program)(c:Code)(K:Exit->Act->World->Prop)(a:Act)(w:World):Prop:=
 ∀(b:Frame)(k:E Item)(cs:E Frame),b.roundOf=F.round->F.fn b.fn->F.room (θ cs+1+n0)->
  ∃e a' w',K e a' w'/\ArrivesIn (Machine.fenced P F) P (lone (b.atR a (.code c:: .inLoop c::k)) cs w) b k cs e a' w'
section
variable {P:Program}{F:Fence}{n0:Nat}{c:Code}{K:Exit->Act->World->Prop}{a:Act}{w:World}
def AAc(h:mT F n0 P c K a w):(Code.loop c).wpIn F n0 P K a w:=by intro b k j f g hr;obtain⟨e,i,m,l,d⟩:=h b k j f g hr;exact⟨e,i,m,l,.of_steps (.one (fenced_calm g hr rfl) stepR_loop) d⟩
def dK(h:c.wpIn F n0 P (Exit.then (λt u=>mT F n0 P c K t u) K) a w):mT F n0 P c K a w:=by
 intro b k s p r hr;obtain⟨e,f,g,m,d⟩:=h b (.inLoop c::k) s p r hr;cases e with
 |normal=>obtain⟨o,n,q,j,i⟩:=m b k s p r hr;exact⟨o,n,q,j,.of_steps (StepsIn.trans d (.one (fenced_calm r hr rfl) stepR_inLoop)) i⟩
 |exit id=>exact⟨_,f,g,m,.pass (x:=.inLoop c) rfl (λ_ _=>.inl k!) d⟩
 |goto l=>exact⟨_,f,g,m,.pass (x:=.inLoop c) rfl (λ_ _=>.inl k!) d⟩
 |ret=>exact⟨_,f,g,m,.pass (x:=.inLoop c) rfl (λ_ _=>.inl k!) d⟩
 |panic v=>exact⟨_,f,g,m,.pass (x:=.inLoop c) rfl (λ_ _=>.inl k!) d⟩
 |outgrown=>exact⟨_,f,g,m,.pass (x:=.inLoop c) rfl (λ_ _=>.inl k!) d⟩
theorem Xi{f:Exit->Act->World->Prop}(h:mT F n0 P c K a w)(m:∀e a w,K e a w->f e a w):mT F n0 P c f a w:=by intro b k i d j hr;obtain⟨e,l,o,n,g⟩:=h b k i d j hr;grind
end
def Hy(P:Program)(N:Nat)(c:Code)(env:Env)(H:As)(Q:Exit->Env->As->Prop):Prop:=
 ∀r X h a w,St X h N env H a w->aj r w->
  mT (FR r) 0 P c (λe a' w'=>∃h' env' H',Q e env' H'/\St X h' N env' H' a' w'/\G3 h H w h' H' w'/\Wr a w a' w') a w
section
variable {P:Program}{N:Nat}{env:Env}{H:As}{Q:Exit->Env->As->Prop}
theorem Hy.mono{f:Exit->Env->As->Prop}(h:Hy P N c env H Q)(i:∀e b d,Q e b d->f e b d):Hy P N c env H f:=by intro r X g a w s k;apply Xi (h r X g a w s k);grind
def J0.of_loopW(h:Hy P N c env H Q):J0 P N (.loop c) env H Q:=λr X g a w s k=>AAc (h r X g a w s k)
def Hy.unroll(h:J0 P N c env H (gO (λb f=>∃env2 d,FN N (θ H) b f env2 d/\Hy P N c env2 d Q) Q)):Hy P N c env H Q:=by
 intro r X g a w s k;refine dK (wpIn_mono (h r X g a w s k) ?_);rintro e a2 t ⟨m,env2,d,q,o,v,j⟩;cases e with
 |normal=>obtain⟨l,F,n,B⟩:=q;obtain⟨z,p,A,C⟩:=n.2 X m a2 t o;have i:=FN.ext rfl n.1 A C v;apply Xi (B r X z a2 t p (k.later i));rintro e G I ⟨y,b,f,D_,E,u,x⟩;exact⟨y,b,f,D_,E,i.trans u,j.trans p.sim i u x⟩
 |_=>exact⟨m,env2,d,q,o,v,j⟩
def uC(P:Program)(N:Nat)(c:Code)(env:Env)(H:As)(Q:Exit->Env->As->Prop):Prop:=
 match c with
 |.loop x=>Hy P N x env H Q
 |c=>J0 P N c env H Q
def uC.awp(h:uC P N c env H Q):J0 P N c env H Q:=by unfold uC at h;split at h;exact .of_loopW h;exact h
def D9(hn:∀x,c≠.loop x)(h:J0 P N c env H Q):uC P N c env H Q:=by simp_all[uC]
def uC.mono{d:Exit->Env->As->Prop}(h:uC P N c env H Q)(f:∀e a b,Q e a b->d e a b):uC P N c env H d:=by
 cases c with
 |loop x=>exact Hy.mono h f
 |_=>exact J0.mono h f
def Hy.weak(f:FN N (θ H) env H A q)(h:Hy P N c A q Q):Hy P N c env H Q:=by intro r X g a w s k;obtain⟨m,t,n,o⟩:=f.2 X g a w s;apply Xi (h r X m a w t k);rintro e v x ⟨l,b,i,d,p,u,j⟩;exact⟨l,b,i,d,p,(FN.ext rfl f.1 n o (G3.refl g H w)).trans u,j⟩
def uC.weak(b:FN N (θ H) env H A q)(h:uC P N c A q Q):uC P N c env H Q:=by
 cases c with
 |loop x=>exact Hy.weak b h
 |_=>exact J0.weak b h
def J0.after(h:J0 P N c env H (λe b f=>∃env2 d,FN N (θ H) b f env2 d/\Q e env2 d)):J0 P N c env H Q:=by intro r X g a w s k;apply wpIn_mono (h r X g a w s k);rintro e j v ⟨m,b,f,⟨env2,d,i,q⟩,t,x,l⟩;obtain⟨n,u,o,p⟩:=i.2 X m j v t;exact⟨n,env2,d,q,u,FN.ext rfl i.1 o p x,l⟩
def Hy.after(h:Hy P N c env H (λe b f=>∃env2 d,FN N (θ H) b f env2 d/\Q e env2 d)):Hy P N c env H Q:=by intro r X g a w s k;apply Xi (h r X g a w s k);rintro e j v ⟨m,b,f,⟨env2,d,i,q⟩,t,x,l⟩;obtain⟨n,u,o,p⟩:=i.2 X m j v t;exact⟨n,env2,d,q,u,FN.ext rfl i.1 o p x,l⟩
def uC.after(h:uC P N c env H (λe a d=>∃env2 b,FN N (θ H) a d env2 b/\Q e env2 b)):uC P N c env H Q:=by
 cases c with
 |loop x=>exact Hy.after h
 |_=>exact J0.after h
end
def C9(v:AZ)(H:As):AZ->As->Prop:=λu H'=>u=v/\H'=H
def Vj(e:Exit)(env:Env)(H:As):Exit->Env->As->Prop:=λe1 env1 H1=>e1=e/\env1=env/\H1=H
def callT(ρ:Operand->AZ):Op->Ω (Sum (FuncId×E AZ) (Nat×E AZ))
 |.call c=>
  match c.callee with
  |.value f=>
   match ρ f with
   |.fn (.func F) first caps=>D (.inl (F,first++c.args.toList.map ρ++caps))
   |.yf id=>D (.inr (id,c.args.toList.map ρ))
   |_=>ε
  |_=>ε
 |_=>ε
def AII(H:As):E (Nat×FO)->As
 |[]=>H
 |(i,e)::r=>AII (H.set i e) r
section
variable {X:Nat->Prop}{h:Gh}{H:As}{w:World}
def Ig.regen(s:Ig X h H w){id g g':Nat}{cs}(n:H[id]?=D (FO.live g cs))(I:g≤g'):
  Ig X (h.at_ id (h.io id) g' (h.cap id)) (H.set id (.live g' cs)) w/\G3 h H w (h.at_ id (h.io id) g' (h.cap id)) (H.set id (.live g' cs)) w:=by
 obtain⟨q,p⟩:=s.live id g cs n;have l:h.gen id=g:=q;have t:id<θ H:=by rcases Aw id (θ H)with z|z;exact z;rw[Cn z]at n;cases n
 rcases p with⟨F,A⟩|⟨B,j,T,G,f,D_,N,o,E,C,c⟩;have d:h.io id=ε:=F;rcases Nat.eq_or_lt_of_le I with e|O;subst e;have x:h.at_ id (h.io id) g (h.cap id)=h:=by unfold Gh.at_;cases h;simp only[Gh.mk.injEq];refine⟨funext λi=>?_,funext λi=>?_,funext λi=>?_⟩;split<;>simp_all;split;rename_i r;subst r;exact l.symm;rfl;split<;>simp_all
 have y:H.set id (.live g cs)=H:=by apply JN;intro i;rw[Yv];split;rename_i r;subst r;exact n.symm;rfl
 rw[x,y];exact⟨s,G3.refl _ _ _⟩;subst A;obtain⟨m,rfl⟩:∃m,g'=m+1:=⟨g'-1,o!⟩
 have key:∀(v:Gh)(u:As)(k:Nat),v=h.at_ id ε (g+k) (h.cap id)->u=H.set id (.live (g+k) [])->(Ig X v u w/\G3 h H w v u w)->(Ig X (h.at_ id ε (g+(k+1)) (h.cap id)) (H.set id (.live (g+(k+1)) [])) w/\G3 h H w (h.at_ id ε (g+(k+1)) (h.cap id)) (H.set id (.live (g+(k+1)) [])) w):=by
  intro v u k x y J;subst x y;obtain⟨K,L⟩:=J.1.bump (id:=id) (g:=g+k) (cs:=[]) (by simp[t]) (by simp[Gh.at_]);have M:(h.at_ id ε (g+k) (h.cap id)).at_ id ε (g+k+1) ((h.at_ id ε (g+k) (h.cap id)).cap id)=h.at_ id ε (g+(k+1)) (h.cap id):=by unfold Gh.at_;simp only[Gh.mk.injEq];refine⟨funext λi=>?_,funext λi=>?_,funext λi=>?_⟩<;>by_cases r:i=id<;>simp[r,gZ]
  rw[M,Y8]at K L;exact⟨K,J.2.trans L⟩
 have all:∀k,Ig X (h.at_ id ε (g+(k+1)) (h.cap id)) (H.set id (.live (g+(k+1)) [])) w/\G3 h H w (h.at_ id ε (g+(k+1)) (h.cap id)) (H.set id (.live (g+(k+1)) [])) w:=by
  intro k;induction k with
  |zero=>exact s.bump n d
  |succ k P=>exact key _ _ (k+1) rfl rfl P
 have:=all (m-g);rw[show g+(m-g+1)=m+1 by omega]at this;rw[d];exact this;have b:h.io id=D B:=D_;have a:j.size=h.cap id:=o;have:=s.upd (g':=g') (B:=B) (arr:=j) (T:=T) (fz:=G) (w':=w) n I (λ_=>⟨b,a.symm⟩) (.inl b) N (λ_ _ _=>rfl) rfl rfl rfl (Am _) ⟨f,E,C,c⟩;rw[a]at this;rw[b];exact this
end
section
variable {P:Program}{N:Nat}{o:Oper}{env:Env}{H:As}{K:AZ->As->Prop}
def Bv.regen{id g g' sz off n:Nat}{c}(a:h.gen id=g)(r:Bv (cx C h q s) (.sl id g sz off n) c):
  Bv (cx C (h.at_ id (h.io id) g' (h.cap id)) (q.set id x) s) (.sl id g' sz off n) c:=by
 cases r with
 |sl b i d f=>refine .sl (by simpa[cx]using b) (by simp[cx,Gh.at_]) d λ_=>?_;have:=f a;simpa[cx,Gh.at_]using this
def Jn.regen{id g g' sz off n:Nat}{cs}{H1:As}(j:g<=g')(d:H1[id]?=D (FO.live g cs))(h:Jn P N o env H λv b=>v=.sl id g sz off n/\b=H1)(k:K (.sl id g' sz off n) (H1.set id (.live g' cs))):Jn P N o env H K:=by intro r X f a w s Q;apply XK (h r X f a w s Q);rintro t x ⟨c,v,u,b,i,⟨rfl,rfl⟩,l,e,m⟩;obtain⟨p,q⟩:=e.regen (g':=g') d j;exact⟨c,_,_,_,i,k,Bv.regen (e.live id g cs d).1 l,p,m.trans q⟩
theorem S4{sx xx:Operand}{t e:TypeId}{id g g' n sz m:Nat}{cs news:Ψ AZ}(ho:o.op=.call {callee:=.builtin .append,args:= #[sx,xx],argTypes:= #[t,t]})(he:eI P t=D (ε,e,sz))(S:0<sz)(b4:S9 P e=ζ)
  (hs:BN env sx=.sl id g sz 0 n) (Z:H[id]?=D (FO.live g cs)) (hn:θ cs=n*sz) (hx:Ka H sz (BN env xx)=D (m,news)) (bb:n+m<=16777216)
  (b8:g<g'\/(g'=g/\m=0)) (hk:K (.sl id g' sz 0 (n+m)) (H.set id (.live g' (cs++news)))):Jn P N o env H K:=by
 apply C6 (by rw[ho];rfl);intro X h a w s Q;obtain⟨a6,b,hi⟩:=Rf he;obtain⟨i,z,y,bt,hz,b6⟩:=VI b4;have u:=nU hi y;have rs:=Di s.env sx;rw[hs]at rs;have rx:=Di s.env xx;obtain⟨ao,a8⟩:=s.sim.live id g cs Z;have b0:h.gen id=g:=ao;have L:id<θ H:=by rcases Aw id (θ H)with U|U;exact U;grind[u?]
 have a5:Ka H sz (.sl id g sz 0 n)=D (n,cs):=by grind[Ka]
 unfold Oper.wp;have bz:(h.io id=ε/\n=0/\a.eval sx=.slice ε 0 0)\/∃B cap,h.io id=D B/\n<=cap/\cap*sz<=h.cap id/\a.eval sx=.slice (D ⟨B,0,ε⟩) n cap:=by
  generalize a.eval sx=c at rs;cases rs with
  |sl p q r hc=>rcases hc ao with⟨h1,U,_,h3⟩|⟨B,cap,h1,U,h3,h4⟩;exact .inl ⟨h1,U,h3⟩;exact .inr ⟨B,cap,h1,U,by simpa[cx]using h3,h4⟩
 have al:∀l cap,a.eval sx=.slice l n cap→cap<n+m→0<m→
   Oper.upon P o a (λa' V=>∃c v h' H',a'=a.put o.dst c/\K v H'/\Bv (cx X h' H' V) v c/\Ig X h' H' V/\G3 h H w h' H' V) Q ((execOp a.eval o).run P w):=by
  intro l cap A a1 b2;have sd:=s.sim.drew;obtain⟨ax,ag,G,a7,O,d,D_,_,J⟩:=PU (P:=P) sd (rx.later (G3.drew.later X)) S hx;obtain⟨_,_,_,_,_,_,_,a2,_⟩:=PU (P:=P) s.sim rx S hx;obtain⟨_,_,os,_,_,R,a4,_,bN⟩:=PU (P:=P) sd (rs.later (G3.drew.later X)) S a5;obtain⟨C,hC,E⟩:=sQ (ty:=o.type) (base:=l) (n:=n) (cap:=cap) (os:=os) a6 y hz bt a2 (by rw[u,<-A];exact bN) (by rw[u];exact J) a1 bb;rw[R2 ho (by rw[A];exact E),Oper.upon_value];have hh:Holds (cx X h H w.drew) (cs++news) (os.toArray++G.toArray++Builtin.zeroCells z.cells (C-(n+m))) (0,0):=xO R d a4 D_;obtain⟨q1,q2⟩:=sd.upd (g':=g') (B:=w.heap.size) (T:=e) (fz:=(0,0)) (w':={w.drew with heap:=w.drew.heap.push (.cells (os.toArray++G.toArray++Builtin.zeroCells z.cells (C-(n+m))) e)}) Z o! (λbl=>o!)
   (.inr (Am _)) (by show(w.heap.push _)[w.heap.size]?=_;simp) (λk hk bl=>by show(w.heap.push _)[k]?=w.heap[k]?;rw[UV,D! bl]) rfl rfl rfl (by show w.heap.size<=(w.heap.push _).size;simp) hh
  refine⟨_,_,_,_,rfl,hk,.sl (by simpa[cx]using L) (by simp[cx,Gh.at_]) ⟨_,_,rfl⟩ λ_=>.inr ⟨w.heap.size,C,by simp[cx,Gh.at_],hC,?_,rfl⟩,q1,G3.drew.trans q2⟩;have e1:θ G=m*sz:=by rw[d.1,O]
  have e2:θ os=n*sz:=by rw[R.1,hn]
  simp only[cx,Gh.at_,if_true,Array.size_append,gW,Z1,b6,u,e1,e2];have:(C-(n+m))*sz+(n*sz+m*sz)=C*sz:=by rw[<-ED,<-ED];congr 1;omega
  omega
 rcases bz with⟨F,rfl,A⟩|⟨B,cap,F,b7,I,A⟩;rcases Wv m with hm|hm;subst hm;obtain⟨ax,ag,G,a7,O,d,D_,M,J⟩:=PU (P:=P) s.sim rx S hx;have a3:news=[]:=EX o!;subst a3;have bG:cs=[]:=EX o!;subst bG;have b5:G=[]:=EX d.1;subst b5;have E:=oW (ty:=o.type) (base:=ε) (n:=0) (cap:=0) (w':=w) a6 y M (by rw[u];exact J) o! rfl;rw[R2 ho (by rw[A];exact E),Oper.upon_value];obtain⟨q1,q2⟩:=s.sim.regen (g':=g') Z o!;rw[F]at q1 q2;rw[D1]at hk;exact⟨_,_,_,_,rfl,hk,.sl (by simpa[cx]using L) (by simp[cx,Gh.at_]) ⟨_,_,rfl⟩ λ_=>.inl ⟨by simp[cx,Gh.at_],rfl,rfl,rfl⟩,q1,q2⟩;exact al ε 0 A o! hm;rcases Aw cap (n+m)with b1|a0;exact al _ cap A b1 o!;obtain⟨ax,ag,G,a7,O,d,D_,M,J⟩:=PU (P:=P) s.sim rx S hx;rcases a8 with⟨bm,_⟩|⟨B',W,T,fz,f,ap,hb,ar,b',a9,Y⟩;rw[show(cx X h H w).io id=h.io id from rfl,F]at bm;cases bm;rw[show(cx X h H w).io id=h.io id from rfl,F]at ap;injection ap with e0;subst e0;have x:W.size=h.cap id:=ar;have e1:θ G=m*sz:=by rw[d.1,O]
 have b3:n*sz+m*sz<=W.size:=by rw[<-ED,x];exact Cs (Nh _ a0) I
 obtain⟨V,ad,p1,p2,p3,p4,p5,p6,p7,p8,p9⟩:=WF (P:=P) (off:=n*sz) G 0 W w hb o! a9 D_;have E:=oW (ty:=o.type) (base:=D ⟨B,0,ε⟩) (n:=n) (cap:=cap) (w':=V) a6 y M (by rw[u];exact J) a0 (by rw[u];simp only[Pd,DQ];exact p1);rw[R2 ho (by rw[A];exact E),Oper.upon_value];have hh:Holds (cx X h H w) (cs++news) ad fz:=by
  refine⟨λj=>if n*sz<=j/\j<n*sz+m*sz then G.getD (j-n*sz) undef else f j,by simp[hn,O];omega,by rw[p3];exact a9,λj v hj=>?_⟩;rw[p4];simp only[Lc,e1];rcases Aw j (θ cs)with U|U;rw[CW U]at hj;rw[D! o!,D! o!];exact Y j v hj;rw[Cm U]at hj;have b9:j-θ cs<θ news:=by rcases Aw (j-θ cs) (θ news)with h3|h3;exact h3;rw[Cn h3]at hj;cases hj
  rw[C! o!,C! o!];have hg:G[j-n*sz]?=D (G[j-n*sz]' o!):=Ar o!;have eg:G.getD (j-n*sz) undef=G[j-n*sz]' o!:=by rw[R7,hg];rfl
  rw[eg];refine⟨hg,D_ _ (Of _),d.2 _ v _ hj ?_⟩;rw[hn];exact hg
 obtain⟨q1,q2⟩:=s.sim.upd (g':=g') (B:=B) (arr:=ad) (T:=T) (fz:=fz) (w':=V) Z o! (λ_=>⟨F,by rw[p3,x]⟩) (.inl F) p2 (λk _ hk=>p5 k hk) p6 p7 p8 (by rw[p9];exact Am _) hh;refine⟨_,_,_,_,rfl,hk,.sl (by simpa[cx]using L) (by simp[cx,Gh.at_]) ⟨_,_,rfl⟩ λ_=>.inr ⟨B,cap,by simp[cx,Gh.at_],a0,?_,rfl⟩,q1,q2⟩;simp only[cx,Gh.at_,if_true,p3,DQ,x];exact I
theorem fK{m:Nat}(j:o.op=.call {callee:=.builtin .append,args:= #[d,T],argTypes:= #[b,b]})(i:eI P b=D (ε,I,n))(f:0<n)(c:S9 P I=ζ)
  (k:BN env d=.nils) (l:Ka H n (BN env T)=D (m,g)) (h:m<=16777216) (e:K (.sl (θ H) m n 0 m) (H++[.live m g])):Jn P N o env H K:=by
 apply Jn.regen (id:=θ H) (g:=0) (g':=m) (cs:=g) (Bh _) k! (Jn.append_nil j i f c k l h ⟨rfl,rfl⟩);grind
theorem Un{t:TypeId}{len sz:Nat}{vs:E AZ}(b:o.op=.buildSlice t len u)(c:Tt P env t len u=D (sz,vs))
  (d:K (.sl (θ H) (θ vs) sz 0 (θ vs)) (H++[.live (θ vs) (vs.flatMap AZ.cells)])):Jn P N o env H K:=by
 apply Jn.regen (id:=θ H) (g:=0) (g':=θ vs) (cs:=vs.flatMap AZ.cells) (Bh _) k! (fL b c ⟨rfl,rfl⟩);grind
theorem Jn.makeSlice{r:IntKind}{c:Int}(k:o.op=.makeSlice b d T)(j:eI P b=D (ε,I,n))(e:0<n)(a:S9 P I=ζ)(q:Z0 P I=D g)(t:θ g=n)
  (m:BN env d=.int B i) (p:BN env T=.int r c) (f:0<=i) (h:i<=c) (x:c<=16777216) (u:K (.sl (θ H) i.toNat n 0 i.toNat) (H++[.live i.toNat (ς i.toNat g).flatten])):Jn P N o env H K:=by
 refine Jn.regen (id:=θ H) (g:=0) (g':=i.toNat) (cs:=(ς i.toNat g).flatten) (H1:=H++[.live 0 (ς i.toNat g).flatten]) (sz:=n) (off:=0) (n:=i.toNat) (Bh _) k! (nj k j e a q t m p f h x ⟨rfl,rfl⟩) q!
end
section
variable {P:Program}{N:Nat}{o:Oper}{env:Env}{H:As}{K:AZ->As->Prop}
def nv(s:E UInt8):E AZ:=s.map λb=>.int .u8 (b.toNat:Int)
theorem pq{e:TypeId}(q:o.op=.convert b I d)(F:P.underlying b=D r)(y:P.underlying I=D (.slice e))(z:P.underlying e=D (.int .u8))
  (J:BN env d=.str L) (E:K (.sl (θ H) 0 1 0 (θ L)) (H++[.live 0 (nv L)])):Jn P N o env H K:=by
 apply C6 (by rw[q];rfl);intro X h a w st Q;have n:=Di st.env d;rw[J]at n;generalize s:a.eval d=c at n;cases n with
 |str t G=>
  have l:t.size=θ L:=by rw[<-G];rfl
  have k:(execOp a.eval o).run P w=.ok (.value (.slice (D ⟨w.heap.size,0,ε⟩) t.size (grownCap w t.size 0 e))) (Lib.bytesWorld w e t):=by have:=Lib.run_convert_string_bytes w b I e t F y z;unfold execOp;rw[q];simp[resolve,s,this]
  unfold Oper.wp;rw[k,Oper.upon_value];have B:=grownCap_ge w t.size 0 e;have m:(Lib.bytesCells w e t).size=grownCap w t.size 0 e:=by grind[Lib.bytesCells,Array.size_append,Array.size_map,Array.size_replicate]
  have u:=st.sim.drew;have x:Lib.bytesWorld w e t={w.drew with heap:=w.drew.heap.push (.cells (Lib.bytesCells w e t) e ((Lib.bytesCells w e t).size,(Lib.bytesCells w e t).size+1))}:=by unfold Lib.bytesWorld World.freeze World.alloc;rw[D! g!];show World.mk _ _ _ _ _=World.mk _ _ _ _ _;congr 1;apply Array.ext_getElem?;intro j;have m:w.drew.heap.size=w.heap.size:=rfl;grind
  rw[x];have C:Holds (cx X h H w.drew) (nv L) (Lib.bytesCells w e t) ((Lib.bytesCells w e t).size,(Lib.bytesCells w e t).size+1):=by
   refine⟨λj=>.int .u8 ((L.getD j 0).toNat:Int),by simp[nv];omega,λi M=>?_,λj v g=>?_⟩;grind;unfold nv at g;rw[B9]at g;cases p:L[j]? with
   |none=>grind
   |some f=>
    rw[p]at g;simp only[Br,Ap]at g;subst g;have D_:j<θ L:=by grind[Nat.lt_or_ge,u?]
    have A:L.getD j 0=f:=by rw[R7,p];rfl
    refine⟨?_,rfl,?_⟩;grind[Lib.bytesCells,Array.getElem?_append_left];simp only[A];exact .int _ _
  refine⟨_,_,_,_,rfl,E,.sl (by simp[cx]) (by simp[cx,Gh.at_]) ⟨_,_,by rw[l]⟩ λ_=>.inr ⟨w.heap.size,grownCap w t.size 0 e,?_,o!,?_,by rw[l]⟩,u.push _ e _ (nv L) C,G3.drew.trans (G3.push _ _ _)⟩;have:w.drew.heap.size=w.heap.size:=rfl;simp[cx,Gh.at_,this];simp only[cx,Gh.at_,if_true];omega
theorem rS{e:TypeId}(f:o.op=.convert b I d)(h:P.underlying b=D r)(c:P.underlying I=D (.slice e))(a:P.underlying e=D (.int .u8))
  (i:BN env d=.str L) (j:K (.sl (θ H) (θ L) 1 0 (θ L)) (H++[.live (θ L) (nv L)])):Jn P N o env H K:=by
 refine Jn.regen (id:=θ H) (g:=0) (g':=θ L) (cs:=nv L) (H1:=H++[.live 0 (nv L)]) (sz:=1) (off:=0) (n:=θ L) (Bh _) k! (pq f h c a i ⟨rfl,rfl⟩) q!
end
def FN.virtC{N}{env}{b A i sz:Nat}(Q:q[b]?=D (FO.live A g))(hi:g[i]?=D .nils):
  FN N (θ q) env q env (q.set b (.live A (g.set i (.sl (θ q) 0 sz 0 0)))++[.live 0 []]):=by
 have J:b<θ q:=by rcases Aw b (θ q)with P|P;exact P;rw[Cn P]at Q;cases Q
 refine⟨k!,λX h a w s=>⟨h.at_ (θ q) ε 0 0,?_,λid ao=>by simp[Gh.at_,Bj ao],?_⟩⟩;have O:=s.sim.virt;have hx:=G3.virt (h:=h) (H:=q) (w:=w);have W:=hx.later X
 have key:∀(j:Nat)(e:FO),(q.set b (.live A (g.set i (.sl (θ q) 0 sz 0 0)))++[FO.live 0 []])[j]?=D e→
   (j≠b/\(q++[FO.live 0 []])[j]?=D e)\/(j=b/\e=.live A (g.set i (.sl (θ q) 0 sz 0 0))):=by
  intro j e p;rcases Aw j (θ q)with y|y;rw[CW (by simpa using y),Yv]at p;split at p;rename_i G;subst G;injection p with p;exact .inr ⟨rfl,p.symm⟩;rename_i G;exact .inl ⟨λe=>G e.symm,by rw[CW y];exact p⟩;refine .inl ⟨o!,?_⟩;rw[Cm (by simpa using y)]at p;rw[Cm y];simpa using p
 have E:∀B,owned (h.at_ (θ q) ε 0 0) (q.set b (.live A (g.set i (.sl (θ q) 0 sz 0 0)))++[.live 0 []]) B->owned (h.at_ (θ q) ε 0 0) (q++[.live 0 []]) B:=by rintro B ⟨j,e,p,z,o⟩;rcases key j e p with⟨_,H⟩|⟨rfl,rfl⟩;exact⟨j,e,H,z,o⟩;exact⟨j,_,by rw[CW J];exact Q,k!,o⟩
 have C:(cx X (h.at_ (θ q) ε 0 0) (q++[.live 0 []]) w).Later (cx X (h.at_ (θ q) ε 0 0) (q.set b (.live A (g.set i (.sl (θ q) 0 sz 0 0)))++[.live 0 []]) w):={size:=Am _,keep:=λ_ _ _ _=>rfl,own:=λB _ ho=>ho.imp _root_.id (E B),n:=by simp[cx],gen:=λ_ _=>Am _,same:=λ_ _ _=>⟨rfl,rfl⟩}
 refine⟨⟨λB Y=>⟨(O.out B Y).1,λho=>(O.out B Y).2 (E B ho)⟩,λj g0 ad p=>?_,λj L p=>?_,λj k e e' B H P ar ax h3 h4=>?_,O.bldKeep λj e p Y=>?_⟩,λt v m=>?_,s.size⟩;rcases key j _ p with⟨_,H⟩|⟨rfl,H⟩;obtain⟨U,hh⟩:=O.live j g0 ad H;refine⟨U,?_⟩;rcases hh with⟨o,h0⟩|⟨B,F,T,fz,f,o,I,x,M,K,l⟩;exact .inl ⟨o,h0⟩;exact .inr ⟨B,F,T,fz,f,o,I,x,M,K,λk v u=>⟨(l k v u).1,(l k v u).2.1,(l k v u).2.2.later C⟩⟩;injection H with h5 h6;subst h5 h6;obtain⟨U,hh⟩:=O.live j g0 g (by rw[CW J];exact Q);refine⟨U,?_⟩;rcases hh with⟨o,h0⟩|⟨B,F,T,fz,f,o,I,x,M,K,l⟩;subst h0;simp at hi;refine .inr ⟨B,F,T,fz,f,o,I,x,by simpa using M,K,λk v u=>?_⟩;rw[Yv]at u;split at u;rename_i ap;subst ap;split at u;injection u with u;subst u;obtain⟨p1,Z,p3⟩:=l i _ hi;refine⟨p1,Z,?_⟩;generalize f i=c at p3 Z;cases p3;exact .sl (by simp[cx]) (by simp[cx,Gh.at_]) ⟨_,_,rfl⟩ λ_=>.inl ⟨by simp[cx,Gh.at_],rfl,rfl,rfl⟩;cases u;obtain⟨p1,Z,p3⟩:=l k v u;exact⟨p1,Z,p3.later C⟩;rcases key j _ p with⟨_,H⟩|⟨rfl,H⟩;obtain⟨U,B,r,q1,q2,q3,q4,q5,q6,q7,q8,q9⟩:=O.lp j L H;exact⟨U,B,r,q1,q2,q3,q4,q5,q6,q7,q8,λt v m=>⟨(q9 t v m).1,(q9 t v m).2.later C⟩⟩;cases H;have back:∀{j:Nat}{e:FO},(q.set b (.live A (g.set i (.sl (θ q) 0 sz 0 0)))++[FO.live 0 []])[j]?=D e->e≠.dead->∃e0,(q++[FO.live 0 []])[j]?=D e0/\e0≠.dead:=by intro j e p z;rcases key j _ p with⟨_,H⟩|⟨rfl,H⟩;exact⟨e,H,z⟩;exact⟨_,by rw[CW J];exact Q,k!⟩
 obtain⟨d,ag,al⟩:=back H ar;obtain⟨d',R,S⟩:=back P ax;exact O.inj j k _ _ B ag R al S h3 h4;rcases key j _ p with⟨_,H⟩|⟨rfl,H⟩;exact⟨H,rfl,rfl,rfl,λ_ _ _ _ _=>rfl⟩;subst H;cases Y;exact⟨(s.env t v m).1,((s.env t v m).2.later W).later C⟩;rintro B ⟨j,e,p,z,o⟩;rcases Aw j (θ q)with y|y;have D_:h.io j=D B:=by simpa[Gh.at_,Bj y]using o
 by_cases V:j=b;subst V;exact⟨j,_,Q,k!,D_⟩;rw[CW (by simpa using y),DT (V ·.symm)]at p;exact⟨j,e,p,z,D_⟩;rw[Cm (by simpa using y)]at p;have:j=θ q:=by rcases Nat.eq_or_lt_of_le y with e|P;exact e.symm;rw[Cn w!]at p;cases p
 subst this;simp[Gh.at_]at o
def Bv.nil_vs(a:0<N)(r:Bv y .nils K):Bv y (.vs N []) K:=by cases r;exact Bv.vs (rows:=[]) (cap:=0) (λ_ _=>undef) (Am _) a (λ_ _ h=>by simp at h) (λh=>(h rfl).elim) λ_ _ _ _ h=>by simp at h
def FN.subset{N}{env2:Env}{H:As}(h:∀q∈env2,q∈A):FN N (θ H) A H env2 H:=⟨Am _,λ_ g _ _ s=>⟨g,⟨s.sim,λt v m=>s.env t v (h _ m),s.size⟩,λ_ _=>⟨rfl,rfl,rfl⟩,λ_ h=>h⟩⟩
section
variable {P:Program}
theorem ADe{b:Operand→AZ}{d}(h:callT b d=D (.inl (z,g))):
  ∃c f first a,d=.call c/\c.callee=.value f/\b f=.fn (.func z) first a/\g=first++c.args.toList.map b++a:=by
 unfold callT at h;grind
section
variable {N:Nat}{o:Oper}{env:Env}{H H':As}{v:AZ}
def mV{F:FuncId}{vs:E AZ}(h:callT (BN env) o.op=D (.inl (F,vs)))(d:Enters P F=ζ)(e:Ei P F vs H (C9 v H')):Jn P N o env H (C9 v H'):=by obtain⟨c,f,first,b,i,a,g,rfl⟩:=ADe h;exact rR i a g d e
end
end
mutual
theorem R1{p q:Nat->Bool}(h:∀id,p id=ζ->q id=ζ):∀v:AZ,v.idsAll p=ζ->v.idsAll q=ζ
 |.ptr id g off,k=>h id k
 |.sl id g sz off len,k=>h id k
 |.yf id,k=>h id k
 |.mp id,k=>h id k
 |.itp id m,k=>by simp only[AZ.idsAll,BS]at k⊢;exact⟨h id k.1,h m k.2⟩
 |.vptr cs,k=>Jl h cs k
 |.vs sz rows,k=>Jl h rows k
 |.fn f a b,k=>by simp only[AZ.idsAll,BS]at k⊢;exact⟨Jl h a k.1,Jl h b k.2⟩
 |.agg cs,k=>Jl h cs k
 |.tup cs,k=>Jl h cs k
 |.bool _,_=>rfl
 |.int _ _,_=>rfl
 |.str _,_=>rfl
 |.nilp,_=>rfl
 |.nils,_=>rfl
 |.nilf,_=>rfl
 |.any,_=>rfl
theorem Jl{p q:Nat->Bool}(h:∀id,p id=ζ->q id=ζ):∀l:E AZ,AZ.idsAllL p l=ζ->AZ.idsAllL q l=ζ
 |[],_=>rfl
 |v::r,k=>by simp only[AZ.idsAllL,BS]at k⊢;exact⟨R1 h v k.1,Jl h r k.2⟩
end
mutual
theorem AGE(c d:Nat->Nat):∀v:AZ,(v.ren c).ren d=v.ren λid=>d (c id)
 |.ptr id g i=>rfl
 |.sl id g sz i len=>rfl
 |.yf id=>rfl
 |.mp id=>rfl
 |.itp _ _=>rfl
 |.vptr e=>by simp only[AZ.ren,VH c d e]
 |.vs sz h=>by simp only[AZ.ren,VH c d h]
 |.fn f a b=>by simp only[AZ.ren,VH c d a,VH c d b]
 |.agg e=>by simp only[AZ.ren,VH c d e]
 |.tup e=>by simp only[AZ.ren,VH c d e]
 |.bool _=>rfl
 |.int _ _=>rfl
 |.str _=>rfl
 |.nilp=>rfl
 |.nils=>rfl
 |.nilf=>rfl
 |.any=>rfl
theorem VH(a b:Nat->Nat):∀l:E AZ,AZ.renL b (AZ.renL a l)=AZ.renL (λid=>b (a id)) l
 |[]=>rfl
 |v::r=>by simp only[AZ.renL,AGE a b v,VH a b r]
end
mutual
theorem ABc{p q:Nat->Bool}{c:Nat->Nat}(h:∀id,p id=ζ->q (c id)=ζ):∀v:AZ,v.idsAll p=ζ->(v.ren c).idsAll q=ζ
 |.ptr id g off,k=>h id k
 |.sl id g sz off len,k=>h id k
 |.yf id,k=>h id k
 |.mp id,k=>h id k
 |.itp id m,k=>by simp only[AZ.ren,AZ.idsAll,BS]at k⊢;exact⟨h id k.1,h m k.2⟩
 |.vptr cs,k=>PS h cs k
 |.vs sz rows,k=>PS h rows k
 |.fn f a b,k=>by simp only[AZ.ren,AZ.idsAll,BS]at k⊢;exact⟨PS h a k.1,PS h b k.2⟩
 |.agg cs,k=>PS h cs k
 |.tup cs,k=>PS h cs k
 |.bool _,_=>rfl
 |.int _ _,_=>rfl
 |.str _,_=>rfl
 |.nilp,_=>rfl
 |.nils,_=>rfl
 |.nilf,_=>rfl
 |.any,_=>rfl
theorem PS{p q:Nat->Bool}{a:Nat->Nat}(h:∀id,p id=ζ->q (a id)=ζ):∀l:E AZ,AZ.idsAllL p l=ζ->AZ.idsAllL q (AZ.renL a l)=ζ
 |[],_=>rfl
 |v::r,k=>by simp only[AZ.renL,AZ.idsAllL,BS]at k⊢;exact⟨ABc h v k.1,PS h r k.2⟩
end
def Pure(v:AZ):Prop:=v.idsAll (λ_=>η)=ζ
def uM(e:FO):Prop:=match e with|.live _ cs=>AZ.idsAllL (λ_=>η) cs=ζ|_=>False
def Pure.all(h:Pure v)(p:Nat->Bool):v.idsAll p=ζ:=R1 (λ_ e=>by cases e) v h
def Pure.ren{v}(h:Pure v)(ρ:Nat->Nat):v.ren ρ=v:=ACD (p:=λ_=>η) (λ_ e=>by cases e) v h
def uM.all(h:uM x)(p:Nat->Bool):x.idsAll p=ζ:=by
 cases x with
 |live g a=>exact Jl (λ_ x=>by cases x) a h
 |_=>cases h
def uM.ren(h:uM x)(ρ:Nat->Nat):x.ren ρ=x:=by
 cases x with
 |live g a=>simp only[FO.ren];rw[Yp (p:=λ_=>η) (λ_ x=>by cases x) a h]
 |_=>cases h
theorem Ei.sub{P:Program}(bs:Ψ Nat){Qc:AZ→As→Prop}(a:bs.Nodup)(K:∀b∈bs,b<θ q)
  (t:∀b∈bs,((q.getD b .dead).idsAll λid=>decide (id∈bs))=ζ) (k:AZ.idsAllL (λid=>decide (id∈bs)) g=ζ)
  (y:Ei P z (AZ.renL (bs.idxOf ·) g) (ae q bs) Qc) (A:∀v i,Qc v i->W (v.ren (UB q bs)) (WC q bs i)):Ei P z g q W:=by
 intro X h w c s o f;refine(y (Xs X h q bs) (Xr h bs) w c (s.sub a t) (by simpa[PM]using o) ?_).mono ?_;intro j v d l H;rw[PM,B9]at l;cases r:g[j]? with
 |none=>grind
 |some u=>rw[r]at l;simp at l;subst l;exact Bv.ren (p:=λid=>decide (id∈bs)) (zI ·) rfl AGY (f j u d r H) (Nd k r)
 rintro e E ⟨d,v,m,i,rfl,F,D_,C,x⟩;have B:θ bs<=θ i:=by have:=x.n;simpa[ae]using this
 exact⟨d,_,OM h q bs m,WC q bs i,rfl,A v i F,s.back a K x D_,Bv.back a K B C,G3.back a K x⟩
theorem tL{f:Nat->Nat}:∀bs(H a:As),(∀e∈a,uM e)->dO f H bs a=AII H (bs.zip a)
 |[],H,a,_=>by cases a<;>rfl
 |b::bs,H,[],_=>rfl
 |b::bs,H,e::es,h=>by simp only[dO,List.zip_cons_cons,AII];rw[(h e k!).ren,tL bs _ es λc d=>h c (by simp[d])]
theorem Vk{d c H:As}(bs:E Nat)(y:Ei P z g d (C9 v c))(l:bs.Nodup)(w:θ d=θ bs)(x:θ c=θ bs)
  (m:∀(j b:Nat)(e:FO),bs[j]?=D b->d[j]?=D e->H[b]?=D e) (o:∀e∈d,uM e) (A:∀e∈c,uM e) (s:Pure v)
  (q:AZ.renL (bs.getD · 0) g=U) (F:AZ.idsAllL (λj=>decide (j<θ bs)) g=ζ):Ei P z U H (C9 v (AII H (bs.zip c))):=by
 have get:∀b∈bs,∃(j:Nat)(e:FO),bs[j]?=D b/\d[j]?=D e/\H[b]?=D e:=by
  intro b i;obtain⟨j,n,e⟩:=Ws.1 i;have h:bs[j]?=D b:=q!
  have f:d[j]?=D (d[j]' o!):=Ar o!;exact⟨j,_,h,f,m j b _ h f⟩
 have k:∀b∈bs,b<θ H:=q!
 have a:ae H bs=d:=by
  apply JN;intro j;unfold ae;rw[B9];cases n:bs[j]? with
  |none=>grind[List.getElem?_eq_none_iff,u?]
  |some b=>
   have r:j<θ bs:=by grind[Nat.lt_or_ge,u?]
   have f:d[j]?=D (d[j]' o!):=Ar o!;have p:=m j b _ n f;rw[f,Br,R7,p,oS,(o _ (Of _)).ren]
 refine Ei.sub bs (Qc:=C9 v c) l k (λb i=>?_) ?_ ?_ ?_;obtain⟨j,e,_,h,f⟩:=get b i;rw[R7,f,oS];exact(o e (BQ h)).all _;grind[PS,m?,List.getElem_mem];rw[a,<-q,VH];grind[AZ.renL,Yp,rj,m?];rintro u t ⟨rfl,rfl⟩;refine⟨s.ren _,?_⟩;grind[WC,tL,List.drop_eq_nil_of_le]
structure TC(α:Type)where
 sz:Nat
 f:α->AZ
 pos:0<sz
 len:∀x,(f x).cells.length=sz
 pure:∀x,Pure (f x)
def TC.cl(e:TC R)(l:E R):E AZ:=(l.map e.f).flatMap AZ.cells
theorem TC.clen{a:Type}(e:TC a):∀l:E a,(e.cl l).length=θ l*e.sz
 |[]=>by simp[TC.cl]
 |x::l=>by have:=TC.clen e l;simp only[TC.cl,Bz,IV,Ae,e.len]at this⊢;grind
def yX(k:IntKind):TC Int:=⟨1,.int k,g!,λ_=>rfl,λ_=>rfl⟩
abbrev Bc:=E UInt8
def ix{α:Type}(l:List α)(i:Int):Option α:=if 0<=i then l[i.toNat]? else ε
def app{α:Type}(l xs:E α):Ω (E α):=if θ l+θ xs<=16777216 then D (l++xs)else ε
theorem ALO{f:R->AZ}{l}{x:R}(h:ix l i=D x):0<=i/\(l.map f)[i.toNat]?=D (f x):=by unfold ix at h;grind
theorem pG{l a r:E R}(h:app l a=D r):θ l+θ a<=16777216/\r=l++a:=by grind[app]
def AFt(e:TC R)(l:E R):ACa e.sz (e.cl l) (l.map e.f):=⟨e.pos,λv b=>by obtain⟨x,_,rfl⟩:=Bo.1 b;exact e.len x,rfl⟩
inductive Step(S R:Type)where
 |next (s:S)
 |done (r:R)
def gC{S R:Type}(body:S->Ω (Step S R)):Nat->S->Ω R
 |0,_=>ε
 |n+1,s=>
  match body s with
  |some (.next s')=>gC body n s'
  |some (.done r)=>D r
  |none=>ε
theorem ABk{body:Y->Ω (Step Y R)}{s:Y}{r:R}(h:gC body n s=D r):gC body (n+1) s=D r:=by induction n generalizing s<;>grind[gC]
theorem AFg{body:Y->Ω (Step Y R)}{s:Y}{r:R}(h:gC body n s=D r)(a:n<=N):gC body N s=D r:=by induction a<;>grind[ABk]
open Classical in
noncomputable def Ad{S R:Type}(body:S->Ω (Step S R))(s:S):Ω R:=if h:∃r n,gC body n s=D r then D h.choose else ε
theorem nM{body:Y->Ω (Step Y R)}{s:Y}{r:R}:Ad body s=D r↔∃n,gC body n s=D r:=by
 unfold Ad;constructor;intro h;split at h<;>grind;rintro⟨n,hn⟩;have a:∃r n,gC body n s=D r:=⟨r,n,hn⟩
 grind[AFg]
theorem Eh(body:Y→Ω (Step Y R))(s:Y):Ad body s=match body s with
  |some (.next b)=>Ad body b
  |some (.done r)=>D r
  |none=>ε:=by
 apply Option.ext;intro r;rw[nM];constructor
 ·rintro⟨n,h⟩;cases n with
  |zero=>cases h
  |succ n=>
   rw[gC]at h;cases a:body s with
   |none=>rw[a]at h;cases h
   |some q=>
    rw[a]at h;cases q with
    |next b=>exact nM.2 ⟨n,h⟩
    |done r=>exact h
 ·intro h;cases a:body s with
  |none=>rw[a]at h;cases h
  |some q=>
   rw[a]at h;cases q with
   |next b=>obtain⟨n,hn⟩:=nM.1 h;exact⟨n+1,by rw[gC,a];exact hn⟩
   |done c=>exact⟨1,by rw[gC,a];exact h⟩
def ADy{body:Y->Ω (Step Y R)}(C:Y->R->Prop)(c:∀s b r,body s=D (.next b)->C b r->C s r)(d:∀s r,body s=D (.done r)->C s r){s:Y}{r:R}(h:Ad body s=D r):C s r:=by
 obtain⟨n,hn⟩:=nM.1 h;clear h;induction n generalizing s with
 |zero=>cases hn
 |succ n e=>
  rw[gC]at hn;cases a:body s with
  |none=>rw[a]at hn;cases hn
  |some q=>
   rw[a]at hn;cases q with
   |next b=>exact c s b r a (e hn)
   |done f=>injection hn with hn;subst hn;exact d s f a
theorem bnd{x:Ω R}{k:R->Ω Y}{r:Y}(h:x.bind k=D r):∃a,x=D a/\k a=D r:=by cases x<;>grind
abbrev F5(n:Nat)(α:Type):=Fin n->α
def F5.all{n}{α:Type}(x:α):F5 n α:=λ_=>x
def gf(n:Nat)(e:TC R)(a:F5 n R):E AZ:=(List.finRange n).flatMap λi=>(e.f (a i)).cells
def AEy(n:Nat)(e:TC R)(a:F5 n R):(gf n e a).length=n*e.sz:=by
 unfold gf;have:∀l:E (Fin n),(l.flatMap λi=>(e.f (a i)).cells).length=θ l*e.sz:=by
  intro l;induction l with
  |nil=>simp
  |cons x l c=>rw[IV,Ae,c,e.len];simp[ED,ZA]
 rw[this,List.length_finRange]
def F4{n:Nat}(a:F5 n R)(i:Int):Option R:=if h:0<=i/\i.toNat<n then δ (a ⟨i.toNat,h.2⟩)else ε
def Xw{n}(a:F5 n R)(i:Int)(v:R):F5 n R:=λj=>if(j.val:Int)=i then v else a j
theorem qa{a}{x:R}(h:F4 a i=D x):0<=i/\∃k:Fin n,i=(k.val:Int)/\a k=x:=by grind[F4]
theorem vA(g:R→E Y)(sz:Nat)(c:∀x,(g x).length=sz)(l1:E R)(x:R)(l2:E R):
  (l1++x::l2).flatMap g=l1.flatMap g++g x++l2.flatMap g/\(l1.flatMap g).length=θ l1*sz:=by
 induction l1<;>grind
theorem uy(k:Fin n):∃l1 l2,List.finRange n=l1++k::l2/\θ l1=k.val/\k∉l1/\k∉l2:=by
 refine⟨(List.finRange n).take k.val,(List.finRange n).drop (k.val+1),?_,q!,?_,?_⟩;have a:(List.finRange n).drop k.val=k::(List.finRange n).drop (k.val+1):=by rw[J4 k!];simp
 rw[<-a,Cr];intro h;obtain⟨i,b,e⟩:=Ws.1 h;grind;intro h;obtain⟨i,b,e⟩:=Ws.1 h;grind
theorem uT(e:TC R)(a:F5 n R)(k:Fin n):∃b c,gf n e a=b++(e.f (a k)).cells++c∧θ b=k.val*e.sz∧
  ∀v,gf n e (Xw a k.val v)=b++(e.f v).cells++c:=by
 obtain⟨l1,l2,g,h,m,o⟩:=uy k;unfold gf;rw[g];obtain⟨p,q⟩:=vA (λi=>(e.f (a i)).cells) e.sz (λi=>e.len _) l1 k l2;refine⟨_,_,p,by rw[q,h],λv=>?_⟩;have r:∀j,j≠k->Xw a k.val v j=a j:=by grind[Xw]
 have l:Xw a k.val v k=v:=by grind[Xw]
 rw[(vA (λi=>(e.f (Xw a k.val v i)).cells) e.sz (λi=>e.len _) l1 k l2).1];grind[List.map_congr_left]
section
variable {α:Type}{n:Nat} (e:TC α) {a:F5 n α}{i:Int}{x:α}
theorem AEz(h:F4 a i=D x)(pre b:E AZ):(pre++gf n e a++b).length=θ pre+n*e.sz+θ b∧θ pre+i.toNat*e.sz+e.sz≤(pre++gf n e a++b).length∧
  ((pre++gf n e a++b).drop (θ pre+i.toNat*e.sz)).take e.sz=(e.f x).cells/\∀v,Xn (pre++gf n e a++b) (θ pre+i.toNat*e.sz) (e.f v).cells=pre++gf n e (Xw a i v)++b:=by
 obtain⟨r,k,rfl,rfl⟩:=qa h;obtain⟨c,d,j,l,m⟩:=uT e a k;have o:((k.val:Int)).toNat=k.val:=k!
 have g:=AEy n e a;have q:=e.len (a k);refine⟨q!,?_,?_,λv=>?_⟩;grind;grind;have p:=e.len v;rw[m v,j,o,<-l];have:(pre++(c++(e.f (a k)).cells++d)++b)=(pre++c)++((e.f (a k)).cells++(d++b)):=k!
 rw[this];unfold Xn;rw[<-Ae,Y9,p,<-q,Yt,mq o!];simp
theorem AEu{off m:Nat}(pre b:E AZ)(h:F4 a i=D x)(c:off+m<=e.sz):θ pre+i.toNat*e.sz+off+m<=(pre++gf n e a++b).length/\((pre++gf n e a++b).drop (θ pre+i.toNat*e.sz+off)).take m=((e.f x).cells.drop off).take m:=by obtain⟨_,d,g,_⟩:=AEz e h pre b;grind[List.drop_take,List.drop_drop]
end
def sapp(a b:Bc):Ω Bc:=if θ a+θ b<=9223372036854775807 then D (a++b)else ε
theorem AJT{a b r:Bc}(h:sapp a b=D r):(if θ a+θ b<=9223372036854775807 then D (AZ.str (a++b))else ε)=D (.str r):=by grind[sapp]
def US(s:Bc)(lo hi:Int):Ω Bc:=if 0<=lo/\lo<=hi/\hi<=θ s then D ((s.drop lo.toNat).take (hi.toNat-lo.toNat))else ε
def WB(s:E R)(lo hi:Int):Ω (E R):=if 0<=lo/\lo<=hi/\hi<=θ s then D ((s.drop lo.toNat).take (hi.toNat-lo.toNat))else ε
def Gp(l:E Int):Bc:=l.map λn=>UInt8.ofNat n.toNat
theorem zK:∀l:E Int,u8s (l.map (yX .u8).f)=D (Gp l)
 |[]=>rfl
 |n::l=>by have:=zK l;simp;simp only[yX]at this⊢;simp only[u8s,this];rfl
def AJC(k:IntKind)(l:E Int):(yX k).cl l=l.map (yX k).f:=by
 unfold TC.cl;induction l with
 |nil=>rfl
 |cons x l a=>simp only[Bz,IV,a];rfl
theorem AFs(l:E Int)(c:kd P I=.str)(d:kd P b=.bytes):
  YL P q b I (.vs 1 (l.map (yX .u8).f))=D (.str (Gp l)):=by
 simp only[YL,rowsOf];have:(l.map (yX .u8).f).flatMap AZ.cells=l.map (yX .u8).f:=AJC .u8 l;grind[zK]
def ABl{body:Y->Ω (Step Y R)}{C:Y->R->Prop}(h:∀s q,body s=D q->match q with|.next d=>∀o,C d o->C s o|.done o=>C s o){s:Y}{o:R}(b:Ad body s=D o):C s o:=ADy C (λs _ r a c=>h s _ a r c) (λs _ a=>h s _ a) b
def mk(x:R)(l c:Int):Option (List R):=if 0<=l/\l<=c/\c<=16777216 then δ (ς l.toNat x)else ε
theorem ALP(e:TC R)(x:R){c:Int}{r:List R}(h:mk x i c=δ r):(0<=i/\i<=c/\c<=16777216)/\i.toNat=θ r/\(ς i.toNat (e.f x).cells).flatten=e.cl r:=by unfold mk at h;split at h;rename_i b;injection h with h;subst h;unfold TC.cl;induction i.toNat<;>grind;cases h
def T3(s:Bc):E Int:=s.map λb=>(b.toNat:Int)
def AKT(s:Bc):θ s=(T3 s).length/\nv s=(yX .u8).cl (T3 s):=by
 refine⟨by simp[T3],?_⟩;unfold TC.cl T3 nv;induction s with
 |nil=>rfl
 |cons b r a=>simp only[Bz,a];rfl
def six(s:Bc)(i:Int):Option Int:=if 0<=i then(s[i.toNat]?).map λb=>(b.toNat:Int)else ε
theorem AKS{s}{x:Int}(h:six s i=D x)(a:kd P b=.str):mQ P b (.str s) (.int B i)=D (.int .u8 x):=by grind[six,mQ]
def ui(e:TC R){l}{x:R}(h:ix l i=D x):∃d j,e.cl l=d++(e.f x).cells++j/\θ d=i.toNat*e.sz/\0<=i/\i.toNat<θ l/\l[i.toNat]?=D x/\∀v,e.cl (l.set i.toNat v)=d++(e.f v).cells++j:=by
 unfold ix at h;split at h
 case isFalse=>cases h
 rename_i k;obtain⟨c,n⟩:=F8.1 h;have m:l=l.take i.toNat++x::l.drop (i.toNat+1):=by rw[<-n,<-J4 c,Cr]
 have b:∀v,l.set i.toNat v=l.take i.toNat++v::l.drop (i.toNat+1):=λv=>by rw[List.set_eq_take_append_cons_drop,C! c]
 have a:∀v,e.cl (l.take i.toNat++v::l.drop (i.toNat+1))=e.cl (l.take i.toNat)++(e.f v).cells++e.cl (l.drop (i.toNat+1)):=λv=>by simp[TC.cl]
 refine⟨e.cl (l.take i.toNat),e.cl (l.drop (i.toNat+1)),?_,?_,k,c,h,λv=>by rw[b,a]⟩;conv=>lhs;rw[m]
 exact a x;rw[e.clen,BK,RZ (Nat.le_of_lt c)]
def FM{α:Type}(l:List α)(i:Int)(v:α):List α:=l.set i.toNat v
def vX{l:E R}{v:R}(h:θ l=n):(FM l i v).length=n:=by rw[<-h];exact gS
section
variable {α:Type} (e:TC α) {l:E α}{i:Int}{x:α}
theorem AI3(h:ix l i=D x)(d:N+n<=e.sz):i.toNat*e.sz+N+n<=(e.cl l).length/\((e.cl l).drop (i.toNat*e.sz+N)).take n=((e.f x).cells.drop N).take n:=by obtain⟨j,k,b,c,_⟩:=ui e h;have g:=e.len x;rw[b,<-c];refine⟨q!,?_⟩;rw[A5,Yt,mq o!,Cq,UA,Yt,gX,Dr,g,show n-(e.sz-N)=0 by omega];simp
end
mutual
def AZ.beq:AZ->AZ->Bool
 |.bool a,.bool b=>a==b
 |.int k n,.int k' n'=>decide (k=k')&&τ (n=n')
 |.str s,.str t=>decide (s=t)
 |.nilp,.nilp=>ζ
 |.nils,.nils=>ζ
 |.nilf,.nilf=>ζ
 |.ptr a b c,.ptr a' b' c'=>decide (a=a')&&(τ (b=b')&&τ (c=c'))
 |.vptr cs,.vptr ds=>AZ.beqL cs ds
 |.vs a cs,.vs b ds=>decide (a=b)&&AZ.beqL cs ds
 |.sl a b c d e,.sl a' b' c' d' e'=>decide (a=a')&&(τ (b=b')&&(τ (c=c')&&(τ (d=d')&&τ (e=e'))))
 |.agg cs,.agg ds=>AZ.beqL cs ds
 |.tup cs,.tup ds=>AZ.beqL cs ds
 |_,_=>η
def AZ.beqL:E AZ->E AZ->Bool
 |[],[]=>ζ
 |a::r,b::s=>AZ.beq a b&&AZ.beqL r s
 |_,_=>η
end
mutual
theorem beq_eq:∀a b,AZ.beq a b=ζ->a=b
 |.bool a,b,h=>by cases b<;>simp[AZ.beq]at h;rw[h]
 |.int k n,b,h=>by cases b<;>simp[AZ.beq]at h;rw[h.1,h.2]
 |.str s,b,h=>by cases b<;>simp[AZ.beq]at h;rw[h]
 |.nilp,b,h=>by cases b<;>simp[AZ.beq]at h;rfl
 |.nils,b,h=>by cases b<;>simp[AZ.beq]at h;rfl
 |.nilf,b,h=>by cases b<;>simp[AZ.beq]at h;rfl
 |.ptr _ _ _,b,h=>by cases b<;>simp[AZ.beq]at h;rw[h.1,h.2.1,h.2.2]
 |.vptr cs,b,h=>by cases b<;>simp[AZ.beq]at h;rw[mz cs _ h]
 |.vs a cs,b,h=>by cases b<;>simp[AZ.beq]at h;rw[h.1,mz cs _ h.2]
 |.sl _ _ _ _ _,b,h=>by cases b<;>simp[AZ.beq]at h;rw[h.1,h.2.1,h.2.2.1,h.2.2.2.1,h.2.2.2.2]
 |.agg cs,b,h=>by cases b<;>simp[AZ.beq]at h;rw[mz cs _ h]
 |.tup cs,b,h=>by cases b<;>simp[AZ.beq]at h;rw[mz cs _ h]
 |.fn _ _ _,b,h=>by cases b<;>simp[AZ.beq]at h
 |.yf _,b,h=>by cases b<;>simp[AZ.beq]at h
 |.mp _,b,h=>by cases b<;>simp[AZ.beq]at h
 |.itp _ _,b,h=>by cases b<;>simp[AZ.beq]at h
 |.any,b,h=>by cases b<;>simp[AZ.beq]at h
theorem mz:∀a b,AZ.beqL a b=ζ->a=b
 |[],b,h=>by cases b<;>simp[AZ.beqL]at h;rfl
 |x::r,b,h=>by
  cases b with
  |nil=>simp[AZ.beqL]at h
  |cons y s=>simp only[AZ.beqL,BS]at h;rw[beq_eq x y h.1,mz r s h.2]
end
mutual
inductive Ty where
 |bool
 |int (k:IntKind)
 |str
 |list (t:Ty)
 |arr (n:Nat) (t:Ty)
 |prod (ts:TA)
inductive TA where
 |one (t:Ty)
 |cons (t:Ty) (ts:TA)
end
mutual
@[reducible] def Ty.D:Ty->Type
 |.bool=>Bool
 |.int _=>Int
 |.str=>E UInt8
 |.list t=>E t.D
 |.arr n t=>F5 (n+1) t.D
 |.prod ts=>ts.D
@[reducible] def TA.D:TA->Type
 |.one t=>t.D
 |.cons t ts=>t.D×ts.D
end
mutual
def Ty.sz:Ty->Nat
 |.bool=>1
 |.int _=>1
 |.str=>1
 |.list _=>1
 |.arr n t=>(n+1)*t.sz
 |.prod ts=>ts.sz
def TA.sz:TA->Nat
 |.one t=>t.sz
 |.cons t ts=>t.sz+ts.sz
end
mutual
def Ty.enc:(t:Ty)->t.D->AZ
 |.bool,b=>.bool b
 |.int k,n=>.int k n
 |.str,s=>.str s
 |.list t,l=>.vs t.sz (l.map t.enc)
 |.arr n t,a=>.agg ((List.finRange (n+1)).flatMap λi=>(t.enc (a i)).cells)
 |.prod ts,x=>.agg (ts.cells x)
def TA.cells:(ts:TA)->ts.D->E AZ
 |.one t,x=>(t.enc x).cells
 |.cons t ts,x=>(t.enc x.1).cells++ts.cells x.2
end
mutual
theorem Ty.sz_pos:∀t:Ty,0<t.sz
 |.bool=>g!
 |.int _=>by simp[Ty.sz]
 |.str=>g!
 |.list _=>by simp[Ty.sz]
 |.arr n t=>by simp only[Ty.sz];exact Nat.mul_pos (Nat.succ_pos n) t.sz_pos
 |.prod a=>by simp only[Ty.sz];exact a.sz_pos
theorem TA.sz_pos:∀a:TA,0<a.sz
 |.one t=>by simp only[TA.sz];exact t.sz_pos
 |.cons t a=>by simp only[TA.sz];have:=t.sz_pos;omega
end
mutual
theorem Ty.enc_len:∀(t:Ty)x,(t.enc x).cells.length=t.sz
 |.bool,_=>rfl
 |.int _,_=>rfl
 |.str,_=>rfl
 |.list _,_=>rfl
 |.arr n t,a=>by
  show((List.finRange (n+1)).flatMap λi=>(t.enc (a i)).cells).length=(n+1)*t.sz;have:∀l:E (Fin (n+1)),(l.flatMap λi=>(t.enc (a i)).cells).length=θ l*t.sz:=by
   intro l;induction l with
   |nil=>simp
   |cons x l b=>rw[IV,Ae,b,t.enc_len];simp[ED,ZA]
  rw[this,List.length_finRange]
 |.prod ts,x=>ts.cells_len x
theorem TA.cells_len:∀(a:TA)x,(a.cells x).length=a.sz
 |.one t,x=>by simp only[TA.cells,TA.sz];exact t.enc_len x
 |.cons t a,x=>by simp only[TA.cells,TA.sz,Ae];rw[t.enc_len,a.cells_len]
end
mutual
theorem Ty.enc_pure:∀(t:Ty)x,Pure (t.enc x)
 |.bool,_=>rfl
 |.int _,_=>rfl
 |.str,_=>rfl
 |.list t,l=>by unfold Pure;show AZ.idsAllL _ (l.map t.enc)=ζ;rw[Dn];intro v b;obtain⟨x,_,rfl⟩:=Bo.1 b;exact t.enc_pure x
 |.arr n t,a=>by unfold Pure;show AZ.idsAllL _ ((List.finRange (n+1)).flatMap λi=>(t.enc (a i)).cells)=ζ;rw[Dn];intro v b;obtain⟨i,_,b⟩:=Gu.1 b;exact V8 (t.enc_pure _) v b
 |.prod ts,x=>by unfold Pure;show AZ.idsAllL _ (ts.cells x)=ζ;rw[Dn];exact ts.cells_pure x
theorem TA.cells_pure:∀(b:TA)x,∀v∈b.cells x,Pure v
 |.one t,x,v,a=>V8 (t.enc_pure x) v a
 |.cons t b,x,v,a=>by simp only[TA.cells,Al]at a;rcases a with a|a;exact V8 (t.enc_pure _) v a;exact b.cells_pure _ v a
end
def Ty.E(t:Ty):TC t.D:=⟨t.sz,t.enc,t.sz_pos,t.enc_len,t.enc_pure⟩
mutual
def Ty.beq:Ty->Ty->Bool
 |.bool,.bool=>ζ
 |.int k,.int k'=>decide (k=k')
 |.str,.str=>ζ
 |.list t,.list t'=>t.beq t'
 |.arr n t,.arr n' t'=>ξ n n'&&t.beq t'
 |.prod ts,.prod ts'=>ts.beq ts'
 |_,_=>η
def TA.beq:TA->TA->Bool
 |.one t,.one t'=>t.beq t'
 |.cons t ts,.cons t' ts'=>t.beq t'&&ts.beq ts'
 |_,_=>η
end
mutual
theorem Ty.beq_eq:∀(t a:Ty),t.beq a=ζ->t=a
 |.bool,a,h=>by cases a<;>simp[Ty.beq]at h;rfl
 |.int k,a,h=>by cases a<;>simp[Ty.beq]at h;rw[h]
 |.str,a,h=>by cases a<;>simp[Ty.beq]at h;rfl
 |.list t,a,h=>by cases a<;>simp[Ty.beq]at h;rw[t.beq_eq _ h]
 |.arr n t,a,h=>by cases a<;>simp[Ty.beq]at h;rw[h.1,t.beq_eq _ h.2]
 |.prod ts,a,h=>by cases a<;>simp[Ty.beq]at h;rw[ts.beq_eq _ h]
theorem TA.beq_eq:∀(t a:TA),t.beq a=ζ->t=a
 |.one t,a,h=>by cases a<;>simp[TA.beq]at h;rw[t.beq_eq _ h]
 |.cons t ts,a,h=>by cases a<;>simp[TA.beq]at h;rw[t.beq_eq _ h.1,ts.beq_eq _ h.2]
end
def Ty.cast{t t':Ty}(h:t.beq t'=ζ)(x:t.D):t'.D:=Ty.beq_eq t t' h▸x
variable {t:Ty}
def fM{a:Ty}(h:t.beq a=ζ)(x:t.D):a.enc (Ty.cast h x)=t.enc x:=by have:=Ty.beq_eq t a h;subst this;rfl
mutual
def Ty.zero:(t:Ty)->t.D
 |.bool=>η
 |.int _=>(0:Int)
 |.str=>([]:E UInt8)
 |.list t=>([]:E t.D)
 |.arr n t=>(F5.all t.zero:F5 (n+1) t.D)
 |.prod ts=>ts.zero
def TA.zero:(ts:TA)->ts.D
 |.one t=>t.zero
 |.cons t ts=>(t.zero,ts.zero)
end
inductive Bu where
 |bl (b:Bool)
 |it (k:IntKind) (n:Int)
 |st (s:List UInt8)
 |ls (t:Ty) (l:List t.D)
 |ar (n:Nat) (t:Ty) (a:F5 (n+1) t.D)
 |own (id ver:Nat) (t:Ty) (n:Nat)
 |nil
 |raw (v:AZ)
def Bu.w:Bu->Nat
 |.ar n t _=>(n+1)*t.sz
 |_=>1
def Bu.enc:Bu->E AZ
 |.bl b=>[.bool b]
 |.it k n=>[.int k n]
 |.st s=>[.str s]
 |.ls t l=>[.vs t.sz (l.map t.enc)]
 |.ar n t a=>((Ty.arr n t).enc a).cells
 |.own id _ t n=>[.sl id n t.sz 0 n]
 |.nil=>[.nils]
 |.raw v=>[v]
def Bu.one:Bu->AZ
 |.bl b=>.bool b
 |.it k n=>.int k n
 |.st s=>.str s
 |.ls t l=>.vs t.sz (l.map t.enc)
 |.ar n t a=>(Ty.arr n t).enc a
 |.own id _ t n=>.sl id n t.sz 0 n
 |.nil=>.nils
 |.raw v=>v
def lvs(cs:E Bu):E AZ:=cs.flatMap Bu.enc
def Bu.enc_len(x:Bu):θ x.enc=x.w:=by
 cases x with
 |ar n t a=>exact Ty.enc_len (.arr n t) a
 |_=>rfl
inductive TV where
 |c (x:Bu)
 |g (cs:List Bu)
 |aptr (id base n:Nat) (t:Ty) (i:Int) (off:Nat)
 |bptr (id ver:Nat) (t:Ty) (n:Nat) (i:Int) (off:Nat)
 |vw (id ver:Nat) (t:Ty) (n lo m:Nat)
 |vptr (cs:List Bu) (post:List AZ)
 |tup (vs:List TV)
def vwE(id n sz lo m:Nat):AZ:=
 if min m (n-lo)=0 then(if lo=0 then .sl id n sz 0 0 else .vs sz [])else .sl id n sz (lo*sz) (min m (n-lo))
mutual
def TV.enc:TV->AZ
 |.c x=>x.one
 |.g cs=>.agg (lvs cs)
 |.aptr id base _ t i off=>.ptr id 0 (base+i.toNat*t.sz+off)
 |.bptr id _ t n i off=>.ptr id n (i.toNat*t.sz+off)
 |.vw id _ t n lo m=>vwE id n t.sz lo m
 |.vptr cs post=>.vptr (lvs cs++post)
 |.tup vs=>.tup (TV.encL vs)
def TV.encL:E TV->E AZ
 |[]=>[]
 |v::r=>v.enc::TV.encL r
end
def ut:∀l:E TV,TV.encL l=l.map TV.enc
 |[]=>rfl
 |v::r=>by simp only[TV.encL,Bz,ut r]
abbrev Bb:=E (Nat×TV)
inductive LS where
 |ready
 |busy
 |ret
 |exit (x:Nat)
def LS.st:LS->LoopState
 |.ready=>.ready
 |.busy=>.busy
 |_=>.done
def LS.pend:LS->Ω Code
 |.ret=>D .ret
 |.exit x=>D (.exit x)
 |_=>ε
def LS.beq:LS->LS->Bool
 |.ready,.ready=>ζ
 |.busy,.busy=>ζ
 |.ret,.ret=>ζ
 |.exit x,.exit y=>ξ x y
 |_,_=>η
def LS.beq_eq{a b:LS}(h:a.beq b=ζ):a=b:=by cases a<;>cases b<;>simp only[LS.beq]at h<;>first|rfl|cases h|rw[DA h]
inductive Dp where
 |dead
 |live (ro:Bool) (cs:List Bu)
 |buf (ro:Bool) (t:Ty) (l:List t.D) (n ver:Nat)
 |lp (ro:Bool) (F:FuncId) (n:Nat) (env:Bb) (ps:Array Tmp) (a b:Code) (s:LS)
 |mp (ro:Bool) (k:IntKind) (t:Ty) (es:List (Int×t.D))
abbrev Aq:=E Dp
def B5(env:Bb):Env:=env.map λp=>(p.1,p.2.enc)
def Dp.enc:Dp->FO
 |.dead=>.dead
 |.live _ cs=>.live 0 (lvs cs)
 |.buf _ t l n _=>.live n (t.E.cl l)
 |.lp _ _ n env ps a b s=>.lp ⟨n,B5 env,ps,a,b,s.st,s.pend⟩
 |.mp _ k t es=>.mp k (es.map λp=>(p.1,t.enc p.2))
def BC(H:Aq):As:=H.map Dp.enc
def WL:TV:=.c (.raw .any)
def Bb.get:Bb->Nat->TV
 |[],_=>WL
 |(k,v)::r,t=>match ξ k t with|true=>v|false=>Bb.get r t
def Bb.del(t:Nat):Bb->Bb
 |[]=>[]
 |(k,v)::r=>match ξ k t with|true=>Bb.del t r|false=>(k,v)::Bb.del t r
def Bb.put(env:Bb)(t:Nat)(v:TV):Bb:=(t,v)::Bb.del t env
def Bb.putO(env:Bb):Ω Nat->TV->Bb
 |some t,v=>env.put t v
 |none,_=>env
theorem beq_false(h:N≠n):ξ N n=η:=by grind[Nat.eq_of_beq_eq_true]
theorem Vh(env:Bb)(t:Nat):(B5 env).get t=(env.get t).enc:=by
 induction env with
 |nil=>simp[B5,Env.get,Bb.get,WL,TV.enc,Bu.one]
 |cons p r a=>grind[B5,Env.get,Bb.get,Nat.beq_refl,beq_false]
theorem AFK(env:Bb)(t:Nat):B5 (Bb.del t env)=(B5 env).filter λp=>decide (p.1≠t):=by induction env<;>grind[Bb.del,B5,Nat.beq_refl,beq_false]
def ln(env:Bb)(t:Nat)(v:TV):B5 (env.put t v)=(B5 env).put t v.enc:=by simp only[Env.put,<-AFK];rfl
def Yx(env:Bb)(t:Ω Nat)(v:TV):B5 (env.putO t v)=(B5 env).putO t v.enc:=by
 cases t with
 |none=>rfl
 |some t=>exact ln env t v
def AFG:Value->Bu
 |.bool b=>.bl b
 |.int k n=>.it k n
 |.string s=>.st s.data.toList
 |.pointer ε=>.raw .nilp
 |.slice ε 0 0=>.nil
 |.nilFunc=>.raw .nilf
 |_=>.raw .any
def cvT:Value->TV
 |.agg cs=>match cs.toList.all (·.oneCell')with|true=>.g (cs.toList.map AFG)|false=>WL
 |v=>.c (AFG v)
def AAA(v:Value):(AFG v).one=se v:=by
 cases v with
 |pointer p=>cases p<;>rfl
 |slice a l c=>
  cases a with
  |some _=>rfl
  |none=>
   match l,c with
   |0,0=>rfl
   |0,_+1=>rfl
   |_+1,_=>rfl
 |_=>rfl
theorem AFH(v:Value):(AFG v).enc=[se v]:=by
 cases v with
 |pointer p=>cases p<;>rfl
 |slice a l c=>
  cases a with
  |some _=>rfl
  |none=>
   match l,c with
   |0,0=>rfl
   |0,_+1=>rfl
   |_+1,_=>rfl
 |_=>rfl
theorem AHI(v:Value):(cvT v).enc=ADm v:=by
 cases v with
 |agg b=>
  simp only[cvT,ADm];cases h:b.toList.all (·.oneCell')with
  |false=>simp[WL,TV.enc,Bu.one]
  |true=>simp only[TV.enc,lvs];induction b.toList<;>grind[AFH]
 |pointer p=>exact AAA (.pointer p)
 |slice a l c=>exact AAA (.slice a l c)
 |_=>rfl
def Jo(env:Bb):Operand->TV
 |.tmp t=>env.get t
 |.const v=>cvT v
 |.global _=>WL
 |.func f=>.c (.raw (.fn (.func f) [] []))
theorem MA(env:Bb)(x:Operand):BN (B5 env) x=(Jo env x).enc:=by
 cases x with
 |tmp t=>exact Vh env t
 |const v=>exact(AHI v).symm
 |global _=>rfl
 |func f=>rfl
def YG:E Bu->Nat->Ω (E Bu×E Bu)
 |ls,0=>D ([],ls)
 |[],_+1=>ε
 |x::r,n+1=>
  match Nat.ble x.w (n+1)with
  |true=>match YG r (n+1-x.w)with|some (a,b)=>D (x::a,b)|none=>ε
  |false=>ε
mutual
def Ty.lvs:(t:Ty)->t.D->E Bu
 |.bool,b=>[.bl b]
 |.int k,n=>[.it k n]
 |.str,s=>[.st s]
 |.list t,l=>[.ls t l]
 |.arr n t,a=>[.ar n t a]
 |.prod ts,x=>ts.lvs x
def TA.lvs:(ts:TA)->ts.D->E Bu
 |.one t,x=>t.lvs x
 |.cons t ts,x=>t.lvs x.1++ts.lvs x.2
end
def Bu.scalar:Bu->Bool
 |.ar .. =>η
 |.raw (.agg _)=>η
 |_=>ζ
def part(P:Program)(t:TypeId)(cs:E Bu)(off:Nat):Ω TV:=
 match YG cs off with
 |some (_,r)=>
  match tI P t with
  |some (ζ,n)=>match YG r n with|some (a,_)=>D (.g a)|none=>ε
  |some (η,_)=>match r with|x::_=>(match x.scalar with|true=>D (.c x)|false=>ε)|[]=>ε
  |none=>ε
 |none=>ε
section
variable {R:Type}
def okT(o:Ω TV)(k:TV->Ω R):Ω R:=
 match o with
 |some v=>k v
 |none=>ε
def AEx(cs:List Bu)(base n:Nat)(t:Ty):Option (F5 (n+1) t.D):=
 match YG cs base with
 |some (_,.ar n' t' a::_)=>if h:(Ty.arr n' t').beq (Ty.arr n t)=ζ then δ (Ty.cast h a)else ε
 |_=>ε
def ZF(H:Aq)(id ver:Nat)(t:Ty):Option (List t.D):=
 match H[id]? with
 |some (.buf _ t' l _ ver')=>match ξ ver ver' with|true=>(if h:(Ty.list t').beq (Ty.list t)=ζ then δ (Ty.cast h l)else ε)|false=>ε
 |_=>ε
def YF(H:Aq)(id:Nat):Ω (E Bu):=
 match H[id]? with
 |some (.live _ cs)=>D cs
 |_=>ε
def loadT(P:Program)(H:Aq)(t:TypeId)(v:TV)(k:TV->Ω R):Ω R:=
 match v with
 |.c (.raw (.ptr id 0 off))=>match YF H id with|some cs=>okT (part P t cs off) k|none=>ε
 |.vptr cs _=>okT (part P t cs 0) k
 |.aptr id base n te i off=>
  match YF H id with
  |some cs=>match AEx cs base n te with|some a=>(F4 a i).bind λe=>okT (part P t (te.lvs e) off) k|none=>ε
  |none=>ε
 |.bptr id ver te _ i off=>match ZF H id ver te with|some l=>(ix l i).bind λe=>okT (part P t (te.lvs e) off) k|none=>ε
 |_=>ε
def tvA:AZ->TV
 |.bool b=>.c (.bl b)
 |.int k n=>.c (.it k n)
 |.str s=>.c (.st s)
 |v=>.c (.raw v)
def okA(o:Ω AZ)(k:TV->Ω R):Ω R:=
 match o with
 |some v=>k (tvA v)
 |none=>ε
def eqT(as bs:E Bu):Bool:=wU (lvs as) (lvs bs)
def AI4(P:Program)(op:BinOp)(t:TypeId)(x y:TV)(k:TV->Ω R):Ω R:=
 match x,y with
 |.c (.it kx a),.c (.it ky b)=>
  match op with
  |.shl=>cond (τ (b<0)) ε (k (.c (.it kx (kx.wrap (a*2^min b.toNat kx.bits)))))
  |.shr=>cond (τ (b<0)) ε (k (.c (.it kx (a.fdiv (2^min b.toNat kx.bits)))))
  |.quo=>if kx=ky then cond (b==0) ε (k (.c (.it kx (kx.wrap (a.tdiv b)))))else ε
  |.rem=>if kx=ky then cond (b==0) ε (k (.c (.it kx (a.tmod b))))else ε
  |op=>if kx=ky then okA (qy op kx a b) k else ε
 |.c (.bl a),.c (.bl b)=>
  match op with
  |.eql=>if kd P t=.bool then k (.c (.bl (a==b)))else ε
  |.neq=>if kd P t=.bool then k (.c (.bl (!(a==b))))else ε
  |_=>ε
 |.c (.st a),.c (.st b)=>
  match op with
  |.add=>(sapp a b).bind λs=>k (.c (.st s))
  |op=>okA (yM op a b) k
 |.g as,.g bs=>
  match AE8 P t with
  |some ks=>
   if typed ks (lvs as)=ζ/\typed ks (lvs bs)=ζ then
    match op with
    |.eql=>k (.c (.bl (eqT as bs)))
    |.neq=>k (.c (.bl (!eqT as bs)))
    |_=>ε
   else ε
  |none=>ε
 |_,_=>ε
def unT(op:UnOp)(v:TV)(k:TV->Ω R):Ω R:=
 match v with
 |.c x=>okA (unV op x.one) k
 |_=>ε
def AFE(P:Program)(H:Aq)(src dst:TypeId)(v:TV)(k:TV->Ω R):Ω R:=
 match v with
 |.c (.ls (.int .u8) l)=>if kd P dst=.str/\kd P src=.bytes then k (.c (.st (Gp l)))else ε
 |.c (.own id ver (.int .u8) _)=>if kd P dst=.str/\kd P src=.bytes then(match ZF H id ver (.int .u8)with|some l=>k (.c (.st (Gp l)))|none=>ε)else ε
 |.c (.it kk n)=>okA (YL P [] src dst (.int kk n)) k
 |.c (.st s)=>okA (YL P [] src dst (.str s)) k
 |_=>ε
def om(P:Program)(H:Aq)(s f:Nat)(v:TV)(k:TV->Ω R):Ω R:=
 match fI P s f with
 |some (off,_,n)=>
  match ξ n 0 with
  |true=>ε
  |false=>
   match v with
   |.c (.raw (.ptr id 0 o))=>match YF H id with|some _=>k (.c (.raw (.ptr id 0 (o+off))))|none=>ε
   |.vptr cs post=>match YG cs off with|some (_,r)=>k (.vptr r post)|none=>ε
   |.aptr id base n te i o=>match YF H id with|some _=>k (.aptr id base n te i (o+off))|none=>ε
   |.bptr id ver te n i o=>match ZF H id ver te with|some _=>k (.bptr id ver te n i (o+off))|none=>ε
   |_=>ε
 |none=>ε
def ABX(P:Program)(s f:Nat)(v:TV)(k:TV->Ω R):Ω R:=
 match fI P s f,v with
 |some (off,t,_),.g cs=>okT (part P t cs off) k
 |_,_=>ε
def ov(P:Program)(H:Aq)(t:TypeId)(v i:TV)(k:TV->Ω R):Ω R:=
 match i with
 |.c (.it _ i)=>
  match eI P t with
  |some (D len,_,sz)=>
   match v with
   |.c (.raw (.ptr id 0 off))=>
    match YF H id with
    |some cs=>
     match YG cs off with
     |some (_,.ar n te a::_)=>if len=n+1/\sz=te.sz then(F4 a i).bind λ_=>k (.aptr id off n te i 0)else ε
     |_=>ε
    |none=>ε
   |.vptr (.ar n te a::r) post=>if len=n+1/\sz=te.sz then(F4 a i).bind λe=>k (.vptr (te.lvs e) ((((Ty.arr n te).enc a).cells.drop (i.toNat*te.sz+te.sz))++(lvs r++post)))else ε
   |_=>ε
  |some (ε,_,sz)=>
   match v with
   |.c (.ls te l)=>if sz=te.sz then(ix l i).bind λe=>k (.vptr (te.lvs e) [])else ε
   |.c (.own id ver te n)=>match ZF H id ver te with|some l=>(if sz=te.sz then(ix l i).bind λ_=>k (.bptr id ver te n i 0)else ε)|none=>ε
   |.vw id ver te n lo m=>match ZF H id ver te with|some l=>(if sz=te.sz then(ix ((l.drop lo).take m) i).bind λ_=>k (.bptr id ver te n ((lo:Int)+i) 0)else ε)|none=>ε
   |_=>ε
  |none=>ε
 |_=>ε
def yP(P:Program)(e:TypeId)(sz:Nat)(cs:E Bu)(i:Int)(k:TV->Ω R):Nat->Nat->Ω R
 |0,_=>ε
 |m+1,j=>cond (τ (i=Int.ofNat j)) (okT (part P e cs (j*sz)) k) (yP P e sz cs i k m (j+1))
def ABe(P:Program)(t:TypeId)(v i:TV)(k:TV->Ω R):Ω R:=
 match i with
 |.c (.it _ i)=>
  match v with
  |.g [.ar n te a]=>
   match eI P t with
   |some (D len,e,sz)=>if len=n+1/\sz=te.sz then(F4 a i).bind λx=>okT (part P e (te.lvs x) 0) k else ε
   |_=>ε
  |.g cs=>
   match eI P t with
   |some (D len,e,sz)=>match Nat.ble len 16 with|true=>yP P e sz cs i k len 0|false=>ε
   |_=>ε
  |.c (.st s)=>if kd P t=.str then(six s i).bind λb=>k (.c (.it .u8 b))else ε
  |_=>ε
 |_=>ε
def zo(d:Int):Ω TV->Ω Int
 |none=>D d
 |some (.c (.it _ n))=>D n
 |_=>ε
def ACM(P:Program)(H:Aq)(t:TypeId)(v:TV)(lo hi mx:Ω TV)(k:TV->Ω R):Ω R:=
 match mx with
 |some _=>ε
 |none=>
  match v with
  |.c (.st s)=>
   match zo 0 lo,zo (θ s) hi with
   |some l,D h=>if kd P t=.str then(US s l h).bind λx=>k (.c (.st x))else ε
   |_,_=>ε
  |.c (.ls te xs)=>
   match zo 0 lo,zo (θ xs) hi,eI P t with
   |some l,D h,D (ε,_,sz)=>if sz=te.sz then(WB xs l h).bind λx=>k (.c (.ls te x))else ε
   |_,_,_=>ε
  |.c (.own id ver te n)=>
   match ZF H id ver te with
   |some xs=>
    match zo 0 lo,zo (θ xs) hi,eI P t with
    |some l,D h,D (ε,_,sz)=>if sz=te.sz then(WB xs l h).bind λ_=>k (.vw id ver te n l.toNat (h.toNat-l.toNat))else ε
    |_,_,_=>ε
   |none=>ε
  |_=>ε
def AJO(P:Program)(H:Aq)(t:TypeId)(v:TV)(k:TV->Ω R):Ω R:=
 match P.underlying t,v with
 |some .string,.c (.st s)=>k (.c (.it .i64 (θ s)))
 |some (.array n _),_=>k (.c (.it .i64 n))
 |some (.slice _),.c (.ls _ l)=>k (.c (.it .i64 (θ l)))
 |some (.slice _),.c (.own id ver te n)=>match ZF H id ver te with|some _=>k (.c (.it .i64 n))|none=>ε
 |some (.slice _),.c .nil=>k (.c (.it .i64 0))
 |some (.slice _),.vw id ver te _ lo m=>match ZF H id ver te with|some l=>k (.c (.it .i64 ((l.drop lo).take m).length))|none=>ε
 |_,_=>ε
def mmT(mx:Bool)(x y:TV)(k:TV->Ω R):Ω R:=
 match x,y with
 |.c (.it kx a),.c (.it _ b)=>k (.c (.it kx (if mx then(if b>a then b else a)else(if b<a then b else a))))
 |_,_=>ε
def AJP(x y z:TV)(k:TV->Ω R):Ω R:=
 match x,y,z with
 |.c (.it kx a),.c (.it _ b),.c (.it _ c)=>k (.c (.it kx (if c<(if b<a then b else a)then c else(if b<a then b else a))))
 |_,_,_=>ε
def TV.words:TV->Ω (E Bu)
 |.c x=>match x.scalar&&x.one.solid with|true=>D [x]|false=>ε
 |.g cs=>D cs
 |_=>ε
mutual
def Ty.zlvs:(t:Ty)->E Bu
 |.bool=>[.bl η]
 |.int k=>[.it k 0]
 |.str=>[.st []]
 |.list _=>[.nil]
 |.arr n t=>[.ar n t (F5.all t.zero)]
 |.prod ts=>ts.zlvs
def TA.zlvs:TA->E Bu
 |.one t=>t.zlvs
 |.cons t ts=>t.zlvs++ts.zlvs
end
mutual
def ACR(P:Program):Nat->TypeId->Ω Ty
 |0,_=>ε
 |d+1,t=>
  match P.underlying t with
  |some .bool=>D .bool
  |some (.int k)=>D (.int k)
  |some .string=>D .str
  |some (.slice e)=>(ACR P d e).map Ty.list
  |some (.array (n+1) e)=>(ACR P d e).map (Ty.arr n)
  |some (.struct fs)=>(AIi P d fs.toList).map Ty.prod
  |_=>ε
def AIi(P:Program):Nat->E Field->Ω TA
 |0,_=>ε
 |_+1,[]=>ε
 |d+1,[f]=>(ACR P d f.type).map TA.one
 |d+1,f::r=>match ACR P d f.type,AIi P d r with|some t,D ts=>D (.cons t ts)|_,_=>ε
end
def xS:AZ->Bu
 |.bool b=>.bl b
 |.int k n=>.it k n
 |.str s=>.st s
 |v=>.raw v
def wI(P:Program)(t:TypeId):Ω (E Bu):=
 match Z0 P t with
 |some z=>
  match ACR P 1000 t with
  |some ty=>match AZ.beqL z (lvs ty.zlvs)with|true=>D ty.zlvs|false=>D (z.map xS)
  |none=>D (z.map xS)
 |none=>ε
def AEK(cs:E Bu)(off:Nat)(vs:E Bu)(n:Nat):Ω (E Bu):=
 match YG cs off with
 |some (a,r)=>match YG r n with|some (_,b)=>D (a++(vs++b))|none=>ε
 |none=>ε
def AGg:E Bu->Nat
 |[]=>0
 |x::r=>x.w+AGg r
def AAH(p:bK):E Bu->E (Nat×TV)->Ω (E Bu)
 |cs,[]=>D cs
 |cs,(i,v)::r=>
  match p.at_ i,v.words with
  |some (off,size),D ws=>
   match ξ (AGg ws) size with
   |true=>match AEK cs off ws size with|some cs'=>AAH p cs' r|none=>ε
   |false=>ε
  |_,_=>ε
def ABR(P:Program)(t:TypeId)(parts:E (Nat×TV)):Ω TV:=
 match wI P t,placesOf P t with
 |some z,D p=>(AAH p z parts).map TV.g
 |_,_=>ε
def tZ:E TV->Ω (E AZ)
 |[]=>D []
 |.c x::r=>match x.scalar,tZ r with|true,D l=>D (x.one::l)|_,_=>ε
 |_=>ε
def quT(P:Program)(env:Bb)(H:Aq)(op:Op)(k:TV->Ω R):Ω R:=
 match op with
 |.move x|.assign x=>k (Jo env x)
 |.pick c a b=>match Jo env c with|.c (.bl t)=>cond t (k (Jo env a)) (k (Jo env b))|_=>ε
 |.load t a=>loadT P H t (Jo env a) k
 |.nilCheck x=>
  match Jo env x with
  |.c (.raw (.ptr id 0 off))=>match YF H id with|some _=>k (.c (.raw (.ptr id 0 off)))|none=>ε
  |.c (.raw (.fn (.func f) a b))=>k (.c (.raw (.fn (.func f) a b)))
  |.vptr cs post=>k (.vptr cs post)
  |.aptr id base n te i off=>match YF H id with|some _=>k (.aptr id base n te i off)|none=>ε
  |.bptr id ver te n i off=>match ZF H id ver te with|some _=>k (.bptr id ver te n i off)|none=>ε
  |_=>ε
 |.binOp op t x y _=>AI4 P op t (Jo env x) (Jo env y) k
 |.unOp op _ x=>unT op (Jo env x) k
 |.convert s d x=>AFE P H s d (Jo env x) k
 |.fieldAddr s x f=>om P H s f (Jo env x) k
 |.field s x f=>ABX P s f (Jo env x) k
 |.indexAddr t x i=>ov P H t (Jo env x) (Jo env i) k
 |.index t x i=>ABe P t (Jo env x) (Jo env i) k
 |.slice t x lo hi mx=>ACM P H t (Jo env x) (lo.map (Jo env)) (hi.map (Jo env)) (mx.map (Jo env)) k
 |.extract x i=>match Jo env x with|.tup vs=>(match vs[i]? with|some v=>k v|none=>ε)|_=>ε
 |.makeFunc f a b=>match tZ (a.toList.map (Jo env)),tZ (b.toList.map (Jo env))with|some l,D m=>k (.c (.raw (.fn f l m)))|_,_=>ε
 |.build t parts=>okT (ABR P t (parts.toList.map λp=>(p.1,Jo env p.2))) k
 |.call {callee:=.builtin .len,args:=⟨[x]⟩,argTypes:=⟨[t]⟩}=>AJO P H t (Jo env x) k
 |.call {callee:=.builtin .max,args:=⟨[x,y]⟩,.. }=>mmT ζ (Jo env x) (Jo env y) k
 |.call {callee:=.builtin .min,args:=⟨[x,y]⟩,.. }=>mmT η (Jo env x) (Jo env y) k
 |.call {callee:=.builtin .min,args:=⟨[x,y,z]⟩,.. }=>AJP (Jo env x) (Jo env y) (Jo env z) k
 |_=>ε
end
def Sz(H:Aq)(id ver:Nat)(t:Ty)(n:Nat):Prop:=
 id<θ H/\∀ro t' l n' ver',H[id]?=D (.buf ro t' l n' ver')->ver<=ver'/\(ver=ver'->t'=t/\n'=n)
def Bu.ok(H:Aq):Bu->Prop
 |.own id ver t n=>Sz H id ver t n
 |_=>True
def lok(H:Aq)(cs:E Bu):Prop:=∀x∈cs,x.ok H
mutual
def TV.refs:TV->E Bu
 |.c x=>[x]
 |.g cs=>cs
 |.aptr .. =>[]
 |.bptr id ver t n _ _=>[.own id ver t n]
 |.vw id ver t n _ _=>[.own id ver t n]
 |.vptr cs _=>cs
 |.tup vs=>TV.refsL vs
def TV.refsL:E TV->E Bu
 |[]=>[]
 |v::r=>v.refs++TV.refsL r
end
def TV.ok(H:Aq)(v:TV):Prop:=lok H v.refs
def Dp.ok(H:Aq):Dp->Prop
 |.live _ cs=>lok H cs
 |.buf _ _ l n _=>n=θ l
 |.dead=>True
 |.lp _ _ _ env _ _ _ _=>∀p∈env,∀id ver t n,Bu.own id ver t n∉p.2.refs
 |.mp .. =>True
structure Oc(env:Bb)(H:Aq):Prop where
 env:∀p∈env,p.2.ok H
 heap:∀e∈H,e.ok H
variable {j:List Bu}{m l:Aq}{p:TV}{G:List TV}{J:Bu}{M:Option TV}{O:Dp}{F:Bb}
theorem JU{b:E Bu}:lok m (j++b)↔lok m j/\lok m b:=by grind[lok]
theorem AHb:lok m []:=λ_ h=>by cases h
def xo{v:TV}:∀{l:E TV},v∈l->∀x∈v.refs,x∈TV.refsL l
 |w::r,a,x,hx=>by simp only[TV.refsL,Al];rcases A3.1 a with rfl|a;exact .inl hx;exact .inr (xo a x hx)
def sG(h:(TV.tup G).ok m)(b:p∈G):p.ok m:=λx c=>h x (by simp only[TV.refs];exact xo b x c)
def SO{H}:∀{vs:E TV},(∀v∈vs,v.ok H)->(TV.tup vs).ok H
 |[],_=>λx a=>by simp[TV.refs,TV.refsL]at a
 |v::r,h=>by have:=SO (vs:=r) λw b=>h w (by simp[b]);intro x a;simp only[TV.refs,TV.refsL,Al]at a;rcases a with a|a;exact h v k! x a;exact this x a
theorem mN(h:∀p∈F,p.2.ok m)(t:Nat):(F.get t).ok m:=by
 induction F with
 |nil=>intro x a;simp only[Bb.get,WL,TV.refs,A7]at a;subst a;trivial
 |cons p r b=>grind[Bb.get]
theorem ACp(v:Value):(AFG v).ok m:=by
 cases v with
 |pointer p=>cases p<;>trivial
 |slice a l c=>
  cases a with
  |some _=>trivial
  |none=>
   match l,c with
   |0,0=>trivial
   |0,_+1=>trivial
   |_+1,_=>trivial
 |_=>trivial
def js:WL.ok m:=λx a=>by simp only[WL,TV.refs,A7]at a;subst a;trivial
theorem J2{H}(h:J.ok H):(TV.c J).ok H:=λy a=>by grind[TV.refs]
theorem AJE(v:Value):(cvT v).ok m:=by
 cases v with
 |agg a=>
  simp only[cvT];cases h:a.toList.all (·.oneCell')with
  |false=>exact js
  |true=>intro x b;grind[TV.refs,ACp]
 |_=>exact J2 (ACp _)
theorem iq{H:Aq}(h:∀p∈F,p.2.ok H)(x:Operand):(Jo F x).ok H:=by
 cases x with
 |tmp t=>exact mN h t
 |const v=>exact AJE v
 |global _=>exact js
 |func f=>exact J2 trivial
theorem Gz(a b:E Bu):lvs (a++b)=lvs a++lvs b:=Yu
theorem Hr(x:Bu)(b:E Bu):lvs (x::b)=x.enc++lvs b:=IV
theorem gP:∀a:E Bu,(lvs a).length=AGg a
 |[]=>rfl
 |x::r=>by rw[Hr,Ae,x.enc_len,gP r];rfl
def PV:∀{c}{n}{a b:E Bu},YG c n=D (a,b)->c=a++b/\(lvs a).length=n
 |c,0,a,b,h=>by cases c<;>simp only[YG]at h<;>obtain⟨rfl,rfl⟩:=h<;>exact⟨rfl,rfl⟩
 |x::r,n+1,a,b,h=>by simp only[YG]at h;split at h;rename_i e;split at h;rename_i g i f;obtain⟨rfl,rfl⟩:=h;obtain⟨j,d⟩:=PV f;rw[Hr,Ae,d,x.enc_len];simp_all;cases h;cases h
mutual
theorem Ty.lvs_enc:∀(t:Ty)x,lvs (t.lvs x)=(t.enc x).cells
 |.bool,_=>rfl
 |.int _,_=>rfl
 |.str,_=>rfl
 |.list _,_=>rfl
 |.arr n t,a=>by simp only[Ty.lvs,lvs,IV,qv,D1,Bu.enc]
 |.prod ts,x=>by simp only[Ty.lvs,Ty.enc,AZ.cells];exact ts.lvs_cells x
theorem TA.lvs_cells:∀(a:TA)x,Go.Ab.lvs (a.lvs x)=a.cells x
 |.one t,x=>by simp only[TA.lvs,TA.cells];exact t.lvs_enc x
 |.cons t a,x=>by simp only[TA.lvs,TA.cells];rw[Gz,t.lvs_enc,a.lvs_cells]
end
mutual
theorem Ty.lvs_ok{H:Aq}:∀(t:Ty)x,lok H (t.lvs x)
 |.bool,_=>λy b=>by simp only[Ty.lvs,A7]at b;subst b;trivial
 |.int _,_=>λy b=>by simp only[Ty.lvs,A7]at b;subst b;trivial
 |.str,_=>λy b=>by simp only[Ty.lvs,A7]at b;subst b;trivial
 |.list _,_=>λy b=>by simp only[Ty.lvs,A7]at b;subst b;trivial
 |.arr n t,a=>λy b=>by simp only[Ty.lvs,A7]at b;subst b;trivial
 |.prod ts,x=>by simp only[Ty.lvs];exact ts.lvs_ok x
theorem TA.lvs_ok{H:Aq}:∀(a:TA)x,lok H (a.lvs x)
 |.one t,x=>by simp only[TA.lvs];exact t.lvs_ok x
 |.cons t a,x=>by simp only[TA.lvs];exact JU.2 ⟨t.lvs_ok _,a.lvs_ok _⟩
end
def NF(h:J.scalar=ζ):J.enc=[J.one]:=by
 cases J with
 |ar n t a=>cases h
 |_=>rfl
def Bu.scalar_cells(h:J.scalar=ζ):J.one.cells=[J.one]:=by
 cases J with
 |ar n t a=>cases h
 |raw v=>cases v<;>first|rfl|cases h
 |_=>rfl
theorem SS(h:part P b j N=D p):
  (∃n,tI P b=D (ζ,n)/\N+n<=(lvs j).length/\p.enc=.agg (((lvs j).drop N).take n)\/tI P b=D (η,n)/\(lvs j)[N]?=D p.enc)/\∀H,lok H j->p.ok H:=by
 unfold part at h;split at h;rename_i a r l;obtain⟨rfl,e⟩:=PV l;split at h;rename_i n i;split at h;rename_i t c g;obtain⟨rfl,k⟩:=PV g;injection h with h;subst h;refine⟨⟨n,.inl ⟨i,?_,?_⟩⟩,λH f=>?_⟩;simp only[Gz,Ae];omega;simp only[TV.enc,Gz,AZ.agg.injEq];rw[<-e,R6,<-k,Y9];exact(JU.1 (JU.1 f).2).1;cases h;rename_i n i;split at h;rename_i x r;split at h;rename_i m;injection h with h;subst h;refine⟨⟨n,.inr ⟨i,?_⟩⟩,λH f=>J2 ((JU.1 f).2 x k!)⟩;rw[Gz,Hr,NF m,Cm o!];simp[e,TV.enc];cases h;cases h;cases h;cases h
def nP(h:part P b j N=D p)
  (hr:∀n,N+n<=(lvs j).length->Qx q v n=D (((lvs j).drop N).take n)):kB P b q v=D p.enc:=by
 obtain⟨⟨n,e|e⟩,_⟩:=SS h;obtain⟨i,g,d⟩:=e;simp only[kB,i,hr n g,Br,d];obtain⟨i,d⟩:=e;have k:N<(lvs j).length:=by rcases Aw N (lvs j).length with f|f;exact f;rw[Cn f]at d;cases d
 simp only[kB,i,hr 1 o!,AD];rw[List.head?_take,List.head?_drop,d];rfl
theorem sy(h:YF m N=D j):∃ro,m[N]?=D (.live ro j):=by grind[YF]
theorem D5(H:Aq)(id:Nat):(BC H)[id]?=(H[id]?).map Dp.enc:=B9
theorem vV(h:YF m N=D j):(BC m)[N]?=D (.live 0 (lvs j)):=by obtain⟨ro,b⟩:=sy h;rw[D5,b];rfl
def AHZ(b:∀e∈m,e.ok m)(h:YF m N=D j):lok m j:=by obtain⟨ro,c⟩:=sy h;exact b _ (BQ c)
def ABQ{l:E t.D}(h:ZF m N n t=D l):∃ro H,m[N]?=D (.buf ro t l H n):=by unfold ZF at h;split at h;rename_i ro i j H d e;split at h;rename_i g;have c:=DA g;subst c;split at h;rename_i f;have b:=f;have:=Ty.beq_eq i t b;subst this;injection h with h;refine⟨ro,H,?_⟩;rw[e,<-h];rfl;cases h;cases h;cases h
def YR{a}{l:E t.D}(d:∀e∈m,e.ok m)(hr:Sz m N a t n)(h:ZF m N a t=D l):(BC m)[N]?=D (.live n (t.E.cl l))/\θ l=n:=by obtain⟨ro,f,b⟩:=ABQ h;obtain⟨_,c⟩:=hr.2 _ _ _ _ _ b;obtain⟨_,rfl⟩:=c rfl;have:f=θ l:=d _ (BQ b);refine⟨?_,this.symm⟩;rw[D5,b];rfl
def ABL{a:F5 (n+1) t.D}(h:AEx j N n t=D a):∃pre b,j=pre++(.ar n t a::b)/\(lvs pre).length=N:=by unfold AEx at h;split at h;rename_i pre k l f b g;split at h;rename_i i;have:=Ty.beq_eq _ _ i;injection this with d e;subst d e;injection h with h;obtain⟨d,e⟩:=PV g;refine⟨pre,b,?_,e⟩;rw[d,<-h];rfl;cases h;cases h
theorem dY(n:Nat)(t:Ty)(a:F5 (n+1) t.D):(Bu.ar n t a).enc=gf (n+1) t.E a:=rfl
section
variable {P:Program}{R:Type}{H:Aq}{k:TV->Ω R}{r:R}
theorem Xj(h:okT M k=D r):∃v,M=D v/\k v=D r:=by unfold okT at h;grind
theorem jt(v:AZ):(tvA v).enc=v:=by cases v<;>rfl
theorem mf(v:AZ):(tvA v).ok H:=by cases v<;>exact J2 trivial
theorem mU{o}(h:okA o k=D r):∃v,o=D v/\k (tvA v)=D r:=by unfold okA at h;grind
theorem nF{o}(h:cond S ε o=D r):S=η/\o=D r:=q!
theorem tA(B:∀e∈H,e.ok H)(C:p.ok H)(h:loadT P H b p k=δ r):∃u,kB P b (BC H) p.enc=δ u.enc/\k u=δ r/\u.ok H:=by
 unfold loadT at h;split at h;rename_i id g;split at h;rename_i A t;obtain⟨u,f,j⟩:=Xj h;refine⟨u,nP f λn c=>?_,j,(SS f).2 H (AHZ B t)⟩;grind[TV.enc,Bu.one,Qx,vV];cases h;rename_i A d;obtain⟨u,f,j⟩:=Xj h;refine⟨u,nP f λn c=>?_,j,(SS f).2 H C⟩;simp only[TV.enc,Qx];grind;rename_i id o n v i g;split at h;rename_i A t;split at h;rename_i a F;obtain⟨e,y,h⟩:=DR.1 h;obtain⟨u,f,j⟩:=Xj h;obtain⟨pre,d,rfl,q⟩:=ABL F;refine⟨u,nP f λm c=>?_,j,(SS f).2 H (v.lvs_ok e)⟩;rw[v.lvs_enc,v.enc_len]at c;obtain⟨s,w⟩:=AEu v.E (lvs pre) (lvs d) y c;have D:lvs (pre++(.ar n v a::d))=lvs pre++gf (n+1) v.E a++lvs d:=by rw[Gz,Hr,dY,A5]
 simp only[TV.enc,Qx,vV t,D];have x:o+i.toNat*v.sz+g=(lvs pre).length+i.toNat*v.E.sz+g:=by rw[q];rfl
 rw[x,C! ⟨P!,s⟩,w,v.lvs_enc];rfl;cases h;cases h;rename_i id z v n i g;split at h;rename_i l t;obtain⟨e,y,h⟩:=DR.1 h;obtain⟨u,f,j⟩:=Xj h;obtain⟨x,_⟩:=YR B (C (.own id z v n) (by simp[TV.refs])) t;refine⟨u,nP f λm c=>?_,j,(SS f).2 H (v.lvs_ok e)⟩;rw[v.lvs_enc,v.enc_len]at c;obtain⟨s,w⟩:=AI3 v.E y c;simp only[TV.enc,Qx,x];rw[C! ⟨P!,s⟩];show δ (List.take m (List.drop (i.toNat*v.E.sz+g) (v.E.cl l)))=_;rw[w,v.lvs_enc];rfl;cases h;cases h
theorem ABN{i}{y}(h:AI4 P i b p y k=D r):∃u,zn P i b p.enc y.enc=D u.enc/\k u=D r/\u.ok H:=by
 unfold AI4 at h;split at h;rename_i n a o t;simp only[TV.enc,Bu.one,zn];split at h;obtain⟨c,h⟩:=nF h;have d:¬t<0:=by simpa using c
 refine⟨_,?_,h,J2 trivial⟩;grind[mb,TV.enc,Bu.one];obtain⟨c,h⟩:=nF h;have d:¬t<0:=by simpa using c
 refine⟨_,?_,h,J2 trivial⟩;grind[mb,TV.enc,Bu.one];split at h;rename_i e;obtain⟨c,h⟩:=nF h;have d:¬t=0:=by simpa using c
 refine⟨_,?_,h,J2 trivial⟩;grind[qy,TV.enc,Bu.one];cases h;split at h;rename_i e;obtain⟨c,h⟩:=nF h;have d:¬t=0:=by simpa using c
 refine⟨_,?_,h,J2 trivial⟩;grind[qy,TV.enc,Bu.one];cases h;grind[mU,mf,jt];rename_i a t;simp only[TV.enc,Bu.one,zn];split at h;split at h;rename_i e;exact⟨_,by simp only[C! e,TV.enc,Bu.one],h,J2 trivial⟩;cases h;split at h;rename_i e;exact⟨_,by simp only[C! e,TV.enc,Bu.one],h,J2 trivial⟩;cases h;cases h;rename_i a t;simp only[TV.enc,Bu.one,zn];split at h;obtain⟨s,j,h⟩:=DR.1 h;exact⟨_,by simp only[yM,TV.enc,Bu.one];exact AJT j,h,J2 trivial⟩;grind[mU,jt,mf];rename_i l bs;split at h;rename_i m f;split at h;rename_i g;simp only[TV.enc,zn,f,C! g];split at h;exact⟨_,by simp only[TV.enc,Bu.one,eqT],h,J2 trivial⟩;exact⟨_,by simp only[TV.enc,Bu.one,eqT],h,J2 trivial⟩;cases h;cases h;cases h;cases h
def AEP{a}(h:unT a p k=D r):∃u,unV a p.enc=D u.enc/\k u=D r/\u.ok H:=by unfold unT at h;split at h;obtain⟨p,b,h⟩:=mU h;exact⟨_,by rw[jt];exact b,h,mf p⟩;cases h
def AKB(l:E Int):(Ty.int .u8).E.cl l=l.map (yX .u8).f:=by
 unfold TC.cl;induction l with
 |nil=>rfl
 |cons n l a=>simp only[Bz,IV,a];rfl
def ADi:YL P q b I (.int B i)=YL P [] b I (.int B i):=by unfold YL;cases kd P I<;>rfl
def ADj:YL P q b I (.str L)=YL P [] b I (.str L):=by unfold YL;cases kd P I<;>rfl
def zx(g:∀e∈H,e.ok H)(c:p.ok H)(h:AFE P H b I p k=D r):∃u,YL P (BC H) b I p.enc=D u.enc/\k u=D r/\u.ok H:=by
 unfold AFE at h;split at h;rename_i l;split at h;rename_i d;exact⟨_,AFs l d.1 d.2,h,J2 trivial⟩;cases h;rename_i id f n;split at h;rename_i d;split at h;rename_i l j;obtain⟨i,hn⟩:=YR g (c (.own id f (.int .u8) n) (by simp[TV.refs])) j;refine⟨_,?_,h,J2 trivial⟩;simp only[TV.enc,Bu.one,YL,d.1,d.2,if_true,rowsOf,i];rw[C! ⟨P!,rfl,by rw[(Ty.int .u8).E.clen,hn];show 0+n<=n*1;omega⟩];have:((Ty.int .u8).E.cl l).length=n:=by rw[(Ty.int .u8).E.clen,hn];exact Nat.mul_one n
 rw[Wz,<-this,H8,AKB];exact E! (Option.map AZ.str) (zK l);cases h;cases h;obtain⟨p,c,h⟩:=mU h;exact⟨_,by rw[jt];exact ADi.trans c,h,mf p⟩;obtain⟨p,c,h⟩:=mU h;exact⟨_,by rw[jt];exact ADj.trans c,h,mf p⟩;cases h
end
section
variable {P:Program}{R:Type}{H:Aq}{k:TV->Ω R}{r:R}
theorem lh(h:YF H N=D j):UR (BC H) N 0=ζ:=by simp[UR,vV h]
def pe{a}{l:E t.D}(b:∀e∈H,e.ok H)(hr:Sz H N a t n)(h:ZF H N a t=D l):UR (BC H) N n=ζ:=by simp[UR,(YR b hr h).1]
theorem rP(x:∀e∈H,e.ok H)(g:p.ok H)(h:om P H N n p k=D r):∃u,XA P (BC H) N n p.enc=D u.enc/\k u=D r/\u.ok H:=by
 unfold om at h;split at h;rename_i B t f z;split at h;cases h;rename_i hn;have d:f≠0:=λe=>t!
 unfold XA;simp only[z,D! d];split at h;rename_i id o;split at h;rename_i s c;exact⟨_,by simp only[TV.enc,Bu.one,shift,lh c,if_true],h,J2 trivial⟩;cases h;rename_i s q;split at h;rename_i a b A;obtain⟨rfl,y⟩:=PV A;refine⟨_,?_,h,(JU.1 g).2⟩;simp only[TV.enc,shift];rw[C! (by simp only[Ae,Gz];omega),Gz,A5,<-y,R6];cases h;rename_i id m f w i o;split at h;rename_i s c;refine⟨_,?_,h,λ_ h=>by cases h⟩;grind[TV.enc,shift,lh];cases h;rename_i id j w f i o;split at h;rename_i l c;refine⟨_,?_,h,g⟩;simp only[TV.enc,shift,pe x (g (.own id j w f) (by simp[TV.refs])) c,if_true,gZ];cases h;cases h;cases h
theorem yw(h:part P b j N=D p)(c:∀t,N+t<=(lvs j).length->n+t<=θ g/\(g.drop n).take t=((lvs j).drop N).take t):vp P b g n=D p.enc:=by grind[SS,vp,List.head?_take,List.head?_drop]
theorem yY(d:p.ok H)(h:ABX P N n p k=D r):∃u,uw P N n p.enc=D u.enc/\k u=D r/\u.ok H:=by unfold ABX at h;split at h;rename_i e t s g a;obtain⟨u,c,b⟩:=Xj h;refine⟨u,?_,b,(SS c).2 H d⟩;simp only[uw,a,TV.enc];grind[yw];cases h
theorem uP{a:F5 n R}{x:R}(h:F4 a i=δ x):0<=i/\i<n:=by obtain⟨c,j,rfl,_⟩:=qa h;grind
theorem rl{i:TV}(q:∀e∈H,e.ok H)(C:p.ok H)(h:ov P H b p i k=δ r):∃u,XF P (BC H) b p.enc i.enc=δ u.enc/\k u=δ r/\u.ok H:=by
 unfold ov at h;split at h;rename_i Q i;simp only[TV.enc,Bu.one,XF];split at h;rename_i len F sz y;simp only[y];split at h;rename_i id J;split at h;rename_i M j;split at h;rename_i pre n v a t O;split at h;rename_i g;obtain⟨rfl,rfl⟩:=g;obtain⟨e,c,h⟩:=DR.1 h;refine⟨_,?_,h,λ_ h=>by cases h⟩;rw[C! (uP c)];simp only[TV.enc,Bu.one,shift,lh j,if_true,Lc];cases h;cases h;cases h;rename_i n v a R t;split at h;rename_i g;obtain⟨rfl,rfl⟩:=g;obtain⟨e,c,h⟩:=DR.1 h;refine⟨_,?_,h,v.lvs_ok e⟩;rw[C! (uP c)];obtain⟨_,w,B,_⟩:=AEz v.E c [] [];simp only[Cq,D1,CO,DQ]at w B;have G:i.toNat*v.sz+v.sz<=(gf (n+1) v.E a).length:=w;simp only[TV.enc,shift,Hr,dY];rw[C! q!];rw[v.lvs_enc,A5,qq o!];have D:(gf (n+1) v.E a).drop (i.toNat*v.sz)=(v.enc e).cells++(gf (n+1) v.E a).drop (i.toNat*v.sz+v.sz):=by rw[<-M8];have N:((gf (n+1) v.E a).drop (i.toNat*v.sz)).take v.sz=(v.enc e).cells:=B;grind[List.take_append_drop]
 rw[D,A5];rfl;cases h;cases h;rename_i F sz y;simp only[y];split at h;rename_i v l;split at h;rename_i g;subst g;obtain⟨e,c,h⟩:=DR.1 h;obtain⟨K,L⟩:=ALO (f:=v.enc) c;refine⟨_,?_,h,v.lvs_ok e⟩;simp only[TV.enc,Bu.one];rw[C! ⟨K,P!⟩,L,v.lvs_enc,D1];rfl;cases h;rename_i id d v n;split at h;rename_i l j;split at h;rename_i g;subst g;obtain⟨e,c,h⟩:=DR.1 h;have hr:=C (.own id d v n) (by simp[TV.refs]);obtain⟨I,hn⟩:=YR q hr j;refine⟨.bptr id d v n i 0,?_,h,λx o=>by simp only[TV.refs,A7]at o;subst o;exact hr⟩;obtain⟨_,_,_,_,s,w,_,_⟩:=ui v.E c;simp only[TV.enc,Bu.one];rw[C! ⟨s,o!,P!,pe q hr j⟩,DQ,Lc];cases h;cases h;rename_i id d v n A m;split at h;rename_i l j;split at h;rename_i g;subst g;obtain⟨e,c,h⟩:=DR.1 h;have hr:=C (.own id d v n) (by simp[TV.refs]);obtain⟨I,hn⟩:=YR q hr j;refine⟨.bptr id d v n ((A:Int)+i) 0,?_,h,λx o=>by simp only[TV.refs,A7]at o;subst o;exact hr⟩;unfold ix at c;split at c;rename_i s;have z:=(F8.1 c).1;rw[BK,Dr]at z;simp only[TV.enc,vwE];rw[D! o!];dsimp only;rw[C! ⟨s,o!,rfl,pe q hr j⟩,Lc,show((A:Int)+i).toNat=A+i.toNat by omega,ED];cases c;cases h;cases h;cases h;cases h;cases h
theorem pW{e:TypeId}{sz}{cs}{i}(b:lok H cs):∀{m j},yP P e sz cs i k m j=D r->∃u,(0<=i/\i<((j+m:Nat):Int))/\vp P e (lvs cs) (i.toNat*sz)=D u.enc/\k u=D r/\u.ok H
 |m+1,j,h=>by
  simp only[yP]at h;cases a:τ (i=Int.ofNat j)with
  |true=>
   rw[a]at h;have f:i=(j:Int):=q!
   obtain⟨u,d,c⟩:=Xj h;refine⟨u,o!,?_,c,(SS d).2 H b⟩;grind[yw]
  |false=>rw[a]at h;obtain⟨u,g,l⟩:=pW b (m:=m) (j:=j+1) h;grind
theorem yj{i:TV}(A:p.ok H)(h:ABe P b p i k=δ r):∃u,mQ P b p.enc i.enc=δ u.enc/\k u=δ r/\u.ok H:=by
 unfold ABe at h;split at h;rename_i B i;split at h;rename_i n c a;split at h;rename_i len x sz o;split at h;rename_i z;obtain⟨rfl,rfl⟩:=z;obtain⟨e,t,h⟩:=DR.1 h;obtain⟨u,q,f⟩:=Xj h;refine⟨u,?_,f,(SS q).2 H (c.lvs_ok e)⟩;simp only[TV.enc,Bu.one,mQ,o];rw[C! (uP t)];refine yw q λm d=>?_;rw[c.lvs_enc,c.enc_len,DQ]at d;obtain⟨j,l⟩:=AEu c.E (off:=0) [] [] t (m:=m) (by rw[DQ];exact d);simp at j l;have w:lvs [Bu.ar n c a]=gf (n+1) c.E a:=by grind[dY,lvs]
 rw[w,c.lvs_enc,Wz];exact⟨j,l⟩;cases h;cases h;rename_i g _;split at h;rename_i len x sz o;split at h;obtain⟨u,C,D,F⟩:=pW (cs:=g) (H:=H) A h;grind[TV.enc,Bu.one,mQ];cases h;cases h;rename_i s;split at h;rename_i f;obtain⟨v,y,h⟩:=DR.1 h;exact⟨_,by simp only[TV.enc];exact AKS y f,h,J2 trivial⟩;cases h;cases h;cases h
theorem dc{d:Nat}(h:zo d M=δ i)(a:0<=i):Xx d (M.map TV.enc)=δ i.toNat:=by unfold zo at h;grind[Xx,TV.enc,Bu.one,ve]
theorem zG{L J:Option TV}(G:∀e∈H,e.ok H)(Q:p.ok H)(h:ACM P H b p L J M k=δ r):∃u,jp P (BC H) b p.enc (L.map TV.enc) (J.map TV.enc) (M.map TV.enc)=δ u.enc/\k u=δ r/\u.ok H:=by
 unfold ACM at h;split at h;cases h;split at h;rename_i s;split at h;rename_i l f i v;split at h;rename_i E;obtain⟨x,c,h⟩:=DR.1 h;refine⟨_,?_,h,J2 trivial⟩;unfold US at c;split at c;rename_i a;simp only[TV.enc,Bu.one,jp,dc (d:=0) i a.1,dc v (dR a.1 a.2.1)];grind;cases c;cases h;cases h;rename_i A o;split at h;rename_i l f O sz i v D;split at h;rename_i E;obtain⟨x,c,h⟩:=DR.1 h;refine⟨_,?_,h,J2 trivial⟩;unfold WB at c;split at c;rename_i a;have j:(o.map A.enc).length=θ o:=BY _;have B:=dc (d:=0) i a.1;have t:=dc v (dR a.1 a.2.1);have C:Xx (θ o) ε=δ (θ o):=rfl;simp only[TV.enc,Bu.one,jp,j,B,t,C,D];grind[List.map_take,List.map_drop];cases c;cases h;cases h;rename_i id F A n;split at h;rename_i o I;split at h;rename_i l f O sz i v D;split at h;rename_i E;obtain⟨x,c,h⟩:=DR.1 h;have hr:=Q (.own id F A n) (by simp[TV.refs]);obtain⟨R,N⟩:=YR G hr I;have g:=pe G hr I;refine⟨_,?_,h,λz K=>by simp only[TV.refs,A7]at K;subst K;exact hr⟩;unfold WB at c;split at c;rename_i a;have B:=dc (d:=0) i a.1;have t:=dc v (dR a.1 a.2.1);rw[N]at t;have C:Xx n ε=δ n:=rfl;simp only[TV.enc,Bu.one,jp,oT,B,t,C,D];rw[C! ⟨E.symm,A.sz_pos,o!,o!,Am _,g,λq=>by cases q⟩];have m:min (f.toNat-l.toNat) (n-l.toNat)=f.toNat-l.toNat:=o!
 unfold vwE;rw[m];by_cases w:l.toNat=0;rw[C! w,w];by_cases y:f.toNat=0;rw[y];rfl;rw[D! o!,ZD,ZC];rw[D! w];by_cases y:l.toNat=f.toNat
 rw[C! y,C! o!,D! w];rw[D! y,D! o!,DQ];cases c;cases h;cases h;cases h;cases h
def ABj(f:∀e∈H,e.ok H)(g:p.ok H)(h:AJO P H b p k=D r):∃u,rn P (BC H) b p.enc=D u.enc/\k u=D r/\u.ok H:=by unfold AJO at h;split at h;rename_i s a;exact⟨_,by simp only[rn,a,TV.enc,Bu.one],h,J2 trivial⟩;rename_i n e a;exact⟨_,by simp only[rn,a,TV.enc,Bu.one],h,J2 trivial⟩;rename_i c l e a;exact⟨_,by simp only[rn,a,TV.enc,Bu.one,BY],h,J2 trivial⟩;rename_i e id t c n a;split at h;rename_i l d;refine⟨_,?_,h,J2 trivial⟩;simp only[rn,a,TV.enc,Bu.one];cases h;rename_i e a;exact⟨_,by simp only[rn,a,TV.enc,Bu.one],h,J2 trivial⟩;rename_i e id t c n i m a;split at h;rename_i l d;obtain⟨_,hn⟩:=YR f (g (.own id t c n) (by simp[TV.refs])) d;refine⟨_,?_,h,J2 trivial⟩;simp only[TV.enc,vwE,Bu.one,BK,Dr,hn];split;rename_i q;rw[q];split<;>simp only[rn,a]<;>rfl;simp only[rn,a];cases h;cases h
end
def Zz(h:p.words=D j):p.enc.solid=ζ/\p.enc.cells=lvs j/\∀H,p.ok H->lok H j:=by unfold TV.words at h;split at h;rename_i x;split at h;rename_i a;simp at a;injection h with h;subst h;refine⟨a.2,?_,λH b=>b⟩;rw[Hr,NF a.1];exact Bu.scalar_cells a.1;cases h;injection h with h;subst h;exact⟨rfl,rfl,λH b=>b⟩;cases h
theorem nR{f c:E Bu}{d n}(h:AEK j d f n=D c)(hn:(lvs f).length=n):lvs c=Xn (lvs j) d (lvs f)/\d+n<=(lvs j).length/\∀H,lok H j->lok H f->lok H c:=by unfold AEK at h;split at h;rename_i a r i;obtain⟨rfl,l⟩:=PV i;split at h;rename_i m b g;obtain⟨rfl,o⟩:=PV g;refine⟨?_,by simp only[Gz,Ae];omega,λH e k=>?_⟩;grind[Xn,Gz];grind[JU];cases h;cases h
mutual
theorem Ty.zlvs_ok{H:Aq}:∀t:Ty,lok H t.zlvs
 |.bool=>λy a=>by simp only[Ty.zlvs,A7]at a;subst a;trivial
 |.int _=>λy a=>by simp only[Ty.zlvs,A7]at a;subst a;trivial
 |.str=>λy a=>by simp only[Ty.zlvs,A7]at a;subst a;trivial
 |.list _=>λy a=>by simp only[Ty.zlvs,A7]at a;subst a;trivial
 |.arr n t=>λy a=>by simp only[Ty.zlvs,A7]at a;subst a;trivial
 |.prod b=>by simp only[Ty.zlvs];exact b.zlvs_ok
theorem TA.zlvs_ok{H:Aq}:∀a:TA,lok H a.zlvs
 |.one t=>by simp only[TA.zlvs];exact t.zlvs_ok
 |.cons t a=>by simp only[TA.zlvs];exact JU.2 ⟨t.zlvs_ok,a.zlvs_ok⟩
end
def ADv(v:AZ):(xS v).enc=[v]:=by cases v<;>rfl
theorem AFb(v:AZ):(xS v).ok m:=by cases v<;>trivial
theorem sA:∀z:E AZ,lvs (z.map xS)=z
 |[]=>rfl
 |v::r=>by rw[Bz,Hr,sA r,ADv];rfl
theorem ADD(z:E AZ):lok m (z.map xS):=λx a=>by grind[AFb]
theorem Z2(h:wI P b=D j):Z0 P b=D (lvs j)/\∀H,lok H j:=by unfold wI at h;split at h;rename_i a t;split at h;rename_i e d;split at h;rename_i c;injection h with h;subst h;exact⟨by rw[t,mz _ _ c],λH=>e.zlvs_ok⟩;grind[sA,ADD];grind[sA,ADD];cases h
theorem ux{p}:∀{a}{c b:E Bu},AAH p c a=D b->si p (lvs c) (a.map λq=>(q.1,q.2.enc))=D (lvs b)/\∀H,lok H c->(∀q∈a,q.2.ok H)->lok H b
 |[],c,b,h=>by simp only[AAH,Ap]at h;subst h;exact⟨rfl,λH h _=>h⟩
 |(i,v)::r,c,b,h=>by simp only[AAH]at h;split at h;rename_i m size B u l;split at h;rename_i k;have e:=DA k;split at h;rename_i t d;obtain⟨z,A,s⟩:=Zz l;obtain⟨x,y,o⟩:=nR d (by rw[gP,e]);obtain⟨w,n⟩:=ux h;refine⟨?_,λH g f=>n H (o H g (s H (f (i,v) k!))) λq j=>f q (by simp[j])⟩;grind[si,gP];cases h;cases h;cases h
section
variable {P:Program}{R:Type}{env:Bb}{H:Aq}{k:TV->Ω R}{r:R}
theorem zq{a}(h:ABR P b a=D p):uV P b (a.map λq=>(q.1,q.2.enc))=D p.enc/\((∀q∈a,q.2.ok H)->p.ok H):=by unfold ABR at h;split at h;rename_i z t e j;obtain⟨k,f⟩:=Z2 e;rw[Wx]at h;obtain⟨g,c,rfl⟩:=h;obtain⟨i,v⟩:=ux c;refine⟨?_,λd=>v H (f H) d⟩;grind[uV,TV.enc];cases h
def sI:∀{l}{m:E AZ},tZ l=D m->m=l.map TV.enc
 |[],m,h=>by simp only[tZ,Ap]at h;subst h;rfl
 |.c x::r,m,h=>by simp only[tZ]at h;split at h;rename_i b _ a;injection h with h;subst h;rw[Bz,<-sI a];rfl;cases h
 |.g _::_,m,h=>by simp[tZ]at h
 |.aptr .. ::_,m,h=>by simp[tZ]at h
 |.bptr .. ::_,m,h=>by simp[tZ]at h
 |.vw .. ::_,m,h=>by simp[tZ]at h
 |.vptr .. ::_,m,h=>by simp[tZ]at h
 |.tup _::_,m,h=>by simp[tZ]at h
def xa{y}(h:mmT S p y k=D r):∃u,mmV S [p.enc,y.enc]=D u.enc/\k u=D r/\u.ok H:=by unfold mmT at h;split at h;exact⟨_,by simp only[TV.enc,Bu.one,mmV],h,J2 trivial⟩;cases h
def ABs{y z}(h:AJP p y z k=D r):∃u,mm3 p.enc y.enc z.enc=D u.enc/\k u=D r/\u.ok H:=by unfold AJP at h;split at h;exact⟨_,by simp only[TV.enc,Bu.one,mm3],h,J2 trivial⟩;cases h
theorem xn{F}(ok:Oc env H)(h:quT P env H F k=D r):∃v,Cd P (B5 env) (BC H) F=D v.enc/\k v=D r/\v.ok H:=by
 have j:∀x,(Jo env x).ok H:=iq ok.env;have g:=MA env;unfold quT at h;split at h;grind[Cd];grind[Cd];rename_i c a b;split at h;rename_i t K;have w:BN (B5 env) c=.bool t:=by rw[g,K];rfl
 grind[Cd,Bool.false_eq_true];cases h;obtain⟨u,d,e⟩:=tA ok.heap (j _) h;grind[Cd];rename_i x;split at h;grind[BN,B5,Cd,lh,TV.enc,Bu.one,J2];grind[BN,B5,Cd,TV.enc,Bu.one,J2];grind[BN,B5,lvs,Cd,TV.enc];grind[BN,B5,Cd,lh,TV.enc];rename_i id D_ G n i B s;split at h;rename_i l A;have w:BN (B5 env) x=.ptr id n (i.toNat*G.sz+B):=by rw[g,s];rfl
 have:=j x;rw[s]at this;exact⟨_,by simp only[Cd,w,pe ok.heap (this (.own id D_ G n) (by simp[TV.refs])) A,if_true,TV.enc],h,this⟩;cases h;cases h;simp_all[ABN,Cd];obtain⟨u,d,e⟩:=AEP (H:=H) h;exact⟨u,by simp only[Cd,g,d],e⟩;obtain⟨u,d,e⟩:=zx ok.heap (j _) h;exact⟨u,by simp only[Cd,g,d],e⟩;obtain⟨u,d,e⟩:=rP ok.heap (j _) h;exact⟨u,by simp only[Cd,g,d],e⟩;obtain⟨u,d,e⟩:=yY (j _) h;exact⟨u,by simp only[Cd,g,d],e⟩;obtain⟨u,d,e⟩:=rl ok.heap (j _) h;exact⟨u,by simp only[Cd,g,d],e⟩;obtain⟨u,d,e⟩:=yj (H:=H) (j _) h;exact⟨u,by simp only[Cd,g,d],e⟩;rename_i t x Q O R;obtain⟨u,d,e⟩:=zG ok.heap (j _) h;have q:∀o:Ω Operand,o.map (BN (B5 env))=(o.map (Jo env)).map TV.enc:=by
  intro o;cases o with
  |none=>rfl
  |some y=>simp only[Br,g]
 exact⟨u,by simp only[Cd,g,q,d],e⟩;rename_i x i;split at h;rename_i N s;split at h;rename_i v z;have w:BN (B5 env) x=.tup (N.map TV.enc):=by rw[g,s];simp only[TV.enc,ut]
 have E:=j x;rw[s]at E;exact⟨v,by simp only[Cd,w,B9,z,Br],h,sG E (BQ z)⟩;cases h;cases h;rename_i f a b;split at h;rename_i l m A L;refine⟨_,?_,h,J2 trivial⟩;have q:∀o:Ψ Operand,o.map (BN (B5 env))=(o.map (Jo env)).map TV.enc:=by intro o;rw[RT];exact Ng λy _=>g y
 simp only[Cd,q,<-sI A,<-sI L,TV.enc,Bu.one];cases h;rename_i t C;obtain⟨v,z,h⟩:=Xj h;obtain⟨I,J⟩:=zq (H:=H) z;refine⟨v,?_,h,J λq M=>?_⟩;simp only[Cd];rw[<-I,RT];congr 1;exact Ng λp _=>by simp only[Function.comp,g]
 obtain⟨p,_,rfl⟩:=Bo.1 M;exact j _;obtain⟨u,d,e⟩:=ABj ok.heap (j _) h;exact⟨u,by simp only[Cd,g,d],e⟩;obtain⟨u,d,e⟩:=xa (H:=H) h;exact⟨u,by simp only[Cd,g,d],e⟩;obtain⟨u,d,e⟩:=xa (H:=H) h;exact⟨u,by simp only[Cd,g,d],e⟩;obtain⟨u,d,e⟩:=ABs (H:=H) h;exact⟨u,by simp only[Cd,g,d],e⟩;cases h
end
def Conv(x y:Cx)(v v':AZ):Prop:=∀c,Bv x v c->Bv y v' c
def T4(x y:Cx)(H H2:As):Prop:=
 θ H2=θ H/\∀(j:Nat)(e':FO),H2[j]?=D e'->e'=.dead\/
  (∃g cs cs',H[j]?=D (.live g cs)/\e'=.live g cs'/\θ cs'=θ cs/\∀(i:Nat)(v':AZ),cs'[i]?=D v'->∃v,cs[i]?=D v/\Conv x y v v')\/
  (H[j]?=D e'/\∀g cs,e'≠.live g cs)
theorem T4.refl(x:Cx)(H:As):T4 x x H H:=by
 refine⟨rfl,λj a d=>?_⟩;cases a with
 |live g c=>exact .inr (.inl ⟨g,c,c,d,rfl,rfl,λi v b=>⟨v,b,λ_ r=>r⟩⟩)
 |_=>grind
theorem T4.own{H d}{h}(hr:T4 k y H d):∀B,owned h d B->owned h H B:=by rintro B ⟨j,f,i,c,a⟩;rcases hr.2 j f i with b|⟨g,x,e,b,_⟩|⟨b,_⟩;grind;exact⟨j,_,b,k!,a⟩;exact⟨j,_,b,c,a⟩
def T4.later{h}{H a}{w}{x y}(hr:T4 x y H a):(cx X h H w).Later (cx X h a w):={size:=Am _,keep:=λ_ _ _ _=>rfl,own:=λB _ b=>b.imp _root_.id (hr.own B),n:=by simp[cx,hr.1],gen:=λ_ _=>Am _,same:=λ_ _ _=>⟨rfl,rfl⟩}
theorem Ig.rel{X:Nat->Prop}{h}{n}(w:Ig X h q s)(hr:T4 (cx X h q s) (cx X h n s) q n):Ig X h n s:=by
 have y:=hr.own (h:=h);have M:(cx X h q s).Later (cx X h n s):=hr.later;have back:∀{j:Nat}{e:FO},n[j]?=D e->e≠.dead->∃N,q[j]?=D N/\N≠.dead:=by intro j e l ag;rcases hr.2 j e l with a|⟨g,z,C,a,_⟩|⟨a,_⟩;grind;grind;grind
 refine⟨λB p=>⟨(w.out B p).1,λho=>(w.out B p).2 (y B ho)⟩,λj R C l=>?_,λj L l=>?_,λi j e e' B a c J K O D_=>?_,w.bldKeep λj e l p=>?_⟩;rcases hr.2 j _ l with a|⟨g,z,o,a,c,O,D_⟩|⟨_,a⟩;cases a;injection c with S U;subst S U;obtain⟨I,Y⟩:=w.live j R z a;refine⟨I,?_⟩;rcases Y with⟨k,h0⟩|⟨B,A,T,Q,f,k,W,H,ad,G,b⟩;refine .inl ⟨k,?_⟩;grind;refine .inr ⟨B,A,T,Q,f,k,W,H,o!,G,λi v' Z=>?_⟩;obtain⟨v,hv,V⟩:=D_ i v' Z;obtain⟨p1,p2,p3⟩:=b i v hv;exact⟨p1,p2,V _ p3⟩;grind;rcases hr.2 j _ l with a|⟨g,z,o,_,c,_⟩|⟨a,_⟩;cases a;cases c;obtain⟨I,B,r,q1,q2,q3,q4,q5,q6,q7,q8,P⟩:=w.lp j L a;exact⟨I,B,r,q1,q2,q3,q4,q5,q6,q7,q8,λt v m=>⟨(P t v m).1,(P t v m).2.later M⟩⟩;obtain⟨d,E,F⟩:=back a J;obtain⟨d',u,x⟩:=back c K;exact w.inj i j _ _ B E u F x O D_;refine⟨?_,rfl,rfl,rfl,λ_ _ _ _ _=>rfl⟩;rcases hr.2 j _ l with a|⟨g,z,o,_,c,_⟩|⟨a,_⟩;subst a;cases p;subst c;cases p;exact a
theorem T4.onto{a}(hr:T4 (cx X h q s) (cx X h q s) q a):T4 (cx X h q s) (cx X h a s) q a:=by have e:(cx X h q s).Later (cx X h a s):=hr.later;refine⟨hr.1,λj k p=>?_⟩;rcases hr.2 j k p with d|⟨g,f,b,d,l,m,n⟩|d;grind;refine .inr (.inl ⟨g,f,b,d,l,m,λi t o=>?_⟩);obtain⟨v,H,w⟩:=n i t o;exact⟨v,H,λc r=>(w c r).later e⟩;grind
def XO{env2:Env}{b:As}(i:θ b=θ q)(hr:∀X h w,Ig X h q w→T4 (cx X h q w) (cx X h b w) q b∧ ∀t c,(t,c)∈env2→ ∃v,(t,v)∈A∧Conv (cx X h q w) (cx X h b w) v c):
  FN N (θ q) A q env2 b:=by
 refine⟨o!,λX h a w s=>?_⟩;obtain⟨e,g⟩:=hr X h w s.sim;refine⟨h,⟨s.sim.rel e,λt c m=>?_,s.size⟩,λ_ _=>⟨rfl,rfl,rfl⟩,e.own⟩;obtain⟨v,d,f⟩:=g t c m;exact⟨(s.env t v d).1,f _ (s.env t v d).2⟩
def T4.ext{X:Nat->Prop}{c}{H a b}{d}(hr:T4 k y H b)(e:G3 c a d h H s):G3 c a d h b s where
 os:=e.os
 tape:=e.tape
 output:=e.output
 size:=e.size
 keep:=e.keep
 n:=by rw[hr.1];exact e.n
 gen:=e.gen
 same:=e.same
 fresh B hB:=e.fresh B (hr.own B hB)
 loops:=e.loops
def Jn.after{N:Nat}{H:As}{v g:AZ}{H1 b:As}(h:Jn P N o A H (C9 v H1))
  (hr:∀X h w,Ig X h H1 w->T4 (cx X h H1 w) (cx X h b w) H1 b/\Conv (cx X h H1 w) (cx X h b w) v g):Jn P N o A H (C9 g b):=by
 intro r X i a w s Q;apply XK (h r X i a w s Q);rintro q n ⟨c,u,d,p,j,⟨rfl,rfl⟩,k,e,l⟩;obtain⟨f,m⟩:=hr X d n e;exact⟨c,_,d,_,j,⟨rfl,rfl⟩,m _ k,e.rel f,T4.ext (X:=X) f l⟩
def Jn.before{N}{env2}{H H2:As}{K:AZ->As->Prop}(b:FN N (θ H) A H env2 H2)(h:Jn P N o env2 H2 K):Jn P N o A H K:=by intro r X g a w s Q;obtain⟨f,q,j,l⟩:=b.2 X g a w s;apply XK (h r X f a w q Q);rintro t u ⟨c,v,e,d,i,k,n,m,p⟩;exact⟨c,v,e,d,i,k,n,m,(FN.ext rfl b.1 j l (G3.refl g H w)).trans p⟩
def Ei.before{args args2:E AZ}{H H2:As}(hn:θ args2=θ args)
  (hr:∀X h w,Ig X h H w->T4 (cx X h H w) (cx X h H2 w) H H2/\∀(j:Nat)(b:AZ),args2[j]?=D b->∃v,args[j]?=D v/\Conv (cx X h H w) (cx X h H2 w) v b)
  (h:Ei P z args2 H2 W):Ei P z args H W:=by
 intro X g w a s o l;obtain⟨f,r⟩:=hr X g w s;refine(h X g w a (s.rel f) o! λj b c n m=>?_).mono ?_;obtain⟨v,p,d⟩:=r j b n;exact d _ (l j v c p m);rintro e y ⟨c,v,k,i,rfl,q,u,t,x⟩;exact⟨c,v,k,i,rfl,q,u,t,(T4.ext (X:=X) f (G3.refl g H w)).trans x⟩
def Xu(v v':AZ):Prop:=∀x c,Bv x v c->Bv x v' c
def Xu.refl(v:AZ):Xu v v:=λ_ _ h=>h
def Xu.nil{sz:Nat}(h:0<sz):Xu .nils (.vs sz []):=λ_ _ r=>r.nil_vs h
def Dj(cs cs':E AZ):Prop:=θ cs'=θ cs/\∀(i:Nat)(v':AZ),cs'[i]?=D v'->∃v,cs[i]?=D v/\Xu v v'
theorem Dj.refl(a:E AZ):Dj a a:=⟨rfl,λ_ v h=>⟨v,h,.refl v⟩⟩
theorem Dj.append{b f}(c:Dj g U)(a:Dj b f):Dj (g++b) (U++f):=by refine⟨by simp[c.1,a.1],λi l h=>?_⟩;rcases Aw i (θ U)with d|d;rw[CW d]at h;obtain⟨v,j,k⟩:=c.2 i l h;grind;rw[Cm d]at h;obtain⟨v,j,k⟩:=a.2 _ l h;exact⟨v,by rw[Cm (by rw[<-c.1];exact d),<-c.1];exact j,k⟩
theorem Dj.one{b}(h:Xu v b):Dj [v] [b]:=⟨rfl,λi u a=>by
 match i,a with
 |0,a=>grind
 |i+1,a=>simp at a⟩
def Dj.agg{b a}(h:Dj b a):Xu (.agg b) (.agg a):=by
 intro x c r;cases r with
 |agg i e hr=>refine .agg (by rw[i,h.1]) e λj m d g f=>?_;obtain⟨v,k,l⟩:=h.2 j m g;exact l _ _ (hr j v d k f)
mutual
def Ty.mk:(t:Ty)->List Bu->Option (t.D×List Bu)
 |.bool,.bl b::r=>δ (b,r)
 |.int k,.it k' n::r=>if k=k' then δ (n,r)else ε
 |.str,.st s::r=>δ (s,r)
 |.list t,.ls t' l::r=>if h:(Ty.list t').beq (Ty.list t)=ζ then δ (Ty.cast h l,r)else ε
 |.list _,.nil::r=>δ ([],r)
 |.arr n t,.ar n' t' a::r=>if h:(Ty.arr n' t').beq (Ty.arr n t)=ζ then δ (Ty.cast h a,r)else ε
 |.prod ts,ls=>ts.mk ls
 |_,_=>ε
def TA.mk:(ts:TA)->E Bu->Ω (ts.D×E Bu)
 |.one t,ls=>t.mk ls
 |.cons t ts,ls=>
  match t.mk ls with
  |some (x,r)=>match ts.mk r with|some (y,r')=>D ((x,y),r')|none=>ε
  |none=>ε
end
mutual
theorem Ty.mk_spec:∀(t:Ty)(b:List Bu)(x:t.D)(r:List Bu),t.mk b=δ (x,r)->∃a,b=a++r/\Dj (lvs a) (t.enc x).cells
 |.bool,b,x,r,h=>by
  cases b with
  |nil=>simp[Ty.mk]at h
  |cons y b=>
   cases y<;>simp only[Ty.mk]at h<;>try (cases h;done)
   simp only[Ap,EW]at h;obtain⟨rfl,rfl⟩:=h;exact⟨[_],rfl,Dj.refl _⟩
 |.int k,b,x,r,h=>by
  cases b with
  |nil=>simp[Ty.mk]at h
  |cons y b=>
   cases y<;>simp only[Ty.mk]at h<;>try (cases h;done)
   split at h;rename_i f;subst f;simp only[Ap,EW]at h;obtain⟨rfl,rfl⟩:=h;exact⟨[_],rfl,Dj.refl _⟩;cases h
 |.str,b,x,r,h=>by
  cases b with
  |nil=>simp[Ty.mk]at h
  |cons y b=>
   cases y<;>simp only[Ty.mk]at h<;>try (cases h;done)
   simp only[Ap,EW]at h;obtain⟨rfl,rfl⟩:=h;exact⟨[_],rfl,Dj.refl _⟩
 |.list t,b,x,r,h=>by
  cases b with
  |nil=>simp[Ty.mk]at h
  |cons y b=>
   cases y<;>simp only[Ty.mk]at h<;>try (cases h;done)
   split at h;rename_i c;simp only[Ap,EW]at h;obtain⟨rfl,rfl⟩:=h;refine⟨[_],rfl,?_⟩;have d:((Ty.list t).enc (Ty.cast c ‹_›))=_:=fM c _;rw[d];exact Dj.refl _;cases h;simp only[Ap,EW]at h;obtain⟨rfl,rfl⟩:=h;exact⟨[_],rfl,Dj.one (Xu.nil t.sz_pos)⟩
 |.arr n t,b,x,r,h=>by
  cases b with
  |nil=>simp[Ty.mk]at h
  |cons y b=>
   cases y<;>simp only[Ty.mk]at h<;>try (cases h;done)
   split at h;rename_i c;simp only[Ap,EW]at h;obtain⟨rfl,rfl⟩:=h;refine⟨[_],rfl,?_⟩;have d:((Ty.arr n t).enc (Ty.cast c ‹_›))=_:=fM c _;rw[d];have e:∀y:Bu,lvs [y]=y.enc:=λy=>by rw[Hr];simp[lvs]
   rw[e];exact Dj.refl _;cases h
 |.prod ts,b,x,r,h=>ts.mk_spec b x r (by simpa only[Ty.mk]using h)
theorem TA.mk_spec:∀(d:TA)c(x:d.D)(r:E Bu),d.mk c=D (x,r)->∃a,c=a++r/\Dj (lvs a) (d.cells x)
 |.one t,c,x,r,h=>t.mk_spec c x r (by simpa only[TA.mk]using h)
 |.cons t d,c,x,r,h=>by simp only[TA.mk]at h;split at h;rename_i y e f;split at h;rename_i z k g;simp only[Ap,EW]at h;obtain⟨rfl,rfl⟩:=h;obtain⟨a,rfl,i⟩:=t.mk_spec c y e f;obtain⟨b,rfl,j⟩:=d.mk_spec e z k g;exact⟨a++b,by rw[A5],by rw[Gz];exact i.append j⟩;cases h;cases h
end
def Ty.isAgg:Ty->Bool
 |.arr .. =>ζ
 |.prod _=>ζ
 |_=>η
def Ty.all(t:Ty)(ls:List Bu):Option t.D:=
 match t.mk ls with
 |some (x,[])=>δ x
 |_=>ε
theorem Fl{t:Ty}{b:List Bu}{x:t.D}(h:t.all b=some x):Dj (Go.Ab.lvs b) (t.enc x).cells:=by
 unfold Ty.all at h;split at h
 ·rename_i y c;obtain⟨a,rfl,d⟩:=t.mk_spec b y [] c;grind
 ·cases h
def Ty.data(t:Ty)(v:TV):Option t.D:=
 match v with
 |.c x=>match t.isAgg|| !x.scalar with|true=>ε|false=>t.all [x]
 |.g cs=>match t.isAgg with|true=>t.all cs|false=>ε
 |_=>ε
def Ty.scalar_cells(h:t.isAgg=η)(x:t.D):(t.enc x).cells=[t.enc x]:=by cases t<;>first|rfl|cases h
def Ty.agg_enc(h:t.isAgg=ζ)(x:t.D):t.enc x=.agg (t.enc x).cells:=by cases t<;>first|rfl|cases h
theorem KD{t:Ty}{v:TV}{x:t.D}(h:t.data v=some x):Xu v.enc (t.enc x):=by
 unfold Ty.data at h;split at h
 ·rename_i y;split at h
  ·cases h
  ·rename_i a;simp at a;have:=Fl h;rw[t.scalar_cells a.1,Hr,NF a.2]at this;obtain⟨u,b,c⟩:=this.2 0 _ rfl;simp at b;subst b;exact c
 ·rename_i d;split at h
  ·rename_i a;have:=(Fl h).agg;rw[<-t.agg_enc a]at this;exact this
  ·cases h
 ·cases h
def Ty.tv(t:Ty)(x:t.D):TV:=
 match t,x with
 |.bool,b=>.c (.bl b)
 |.int k,n=>.c (.it k n)
 |.str,s=>.c (.st s)
 |.list t,l=>.c (.ls t l)
 |.arr n t,a=>.g [.ar n t a]
 |.prod ts,x=>.g (ts.lvs x)
def Ty.tv_enc(t:Ty)(x:t.D):(t.tv x).enc=t.enc x:=by
 cases t with
 |arr n t=>
  have a:∀y:Bu,Go.Ab.lvs [y]=y.enc:=λy=>by rw[Hr];simp[Go.Ab.lvs]
  simp only[Ty.tv,TV.enc,a];rfl
 |prod b=>simp only[Ty.tv,TV.enc,b.lvs_cells];rfl
 |_=>rfl
def Ty.tv_ok(t:Ty)(x:t.D):(t.tv x).ok m:=by
 cases t with
 |prod a=>exact a.lvs_ok x
 |_=>exact J2 trivial
def Dp.ro:Dp->Bool
 |.dead=>η
 |.live b _=>b
 |.buf b _ _ _ _=>b
 |.lp b _ _ _ _ _ _ _=>b
 |.mp b _ _ _=>b
def Dp.isLp:Dp->Bool
 |.lp .. =>ζ
 |_=>η
def LpS(H H':Aq):Prop:=∀(id:Nat),id<θ H->∀ro F n env ps a b s,H'[id]?=D (.lp ro F n env ps a b s)->∃ro0 s0,H[id]?=D (.lp ro0 F n env ps a b s0)
def LpS.refl(H:Aq):LpS H H:=λ_ _ _ _ _ _ _ _ _ _ h=>⟨_,_,h⟩
def Dp.lock:Dp->Dp
 |.dead=>.dead
 |.live _ cs=>.live ζ cs
 |.buf _ t l n ver=>.buf ζ t l n ver
 |.lp _ F n env ps a b s=>.lp ζ F n env ps a b s
 |.mp _ k t es=>.mp ζ k t es
theorem qM(e:Dp):e.lock.enc=e.enc:=by cases e<;>rfl
structure CL(H H':Aq):Prop where
 len:H.length<=H'.length
 refs:∀id ver t n,Sz H id ver t n->Sz H' id ver t n
 ro:∀(id:Nat)(e:Dp),H[id]?=some e->e.ro=true->H'[id]?=some e
 nb:∀id,id<H.length->(∀t l n ver,H[id]? ≠some (.buf false t l n ver))->∀t l n ver,H'[id]? ≠some (.buf false t l n ver)
 lp:LpS H H'
theorem CL.refl(H:Aq):CL H H:=⟨Am _,λ_ _ _ _ h=>h,λ_ _ h _=>h,λ_ _ h=>h,.refl H⟩
def CL.trans{a b c}(h:CL a b)(k:CL b c):CL a c:=⟨Cs h.len k.len,λid d t n q=>k.refs id d t n (h.refs id d t n q),λid e q r=>k.ro id e (h.ro id e q r) r,λid q r=>k.nb id (DG q h.len) (h.nb id q r),λid q _ _ _ _ _ _ _ _ r=>by obtain⟨g,i,f⟩:=k.lp id (DG q h.len) _ _ _ _ _ _ _ _ r;exact h.lp id q _ _ _ _ _ _ _ _ f⟩
def CL.leaf(h:CL m l)(k:J.ok m):J.ok l:=by
 cases J with
 |own id a t n=>exact h.refs id a t n k
 |_=>trivial
def CL.lok(h:CL m l)(k:lok m j):lok l j:=λx c=>h.leaf (k x c)
def CL.tv(h:CL m l)(k:p.ok m):p.ok l:=h.lok k
def CL.ent(h:CL m l)(k:O.ok m):O.ok l:=by
 cases O with
 |live b d=>exact h.lok k
 |buf b t H n c=>exact k
 |dead=>trivial
 |lp=>exact k
 |mp=>exact k
def CL.env{H a}(h:CL H a){env:Bb}(k:∀p∈env,p.2.ok H):∀p∈env,p.2.ok a:=λp b=>h.tv (k p b)
theorem CL.push(H:Aq)(e:Dp):CL H (H++[e]):=by refine⟨k!,λid g t n h=>⟨by have:=h.1;simp;omega,λro f l d a b=>?_⟩,λid i b hr=>?_,λid c h=>q!,λid c _ _ _ _ _ _ _ _ h=>q!⟩;rw[CW h.1]at b;exact h.2 ro f l d a b;grind
def CL.set{H:Aq}{id:Nat}{r:Dp}(o:H[id]?=D O)(hr:O.ro=η)
  (z:∀ro t l n k,r=.buf ro t l n k->∃d v p f,O=.buf d t v p f/\(f<k\/(f=k/\p=n)))
  (D_:∀ro F n env A a b s,r=.lp ro F n env A a b s->∃d x,O=.lp d F n env A a b x:=by intro _ _ _ _ _ _ _ _ h;cases h):CL H (H.set id r):=by
 have m:id<θ H:=by rcases Aw id (θ H)with u|u;exact u;rw[Cn u]at o;cases o
 refine⟨k!,λj k t n h=>⟨by simpa using h.1,λro K l J C g=>?_⟩,λj I g y=>?_,λj g h t l n k i=>?_,λj g _ _ _ _ _ _ _ _ i=>?_⟩;by_cases c:j=id;subst c;rw[GY m]at g;injection g with g;obtain⟨d,v,p,f,w,B⟩:=z _ _ _ _ _ g;subst w;obtain⟨E,G⟩:=h.2 _ _ _ _ _ o;rcases B with B|⟨rfl,rfl⟩;exact⟨o!,λO=>o!⟩;exact⟨E,G⟩;rw[DT (c ·.symm)]at g;exact h.2 _ _ _ _ _ g;have c:j≠id:=by rintro rfl;rw[o]at g;injection g with g;subst g;rw[hr]at y;cases y
 rw[DT (c ·.symm)];exact g;by_cases c:j=id;subst c;rw[GY m]at i;injection i with i;obtain⟨d,v,p,f,w,_⟩:=z _ _ _ _ _ i;subst w;have:d=η:=hr;subst this;exact h _ _ _ _ o;rw[DT (c ·.symm)]at i;exact h _ _ _ _ i;by_cases c:j=id;subst c;rw[GY m]at i;injection i with i;obtain⟨d,x,q⟩:=D_ _ _ _ _ _ _ _ _ i;exact⟨d,x,by rw[o,q]⟩;rw[DT (c ·.symm)]at i;exact⟨_,_,i⟩
theorem Qd{H:Aq}(h:∀x∈H,x.ok H)(b:O.ok (H++[O])):∀x∈H++[O],x.ok (H++[O]):=by intro x a;rcases Al.1 a with a|a;exact(CL.push H O).ent (h x a);grind
def SP{H}{id}(d:CL H (H.set id O))(h:∀x∈H,x.ok H)(c:O.ok (H.set id O)):∀x∈H.set id O,x.ok (H.set id O):=by intro x b;rcases Wt b with b|rfl;exact d.ent (h x b);exact c
def Frame(F:E Nat)(H H':Aq):Prop:=∀j,j<θ H->j∉F->H'[j]?=H[j]?
def Frame.refl(F:E Nat)(H:Aq):Frame F H H:=λ_ _ _=>rfl
def Frame.push(F:E Nat)(H:Aq)(e:Dp):Frame F H (H++[e]):=λ_ a _=>CW a
theorem Frame.set{F:E Nat}{H}{id:Nat}(h:id∈F):Frame F H (H.set id O):=λj _ hn=>DT λq:id=j=>hn q!
def idT:TV->E Nat
 |.c (.raw a)=>rf a
 |.c (.own id _ _ _)=>[id]
 |.aptr id .. =>[id]
 |.bptr id .. =>[id]
 |.vw id .. =>[id]
 |_=>[]
def AHV(v:TV):∀id∈rf v.enc,id∈idT v:=by
 cases v with
 |c x=>
  cases x with
  |_=>exact λ_ h=>h
 |vw id a t n b m=>intro i h;simp only[TV.enc,vwE]at h;split at h;split at h;exact h;cases h;exact h
 |_=>exact λ_ h=>h
def SE(H:Aq)(e:Dp):BC (H++[e])=BC H++[e.enc]:=by simp[BC]
theorem Lg(H:Aq)(id:Nat)(e:Dp):BC (H.set id e)=(BC H).set id e.enc:=by simp[BC]
theorem CT(H:Aq):(BC H).length=θ H:=BY _
section
variable {R:Type}
def storeT(P:Program)(H:Aq)(t:TypeId)(p v:TV)(k:TV->Aq->Option R):Option R:=
 match v.words,tI P t with
 |some ws,some (_,n)=>
  match Nat.beq (AGg ws) n with
  |false=>none
  |true=>
   match p with
   | .c (.raw (.ptr id 0 off))=>
    match H[id]? with
    |some (.live false cs)=>match AEK cs off ws n with|some cs'=>k WL (H.set id (.live false cs'))|none=>none
    |_=>none
   | .aptr id base m te i off=>
    match H[id]? with
    |some (.live false cs)=>
     match YG cs base with
     |some (pre,.ar m' te' a::post)=>
      if h:(Ty.arr m' te').beq (Ty.arr m te)=true then
       (F4 (n:=m+1) (Ty.cast h a) i).bind λe=>
        match AEK (te.lvs e) off ws n with
        |some ls=>match te.all ls with|some e'=>k WL (H.set id (.live false (pre++(.ar m te (Xw (n:=m+1) (Ty.cast h a) i e')::post))))|none=>none
        |none=>none
      else none
     |_=>none
    |_=>none
   | .bptr id ver te _ i off=>
    match H[id]? with
    |some (.buf false te' l n' ver')=>
     match Nat.beq ver ver' with
     |true=>
      if h:(Ty.list te').beq (Ty.list te)=true then
       (ix (α:=te.D) (Ty.cast h l) i).bind λe=>
        match AEK (te.lvs e) off ws n with
        |some ls=>match te.all ls with|some e'=>k WL (H.set id (.buf false te (FM (α:=te.D) (Ty.cast h l) i e') n' ver'))|none=>none
        |none=>none
      else none
     |false=>none
    |_=>none
   |_=>none
 |_,_=>none
theorem AAz{b d:E AZ}(h:N+θ d<=θ U):Xn (g++U++b) (θ g+N) d=g++Xn U N d++b:=by
 unfold Xn;have e:(g++U++b).take (θ g+N)=g++U.take N:=by rw[A5,gX,BG o!,UA,gY o!]
 have f:(g++U++b).drop (θ g+N+θ d)=U.drop (N+θ d)++b:=by grind[List.drop_drop,List.drop_left]
 grind
theorem T4.set_less{H m n:As}{g:Nat}{f cs':E AZ}(x:N<θ H)(s:m=H.set N (.live g f))(t:n=H.set N (.live g cs'))(o:Dj f cs')(d:k.Later y):T4 k y m n:=by
 subst s t;refine⟨k!,λj p a=>?_⟩;by_cases b:j=N;subst b;rw[GY x]at a;injection a with a;subst a;refine .inr (.inl ⟨g,f,cs',q!,rfl,o.1,λi l h=>?_⟩);obtain⟨v,u,w⟩:=o.2 i l h;exact⟨v,u,λc r=>w _ _ (r.later d)⟩;rw[DT (b ·.symm)]at a;cases p with
 |live q c0=>exact .inr (.inl ⟨q,c0,c0,q!,rfl,rfl,λi l h=>⟨l,h,λc r=>r.later d⟩⟩)
 |_=>grind
theorem jd{b:As}(l:θ b=θ q)(i:∀(j:Nat)(e:FO),b[j]?=D e->e≠.dead->∃a,q[j]?=D a/\a≠.dead):(cx X h q s).Later (cx X h b s):={size:=Am _,keep:=λ_ _ _ _=>rfl,gen:=λ_ _=>Am _,same:=λ_ _ _=>⟨rfl,rfl⟩,n:=by simp[cx,l],own:=λB _ m=>m.imp _root_.id (λ⟨j,e,k,d,c⟩=>by obtain⟨a,f,g⟩:=i j e k d;exact⟨j,a,f,g,c⟩)}
theorem Jn.set_less{N}{g:Nat}{b cs':E AZ}(d:n<θ q)(h:Jn P N o A q (C9 v (q.set n (.live g b))))(f:Dj b cs'):Jn P N o A q (C9 v (q.set n (.live g cs'))):=by
 refine Jn.after h λX e w _=>?_;have a:(cx X e (q.set n (.live g b)) w).Later (cx X e (q.set n (.live g cs')) w):=by grind[jd]
 exact⟨T4.set_less d rfl rfl f a,λc r=>r.later a⟩
theorem HB{l:E R}{x:R}(h:l[N]?=D x):N<θ l:=q!
variable {P:Program}{N:Nat}{o:Oper}{env:Bb}{H:Aq}{k:TV->Aq->Ω R}{r:R}
def oK(P:Program)(N:Nat)(o:Oper)(env:Bb)(H:Aq)(F:E Nat)(k:TV->Aq->Ω R)(r:R):Prop:=
 ∃v H',Jn P N o (B5 env) (BC H) (C9 v.enc (BC H'))/\k v H'=D r/\v.ok H'/\(∀e∈H',e.ok H')/\CL H H'/\Frame F H H'
theorem zH(ok:Oc env H)(ho:o.op=.store b d T)(h:storeT P H b (Jo env d) (Jo env T) k=D r):oK P N o env H (idT (Jo env d)) k r:=by
 have V:=MA env;have a0:(Jo env T).ok H:=iq ok.env T;have al:(Jo env d).ok H:=iq ok.env d;unfold storeT at h;split at h;rename_i ws x n hw ht;obtain⟨w1,Y,w3⟩:=Zz hw;split at h;cases h;rename_i hn;have f:(lvs ws).length=n:=by grind[gP,Nat.eq_of_beq_eq_true]
 have R:tI P b=D (x,(Jo env T).enc.cells.length):=q!
 split at h;rename_i id t F;split at h;rename_i cs u;split at h;rename_i L hs;obtain⟨s1,s2,s3⟩:=nR hs f;have B:(BC H)[id]?=D (.live 0 (lvs cs)):=by rw[D5,u];rfl
 have j:CL H (H.set id (.live η L)):=CL.set u rfl λ_ _ _ _ _ h=>by cases h
 refine⟨WL,_,Jn.store ho (id:=id) (g:=0) (off:=t) (v:=(Jo env T).enc) (by rw[V,F];rfl) (V T) w1 B R (by rw[Y,f];exact s2) ⟨rfl,?_⟩,h,js,SP j ok.heap (j.lok (s3 H (ok.heap _ (BQ u)) (w3 H a0))),j,Frame.set (by rw[F];exact A7.2 rfl)⟩;rw[Lg,Y,<-s1];rfl;cases h;cases h;rename_i id w m te i t F;split at h;rename_i cs u;split at h;rename_i pre W c a p hs;split at h;rename_i hb;have y:=Ty.beq_eq _ _ hb;injection y with hm S;subst hm S;obtain⟨e,hg,h⟩:=DR.1 h;split at h;rename_i ls Q;split at h;rename_i M A;obtain⟨ad,I⟩:=PV hs;obtain⟨s1,s2,_⟩:=nR Q f;have s:=Fl A;have q:(Ty.cast hb a:F5 (W+1) c.D)=a:=rfl;rw[q]at hg h;obtain⟨h0,G,rfl,rfl⟩:=qa hg;obtain⟨J,Z,q1,q2,q3⟩:=uT c.E a G;have B:(BC H)[id]?=D (.live 0 (lvs pre++J++(c.enc (a G)).cells++(Z++lvs p))):=by rw[D5,u,ad];show D (FO.live 0 (lvs (pre++(.ar W c a::p))))=_;rw[Gz,Hr,dY,q1];simp only[A5];rfl
 have j:CL H (H.set id (.live η (pre++(.ar W c (Xw (n:=W+1) a (G.val:Int) M)::p)))):=CL.set u rfl λ_ _ _ _ _ h=>by cases h
 have ag:lok H cs:=ok.heap _ (BQ u);rw[ad]at ag;obtain⟨o1,o2⟩:=JU.1 ag;refine⟨WL,_,?_,h,js,SP j ok.heap (j.lok (JU.2 ⟨o1,λz hz=>?_⟩)),j,Frame.set (by rw[F];exact A7.2 rfl)⟩;have C:t+(lvs ws).length<=(c.enc (a G)).cells.length:=by rw[f,<-c.lvs_enc];exact s2
 have st:=Jn.store (P:=P) (N:=N) (K:=C9 .any ((BC H).set id (.live 0 (Xn (lvs pre++J++(c.enc (a G)).cells++(Z++lvs p)) (w+(G.val:Int).toNat*c.sz+t) (Jo env T).enc.cells)))) ho (id:=id) (g:=0)
  (off:=w+(G.val:Int).toNat*c.sz+t) (v:=(Jo env T).enc) (by rw[V,F];rfl) (V T) w1 B R (by rw[Y,f];simp only[Ae,q2,I];have:c.E.sz=c.sz:=rfl;rw[f]at C;simp only[C5,this];omega) ⟨rfl,rfl⟩
 have ea:w+(G.val:Int).toNat*c.sz+t=(lvs pre++J).length+t:=by rw[Ae,I,q2,C5];rfl
 rw[Y,ea,AAz C]at st;have O:=Jn.set_less (cs':=lvs (pre++(.ar W c (Xw (n:=W+1) a (G.val:Int) M)::p))) (by rw[CT];exact HB u) st (by rw[Gz,Hr,dY,q3 M];simp only[A5];refine(Dj.refl _).append ((Dj.refl _).append (Dj.append ?_ (Dj.refl _)));rw[<-c.lvs_enc,<-s1];exact s);rw[Lg];exact O;rcases A3.1 hz with rfl|hz;trivial;exact o2 z (by simp[hz]);cases h;cases h;cases h;cases h;cases h;rename_i id U te nn i t F;split at h;rename_i c l X a1 u;split at h;rename_i hv;have ax:=DA hv;subst ax;split at h;rename_i hb;have y:=Ty.beq_eq _ _ hb;injection y with S;subst S;obtain⟨e,hg,h⟩:=DR.1 h;split at h;rename_i ls Q;split at h;rename_i M A;obtain⟨s1,s2,_⟩:=nR Q f;have s:=Fl A;have q:(Ty.cast hb l:E c.D)=l:=rfl;rw[q]at hg h;obtain⟨J,Z,q1,q2,q3,q4,_,q5⟩:=ui c.E hg;have hr:Sz H id U c nn:=by rw[F]at al;exact al (.own id U c nn) (by simp[TV.refs])
 obtain⟨_,ap⟩:=hr.2 _ _ _ _ _ u;obtain⟨_,rfl⟩:=ap rfl;have ao:X=θ l:=ok.heap _ (BQ u);have B:(BC H)[id]?=D (.live X (J++(c.enc e).cells++Z)):=by rw[D5,u];show D (FO.live X (c.E.cl l))=_;rw[q1];rfl
 have j:CL H (H.set id (.buf η c (FM l i M) X U)):=CL.set u rfl λ_ _ _ _ _ h=>by cases h;exact⟨_,_,_,_,rfl,.inr ⟨rfl,rfl⟩⟩
 refine⟨WL,_,?_,h,js,SP j ok.heap ((vX ao.symm).symm),j,Frame.set (by rw[F];exact A7.2 rfl)⟩;have C:t+(lvs ws).length<=(c.enc e).cells.length:=by rw[f,<-c.lvs_enc];exact s2
 have st:=Jn.store (P:=P) (N:=N) (K:=C9 .any ((BC H).set id (.live X (Xn (J++(c.enc e).cells++Z) (i.toNat*c.sz+t) (Jo env T).enc.cells)))) ho (id:=id) (g:=X)
  (off:=i.toNat*c.sz+t) (v:=(Jo env T).enc) (by rw[V,F];rfl) (V T) w1 B R (by rw[Y,f];simp only[Ae,q2];have:c.E.sz=c.sz:=rfl;rw[f]at C;rw[this];omega) ⟨rfl,rfl⟩
 have ea:i.toNat*c.sz+t=θ J+t:=by rw[q2];rfl
 rw[Y,ea,AAz C]at st;have O:=Jn.set_less (cs':=c.E.cl (FM l i M)) (by rw[CT];exact HB u) st (by unfold FM;rw[q5 M];refine Dj.append (Dj.append (Dj.refl _) ?_) (Dj.refl _);rw[<-c.lvs_enc,<-s1];exact s);rw[Lg];exact O;cases h;cases h;cases h;cases h;cases h;cases h;cases h
end
section
variable {R:Type}
def ABI(P:Program)(H:Aq)(t:TypeId)(k:TV->Aq->Ω R):Ω R:=
 match wI P t with
 |some z=>k (.c (.raw (.ptr (θ H) 0 0))) (H++[.live η z])
 |none=>ε
def AG6(H:Aq)(v:TV)(k:TV->Aq->Ω R):Ω R:=
 match v.words with
 |some ws=>k (.c (.raw (.ptr (θ H) 0 0))) (H++[.live η ws])
 |none=>ε
def oB(t:Ty):List TV->Option (List t.D)
 |[]=>some []
 |v::r=>match t.data v,oB t r with|some x,some xs=>some (x::xs)|_,_=>none
def elT(P:Program)(t:TypeId):Ω Ty:=
 match eI P t with
 |some (ε,e,sz)=>
  match ACR P 1000 e with
  |some te=>if sz=te.sz/\S9 P e=ζ then D te else ε
  |none=>ε
 |_=>ε
def jj(len:Nat)(te:Ty)(parts:Array (Nat×Operand))(vs:E TV):Bool:=
 τ (parts.toList.map (·.1)=List.range len)&&(vs.all λv=>match v.words with|some ws=>ξ (AGg ws) te.sz|none=>η)&&Nat.ble len 4096&&Nat.ble te.sz 4096
def ak(P:Program)(env:Bb)(H:Aq)(t:TypeId)(len:Nat)(parts:Array (Nat×Operand))(k:TV->Aq->Ω R):Ω R:=
 match elT P t with
 |some te=>
  match jj len te parts (parts.toList.map λp=>Jo env p.2)with
  |true=>match oB te (parts.toList.map λp=>Jo env p.2)with|some xs=>k (.c (.own (θ H) 0 te (θ xs))) (H++[.buf η te xs (θ xs) 0])|none=>ε
  |false=>ε
 |none=>ε
def sS(P:Program)(env:Bb)(t:TypeId)(len:Nat)(parts:Array (Nat×Operand))(k:TV->Ω R):Ω R:=
 match elT P t with
 |some te=>
  match jj len te parts (parts.toList.map λp=>Jo env p.2)with
  |true=>match oB te (parts.toList.map λp=>Jo env p.2)with|some xs=>k (.c (.ls te xs))|none=>ε
  |false=>ε
 |none=>ε
def je(P:Program)(H:Aq)(t:TypeId)(x y:TV)(k:TV->Aq->Option R):Option R:=
 match eI P t,x,y with
 |some (none,e,_),.c (.it _ l),.c (.it _ c)=>
  match elT P t,wI P e with
  |some te,some z=>match te.all z with|some zd=>(mk zd l c).bind λr=>k (.c (.own H.length 0 te r.length)) (H++[.buf false te r r.length 0])|none=>none
  |_,_=>none
 |_,_,_=>none
def wF(P:Program)(H:Aq)(src dst:TypeId)(x:TV)(k:TV->Aq->Ω R):Ω R:=
 match P.underlying src,P.underlying dst,x with
 |some _,D (.slice e),.c (.st s)=>
  match P.underlying e with
  |some (.int .u8)=>k (.c (.own (θ H) 0 (.int .u8) (T3 s).length)) (H++[.buf η (.int .u8) (T3 s) (T3 s).length 0])
  |_=>ε
 |_,_,_=>ε
def AGF(H:Aq)(te:Ty)(v:TV):Option (List te.D):=
 match v with
 |.c (.ls te' l)=>if h:(Ty.list te').beq (Ty.list te)=ζ then δ (Ty.cast h l)else ε
 |.c (.own id ver te' _)=>if h:(Ty.list te').beq (Ty.list te)=ζ then(match ZF H id ver te' with|some l=>δ (Ty.cast (t:=.list te') (t':=.list te) h l)|none=>ε)else ε
 |.vw id ver te' _ lo m=>if h:(Ty.list te').beq (Ty.list te)=ζ then(match ZF H id ver te' with|some l=>δ (Ty.cast (t:=.list te') (t':=.list te) h ((l.drop lo).take m))|none=>ε)else ε
 |.c .nil=>δ []
 |_=>ε
def tf(P:Program)(H:Aq)(t:TypeId)(s x:TV)(k:TV->Aq->Option R):Option R:=
 match elT P t with
 |some te=>
  match AGF H te x with
  |some xs=>
   match s with
   |.c .nil=>(app [] xs).bind λr=>k (.c (.own (θ H) 0 te (θ r))) (H++[.buf η te r (θ r) 0])
   |.c (.own id ver te' _)=>
    match H[id]? with
    |some (.buf η t2 l _ ver')=>
     match ξ ver ver' with
     |true=>
      if h:(Ty.list t2).beq (Ty.list te)=ζ/\(Ty.list te').beq (Ty.list te)=ζ then
       (app (α:=te.D) (Ty.cast h.1 l) xs).bind λr=>k (.c (.own id (ver+1) te (θ r))) (H.set id (.buf η te r (θ r) (ver+1)))
      else ε
     |false=>ε
    |_=>ε
   |_=>ε
  |none=>ε
 |none=>ε
variable {P:Program}{N:Nat}{o:Oper}{env:Bb}{H:Aq}{k:TV->Aq->Ω R}{r:R}
theorem vi{H:Aq}{l:E t.D}:(TV.c (.own (θ H) N t (θ l))).ok (H++[.buf S t l (θ l) N]):=by refine J2 ⟨k!,λd h f g b e=>?_⟩;grind
def tn(H:Aq)(b:Ty)(n a:Nat):(TV.c (.own (θ H) a b n)).enc=.sl (BC H).length n b.sz 0 n:=by rw[CT];rfl
def yK(ok:Oc env H)(t:o.op=.alloc b)(h:ABI P H b k=D r):oK P N o env H [] k r:=by
 unfold ABI at h;split at h;rename_i z d;obtain⟨e,f⟩:=Z2 d;refine⟨_,_,?_,h,J2 trivial,Qd ok.heap (f _),CL.push _ _,Frame.push _ _ _⟩;have a:(TV.c (.raw (.ptr (θ H) 0 0))).enc=.ptr (BC H).length 0 0:=by rw[CT];rfl
 rw[a,SE];exact Jn.alloc t e ⟨rfl,rfl⟩;cases h
def ABP(ok:Oc env H)(x:o.op=.box b d)(h:AG6 H (Jo env d) k=D r):oK P N o env H [] k r:=by
 unfold AG6 at h;split at h;rename_i i t;obtain⟨e,f,g⟩:=Zz t;refine⟨_,_,?_,h,J2 trivial,Qd ok.heap ((CL.push _ _).lok (g H (iq ok.env d))),CL.push _ _,Frame.push _ _ _⟩;have a:(TV.c (.raw (.ptr (θ H) 0 0))).enc=.ptr (BC H).length 0 0:=by rw[CT];rfl
 rw[a,SE];exact Jn.box x (MA env d) e ⟨rfl,by rw[f];rfl⟩;cases h
def ol{t:Ty}:∀{b}{a:E t.D},oB t b=D a->Dj (b.map TV.enc) (a.map t.enc)
 |[],a,h=>by simp only[oB,Ap]at h;subst h;exact Dj.refl _
 |v::r,a,h=>by simp only[oB]at h;split at h;rename_i x e c d;injection h with h;subst h;have:=ol d;exact(Dj.one (KD c)).append this;cases h
theorem lj{t:Ty}: ∀{e:List TV} {b:List t.D},oB t e=some b->Dj ((e.map TV.enc).flatMap AZ.cells) (t.E.cl b)
 |[],b,h=>by simp only[oB,Ap]at h;subst h;exact Dj.refl _
 |v::r,b,h=>by
  simp only[oB]at h;split at h
  ·rename_i x k a g;injection h with h;subst h;have i:=lj g;refine Dj.append ?_ i;unfold Ty.data at a;split at a
   ·rename_i y;split at a
    ·cases a
    ·rename_i d;simp at d;have c:=Fl a;rw[Hr,NF d.2,<-Bu.scalar_cells d.2]at c;have f:lvs ([]:List Bu)=[]:=rfl;rw[f,D1]at c;exact c
   ·rename_i j;split at a
    ·exact Fl a
    ·cases a
   ·cases a
  ·cases h
theorem lm(h:elT P b=D t):∃e,eI P b=D (ε,e,t.sz)/\S9 P e=ζ:=by grind[elT]
theorem vq{a}(h:elT P b=D t)(c:jj N t a (a.toList.map λp=>Jo env p.2)=ζ):
  Tt P (B5 env) b N a=D (t.sz,(a.toList.map λp=>Jo env p.2).map TV.enc):=by
 obtain⟨e,k,l⟩:=lm h;unfold jj at c;simp only[BS,K!]at c;obtain⟨⟨⟨f,g⟩,i⟩,j⟩:=c;have d:(a.toList.map λp=>BN (B5 env) p.2)=(a.toList.map λp=>Jo env p.2).map TV.enc:=by grind[List.map_congr_left,MA]
 unfold Tt;simp only[k,d];refine C! ⟨t.sz_pos,l,f,?_,Pe i,Pe j⟩;rw[F6];intro v n;obtain⟨u,m,rfl⟩:=Bo.1 n;have:=F6.1 g u m;split at this<;>simp_all[Zz,gP]
theorem ADn{b:E t.D}(h:oB t G=D b):θ b=θ G:=by have:=(ol h).1;grind
theorem T4.push_less{x:Cx}{H:As}(n:Dj g U)(d:x.Later y):T4 x y (H++[.live N g]) (H++[.live N U]):=by
 refine⟨k!,λj o e=>?_⟩;rcases Aw j (θ H)with b|b;rw[CW b]at e;cases o with
 |live p c0=>exact .inr (.inl ⟨p,c0,c0,q!,rfl,rfl,λi m h=>⟨m,h,λc r=>r.later d⟩⟩)
 |_=>grind
 have k:=HB e;simp at k;have l:j=θ H:=o!
 subst l;simp at e;subst e;refine .inr (.inl ⟨N,g,U,k!,rfl,n.1,λi m h=>?_⟩);obtain⟨v,q,s⟩:=n.2 i m h;exact⟨v,q,λc r=>s _ _ (r.later d)⟩
theorem Jn.push_less(h:Jn P N o A q (C9 v (q++[.live n g])))(i:Dj g U):Jn P N o A q (C9 v (q++[.live n U])):=by
 refine Jn.after h λX f w _=>?_;have b:(cx X f (q++[.live n g]) w).Later (cx X f (q++[.live n U]) w):=by refine jd k! λj e l k=>?_;grind
 exact⟨T4.push_less i b,λc r=>r.later b⟩
def pH(ok:Oc env H)(f:o.op=.buildSlice b n u)(h:ak P env H b n u k=D r):oK P N o env H [] k r:=by unfold ak at h;split at h;rename_i i d;split at h;rename_i g;split at h;rename_i j c;have e:=vq d g;have t:=ADn c;refine⟨_,_,?_,h,vi,Qd ok.heap rfl,CL.push _ _,Frame.push _ _ _⟩;rw[tn,SE];have:=Un (N:=N) (H:=BC H) (K:=C9 _ _) f e ⟨rfl,rfl⟩;rw[BY,<-t]at this;exact Jn.push_less this (lj c);cases h;cases h;cases h
theorem AIK{a:Ty}{vs:List AZ}{l:List a.D}(h:Dj vs (l.map a.enc))(J:Dj (vs.flatMap AZ.cells) (a.E.cl l))(A: ∀v∈vs,v.cells.length=a.sz):Xu (.vs a.sz vs) (.vs a.sz (l.map a.enc)):=by
 intro x c O;cases O with
 |vs f w p z F q=>
  have hn:(l.map a.enc).length=vs.length:=h.1;rw[<-hn];have key: ∀(j:Nat) (e:AZ) (i:Nat) (v:AZ),(l.map a.enc)[j]? =some e->e.cells[i]? =some v-> ∃b k,vs[j]? =some b/\b.cells[i]? =some k/\Xu k v:=by
   intro j e i v d m;obtain⟨b,n,_⟩:=h.2 j e d;have g: ∀u∈l.map a.enc,u.cells.length=a.sz:=λu K=>by obtain⟨y,_,rfl⟩:=Bo.1 K;exact a.enc_len y
   have C:=pr g j e i v d m;obtain⟨k,s,t⟩:=J.2 _ v C;have I:i<a.sz:=by grind
   have G:=A b (BQ n);have H:b.cells[i]? =some (b.cells[i]'(by omega)):=Ar (by omega);have P:=pr A j b i _ n H;grind
  refine Bv.vs f (by grind) p (λj e d=>?_) (λo=>?_) λj e i v d m=>?_
  ·obtain⟨y,_,rfl⟩:=Bo.1 (BQ d);exact a.enc_len y
  ·obtain⟨B,r,n,M,N,Q⟩:=F (λe=>o (EX (by grind)));refine⟨B,r,n,M,N,λj e i v d m=>?_⟩;obtain⟨b,k,s,t,_⟩:=key j e i v d m;grind
  ·obtain⟨b,k,s,t,L⟩:=key j e i v d m;exact L _ _ (q j b i k s t)
def sB(ok:Oc env H)(s:o.op=.makeSlice b d T)(h:je P H b (Jo env d) (Jo env T) k=D r):oK P N o env H [] k r:=by
 have i:=MA env;unfold je at h;split at h;rename_i e sz Q l O c j v w;split at h;rename_i x z t A;split at h;rename_i L f;obtain⟨I,q,h⟩:=DR.1 h;obtain⟨M,m,u⟩:=lm t;rw[j]at m;obtain⟨rfl,rfl⟩:=m;obtain⟨J,R⟩:=Z2 A;have a:=Fl f;obtain⟨⟨C,D_,F⟩,p,G⟩:=ALP x.E L q;refine⟨_,_,?_,h,vi,Qd ok.heap rfl,CL.push _ _,Frame.push _ _ _⟩;rw[tn,SE];have g:(lvs z).length=x.sz:=by rw[<-a.1,x.enc_len]
 have:=Jn.makeSlice (N:=N) (H:=BC H) (K:=C9 _ _) s j x.sz_pos u J g (by rw[i,v];rfl) (by rw[i,w];rfl) C D_ F ⟨rfl,rfl⟩;rw[p]at this;apply Jn.push_less this;rw[<-G,p];induction θ I with
 |zero=>exact Dj.refl _
 |succ n B=>exact Dj.append a B
 cases h;cases h;cases h
def wG(ok:Oc env H)(j:o.op=.convert b I d)(h:wF P H b I (Jo env d) k=D r):oK P N o env H [] k r:=by have f:=MA env;unfold wF at h;split at h;rename_i u e s l g m;split at h;rename_i i;refine⟨_,_,?_,h,vi,Qd ok.heap rfl,CL.push _ _,Frame.push _ _ _⟩;rw[tn,SE];obtain⟨c,a⟩:=AKT s;have:=rS (N:=N) (H:=BC H) (K:=C9 _ _) j l g i (by rw[f,m];rfl) ⟨rfl,rfl⟩;rw[a,c]at this;exact this;cases h;cases h
def ACj(a:Ty):∀l(k:Nat),(a.E.cl l).drop (k*a.sz)=a.E.cl (l.drop k)
 |l,0=>by rw[ZD];rfl
 |[],k+1=>by simp[TC.cl]
 |x::r,k+1=>by have e:a.E.cl (x::r)=(a.enc x).cells++a.E.cl r:=rfl;have b:=a.enc_len x;rw[e,show(k+1)*a.sz=(a.enc x).cells.length+k*a.sz by rw[b,ED,Nat.one_mul,ZA],Yt,M9 o!,Cq,UA];exact ACj a r k
def ACk(a:Ty):∀l(k:Nat),(a.E.cl l).take (k*a.sz)=a.E.cl (l.take k)
 |l,0=>by rw[ZD];rfl
 |[],k+1=>by simp[TC.cl]
 |x::r,k+1=>by have e:a.E.cl (x::r)=(a.enc x).cells++a.E.cl r:=rfl;have b:a.E.cl (List.take (k+1) (x::r))=(a.enc x).cells++a.E.cl (r.take k):=rfl;have c:=a.enc_len x;rw[e,b,show(k+1)*a.sz=(a.enc x).cells.length+k*a.sz by rw[c,ED,Nat.one_mul,ZA],gX,BG o!,UA,ACk a r k]
theorem ACE{f:E t.D}(x:∀e∈H,e.ok H)(z:p.ok H)(h:AGF H t p=D f):Ka (BC H) t.sz p.enc=D (θ f,t.E.cl f):=by
 unfold AGF at h;split at h;rename_i a l;split at h;rename_i j;have c:=Ty.beq_eq _ _ j;injection c with b;subst b;injection h with h;have i:=h;subst i;simp only[TV.enc,Bu.one,Ka,BY];rfl;cases h;rename_i id g a n;split at h;rename_i j;have c:=Ty.beq_eq _ _ j;injection c with b;subst b;split at h;rename_i l v;injection h with h;have i:l=f:=h;obtain⟨s,r⟩:=YR x (z (.own id g a n) (by simp[TV.refs])) v;have y:=a.E.clen l;have B:a.E.sz=a.sz:=rfl;grind[TV.enc,Bu.one,Ka];cases h;cases h;rename_i id g a n d m;split at h;rename_i j;have c:=Ty.beq_eq _ _ j;injection c with b;subst b;split at h;rename_i l v;injection h with h;have i:(l.drop d).take m=f:=h;obtain⟨s,r⟩:=YR x (z (.own id g a n) (by simp[TV.refs])) v;have o:θ f=min m (n-d):=by rw[<-i,BK,Dr,r]
 have w:f=(l.drop d).take (min m (n-d)):=by rw[<-i,<-r,<-Dr,List.take_eq_take_min]
 have y:(a.E.cl l).length=n*a.sz:=by rw[<-r];exact a.E.clen l
 show Ka (BC H) a.sz (vwE id n a.sz d m)=_;unfold vwE;by_cases q:min m (n-d)=0;have u:f=[]:=dW.1 o!;rw[C! q,u];by_cases A:d=0;rw[C! A];simp only[Ka,s];rw[C! ⟨P!,P!,k!⟩,ZD];rfl;rw[D! A];simp[Ka,TC.cl];rw[D! q];simp only[Ka,s];have k:(d+min m (n-d))*a.sz<=n*a.sz:=Nh _ o!;rw[ED]at k;rw[C! ⟨P!,P!,by rw[y];exact k⟩,o,ACj,ACk,<-w];cases h;cases h;injection h with h;subst h;rfl;cases h
theorem wN(ok:Oc env H)(R:o.op=.call {callee:=.builtin .append,args:= #[d,T],argTypes:= #[b,I]})(Y:b=I)(h:tf P H b (Jo env d) (Jo env T) k=D r):oK P N o env H (idT (Jo env d)) k r:=by
 subst Y;have x:=MA env;unfold tf at h;split at h;rename_i te C;obtain⟨e,Q,S⟩:=lm C;split at h;rename_i w L;have a:=ACE ok.heap (iq ok.env T) L;rw[<-x]at a;split at h;rename_i v;obtain⟨l,u,X⟩:=DR.1 h;obtain⟨W,j⟩:=pG u;rw[Cq]at j;subst j;refine⟨_,_,?_,X,vi,Qd ok.heap rfl,CL.push _ _,Frame.push _ _ _⟩;rw[tn,SE];have:=fK (N:=N) (H:=BC H) (K:=C9 _ _) R Q te.sz_pos S (by rw[x,v];rfl) a q! ⟨rfl,rfl⟩;exact this;rename_i id g ag n v;split at h;rename_i t l J M c;split at h;rename_i Z;have G:=DA Z;subst G;split at h;rename_i y;have F:=Ty.beq_eq _ _ y.1;injection F with p;have s:=Ty.beq_eq _ _ y.2;injection s with q;subst q;subst p;obtain⟨l2,u,h⟩:=DR.1 h;have f:(Ty.cast y.1 l:E t.D)=l:=rfl;rw[f]at u;obtain⟨W,rfl⟩:=pG u;have hr:Sz H id g t n:=by have:=iq ok.env d;rw[v]at this;exact this (.own id g t n) (by simp[TV.refs])
 obtain⟨_,A⟩:=hr.2 _ _ _ _ _ c;obtain⟨_,rfl⟩:=A rfl;have z:J=θ l:=ok.heap _ (BQ c);have i:(BC H)[id]?=D (.live J (t.E.cl l)):=by rw[D5,c];rfl
 have m:CL H (H.set id (.buf η t (l++w) (l++w).length (g+1))):=CL.set c rfl λ_ _ _ _ _ h=>by cases h;exact⟨_,_,_,_,rfl,.inl (Nat.lt_succ_self _)⟩
 refine⟨_,_,?_,h,J2 ⟨q!,λad I l' n2 U hg=>?_⟩,SP m ok.heap rfl,m,Frame.set (by rw[v];exact A7.2 rfl)⟩;have O:=t.E.clen l;have B:t.E.sz=t.sz:=rfl;rw[B]at O;have:=S4 (N:=N) (H:=BC H) (g':=J+θ w) (K:=C9 _ _) R Q t.sz_pos S (by rw[x,v];rfl) i (by rw[O,z]) a q! (by rcases Wv (θ w) with V|V;grind;exact .inl o!) ⟨rfl,rfl⟩;grind[Lg,n?,TC.cl,TV.enc,Bu.one,Dp.enc];grind;cases h;cases h;cases h;cases h;cases h;cases h
end
def OR(id ver:Nat)(t:Ty)(l:E t.D):Bu->Bu
 |.own id' ver' t' n=>match ξ id id'&&ξ ver ver' with|true=>.ls t l|false=>.own id' ver' t' n
 |x=>x
mutual
def py(id ver:Nat)(t:Ty)(l:E t.D):TV->TV
 |.c x=>.c (OR id ver t l x)
 |.g cs=>.g (cs.map (OR id ver t l))
 |.tup vs=>.tup (iz id ver t l vs)
 |.aptr a b n te i o=>.aptr a b n te i o
 |.bptr a v te n i o=>.bptr a v te n i o
 |.vw a v te n i m=>.vw a v te n i m
 |.vptr cs post=>.vptr cs post
def iz(id ver:Nat)(t:Ty)(l:E t.D):E TV->E TV
 |[]=>[]
 |v::r=>py id ver t l v::iz id ver t l r
end
def Rg(id ver:Nat)(t:Ty)(l:E t.D):Dp->Dp
 |.live η cs=>.live η (cs.map (OR id ver t l))
 |e=>e
def frz(id:Nat)(env:Bb)(H:Aq):Ω (Bb×Aq):=
 match H[id]? with
 |some (.buf η t l _ ver)=>D (env.map λp=>(p.1,py id ver t l p.2),(H.map (Rg id ver t l)).set id .dead)
 |_=>ε
def QG(x y:Cx)(a b:E AZ):Prop:=θ b=θ a/\∀(i:Nat)(v':AZ),b[i]?=D v'->∃v,a[i]?=D v/\Conv x y v v'
theorem QG.append{b f}(c:QG k y g U)(a:QG k y b f):QG k y (g++b) (U++f):=by refine⟨by simp[c.1,a.1],λi l h=>?_⟩;rcases Aw i (θ U)with d|d;rw[CW d]at h;obtain⟨v,j,x⟩:=c.2 i l h;grind;rw[Cm d]at h;obtain⟨v,j,x⟩:=a.2 _ l h;exact⟨v,by rw[Cm (by rw[<-c.1];exact d),<-c.1];exact j,x⟩
def QG.later{x y:Cx}(l:x.Later y)(a:E AZ):QG x y a a:=⟨rfl,λ_ v h=>⟨v,h,λ_ r=>r.later l⟩⟩
theorem QG.one{b}(h:Conv k y v b):QG k y [v] [b]:=⟨rfl,λi u a=>by
 match i,a with
 |0,a=>grind
 |i+1,a=>simp at a⟩
def QG.agg{x y}{b a}(h:QG x y b a):Conv x y (.agg b) (.agg a):=by
 intro c r;cases r with
 |agg i e hr=>refine .agg (by rw[i,h.1]) e λj m d g f=>?_;obtain⟨v,k,l⟩:=h.2 j m g;exact l _ (hr j v d k f)
def QG.tup{x y}{b a}(h:QG x y b a):Conv x y (.tup b) (.tup a):=by
 intro c r;cases r with
 |tup g hr=>refine .tup (by rw[g,h.1]) λj l d f e=>?_;obtain⟨v,i,k⟩:=h.2 j l f;exact k _ (hr j v d i e)
section
variable {x y:Cx}{H:Aq}{id n ver:Nat}{t:Ty}{l:E t.D} (lat:x.Later y) (hid:H[id]?=D (.buf η t l n ver)) (hc:Conv x y (.sl id n t.sz 0 n) (.vs t.sz (l.map t.enc)))
include lat hid hc
theorem pw(e:J.ok H):QG x y J.enc (OR id ver t l J).enc/\Conv x y J.one (OR id ver t l J).one:=by
 have same:∀w:Bu,QG x y w.enc w.enc/\Conv x y w.one w.one:=λw=>⟨.later lat _,λ_ r=>r.later lat⟩
 cases J with
 |own f b h g=>simp only[OR];split;rename_i a;simp only[BS]at a;have c:=DA a.1;have d:=DA a.2;subst c d;obtain⟨_,q⟩:=e.2 _ _ _ _ _ hid;obtain⟨rfl,rfl⟩:=q rfl;exact⟨.one hc,hc⟩;grind
 |_=>exact same _
def rV:∀{a},lok H a->QG x y (lvs a) (lvs (a.map (OR id ver t l)))
 |[],_=>.later lat _
 |z::r,h=>by rw[Bz,Hr,Hr];exact(pw lat hid hc (h z k!)).1.append (rV λw b=>h w (by simp[b]))
mutual
theorem vC:∀{v:TV},v.ok H->Conv x y v.enc (py id ver t l v).enc
 |.c z,h=>(pw lat hid hc (h z (by simp[TV.refs]))).2
 |.g cs,h=>(rV lat hid hc h).agg
 |.tup vs,h=>QG.tup (sj (vs:=vs) h)
 |.aptr ..,_=>λ_ r=>r.later lat
 |.bptr ..,_=>λ_ r=>r.later lat
 |.vw ..,_=>λ_ r=>r.later lat
 |.vptr ..,_=>λ_ r=>r.later lat
theorem sj:∀{vs},(TV.tup vs).ok H->QG x y (TV.encL vs) (TV.encL (iz id ver t l vs))
 |[],_=>.later lat _
 |v::r,h=>by simp only[TV.encL,iz];have a:v.ok H:=sG h k!;have b:(TV.tup r).ok H:=SO λw c=>sG h (by simp[c]);exact(QG.one (vC a)).append (sj b)
end
end
def vB{H}(c:CL m l)(d:J.ok m):(OR N n t H J).ok l:=by
 cases J with
 |own f e h g=>simp only[OR];split;trivial;exact c.leaf d
 |_=>exact c.leaf d
def ACw{H}(d:CL m l)(h:lok m j):lok l (j.map (OR N n t H)):=λz f=>by obtain⟨w,e,rfl⟩:=Bo.1 f;exact vB d (h w e)
mutual
theorem AAK{H d:Aq}{id b:Nat}{t:Ty}{l:E t.D}(a:CL H d):∀{v:TV},v.ok H->(py id b t l v).ok d
 |.c z,h=>J2 (vB a (h z (by simp[TV.refs])))
 |.g cs,h=>ACw a h
 |.tup vs,h=>xM a h
 |.aptr ..,h=>a.lok h
 |.bptr ..,h=>a.lok h
 |.vw ..,h=>a.lok h
 |.vptr ..,h=>a.lok h
theorem xM{H c}{id b}{t}{l}(d:CL H c):∀{e},(TV.tup e).ok H->(TV.tup (iz id b t l e)).ok c
 |[],_=>λz i=>by simp[iz,TV.refs,TV.refsL]at i
 |v::r,h=>by have f:v.ok H:=sG h k!;have g:(TV.tup r).ok H:=SO λw a=>sG h (by simp[a]);refine SO λw a=>?_;simp only[iz]at a;rcases A3.1 a with rfl|a;exact AAK d f;exact sG (xM d g) a
end
theorem AFR{i:Nat}{l:Ψ t.D}(f:m[N]?=D (.buf η t l n i)):CL m ((m.map (Rg N i t l)).set N .dead):=by
 have s:=HB f;refine⟨k!,λj F E v h=>⟨by simpa using h.1,λro Q L M u c=>?_⟩,λj e c hr=>?_,λj D_ h E l2 v F a=>?_,λj D_ _ _ _ _ _ _ _ _ a=>?_⟩;by_cases d:j=N;grind;rw[DT (d ·.symm),B9]at c;cases a:m[j]? with
 |none=>grind
 |some e=>
  rw[a]at c;simp only[Br,Ap]at c;cases e with
  |live b k=>cases b<;>simp[Rg]at c
  |dead=>cases c
  |lp=>cases c
  |mp=>cases c
  |buf b q o p r=>simp only[Rg]at c;exact h.2 _ _ _ _ _ (by rw[a,c])
 have d:j≠N:=by rintro rfl;rw[f]at c;injection c with c;subst c;cases hr
 rw[DT (d ·.symm),B9,c];cases e with
 |live b k=>cases b with|true=>rfl|false=>cases hr
 |dead=>cases hr
 |buf b q o p r=>rfl
 |lp=>rfl
 |mp=>rfl
 by_cases d:j=N;grind;rw[DT (d ·.symm),B9]at a;cases g:m[j]? with
 |none=>rw[g]at a;cases a
 |some e=>
  rw[g]at a;simp only[Br,Ap]at a;cases e with
  |live b k=>cases b<;>simp[Rg]at a
  |dead=>cases a
  |lp=>cases a
  |mp=>cases a
  |buf b q o p r=>grind[Rg]
 by_cases d:j=N;grind[List.getElem?_set_self];rw[DT (d ·.symm),B9]at a;cases g:m[j]? with
 |none=>rw[g]at a;cases a
 |some e=>
  rw[g]at a;simp only[Br,Ap]at a;cases e with
  |live b k=>cases b<;>simp[Rg]at a
  |dead=>cases a
  |buf b q o p r=>cases a
  |mp=>cases a
  |lp C G H K O I J P=>injection a with _ w x y z A B _;subst w x y z A B;exact⟨_,_,rfl⟩
theorem AJK{id:Nat}{env env2:Bb}{H K:Aq}(ok:Oc env H)(h:frz id env H=some (env2,K)):Oc env2 K/\CL H K/\ ∀N,FN N (BC H).length (B5 env) (BC H) (B5 env2) (BC K):=by
 unfold frz at h;split at h
 ·rename_i t l n i d;simp only[Ap,EW]at h;obtain⟨rfl,rfl⟩:=h;have G:=HB d;have A:=AFR d;have hn:n=l.length:=ok.heap _ (BQ d);refine⟨⟨λp M=>?_,λe R=>?_⟩,A,λN=>?_⟩
  ·obtain⟨q,z,rfl⟩:=Bo.1 M;exact AAK A (ok.env q z)
  ·rcases Wt R with R|rfl
   ·obtain⟨k,S,rfl⟩:=Bo.1 R;have F:=ok.heap k S;cases k with
    |live b D_=>
     cases b with
     |true=>exact A.lok F
     |false=>exact ACw A F
    |dead=>trivial
    |buf b Q P T U=>exact F
    |lp=>exact F
    |mp=>exact F
   ·trivial
  ·have u:(BC H)[id]? =some (.live n (t.E.cl l)):=by rw[D5,d];rfl
   refine XO (by simp[BC]) λX g w s=>?_;have C: ∀j,(BC ((H.map (Rg id i t l)).set id .dead))[j]? =if j=id then some .dead else(H[j]?).map λe=>(Rg id i t l e).enc:=by
    intro j;rw[D5];by_cases v:j=id
    ·subst v;rw[if_pos rfl,GY (by simpa using G)];rfl
    ·grind
   have back: ∀(j:Nat) (e:FO),(BC ((H.map (Rg id i t l)).set id .dead))[j]? =some e->e≠ .dead->j≠id/\ ∃k,(BC H)[j]? =some k/\k≠ .dead:=by
    intro j e a f;rw[C]at a;split at a
    ·injection a with a;exact(f a.symm).elim
    ·rename_i v;refine⟨v,?_⟩;cases z:H[j]? with
     |none=>rw[z]at a;cases a
     |some k=>
      refine⟨k.enc,by rw[D5,z];rfl,λL=>f ?_⟩;rw[z]at a;simp only[Br,Ap]at a;cases k with
      |live b D_=>simp[Dp.enc]at L
      |dead=>exact a.symm
      |buf b Q P T U=>simp[Dp.enc]at L
      |lp=>simp[Dp.enc]at L
      |mp=>simp[Dp.enc]at L
   have y:(cx X g (BC H) w).Later (cx X g (BC ((H.map (Rg id i t l)).set id .dead)) w):=jd (by simp[BC]) λj e a f=>(back j e a f).2;have hO: ∀B,g.io id=some B-> ¬(cx X g (BC ((H.map (Rg id i t l)).set id .dead)) w).O B:=by
    rintro B I (hX|⟨j,e,a,f,J⟩)
    ·exact(s.out B hX).2 ⟨id,_,u,by simp,I⟩
    ·obtain⟨v,k,Y,Z⟩:=back j e a f;exact v (s.inj j id _ _ B Y u Z (by simp) J I)
   have o:Conv (cx X g (BC H) w) (cx X g (BC ((H.map (Rg id i t l)).set id .dead)) w) (.sl id n t.sz 0 n) (.vs t.sz (l.map t.enc)):=λc r=>Bv.froze s u (AFt t.E l) (by rw[hn];exact BY _) y rfl hO r;refine⟨⟨by simp[BC],λj e' a=>?_⟩,λtt v' m=>?_⟩
   ·rw[C]at a;split at a
    ·injection a with a;exact .inl a.symm
    ·cases z:H[j]? with
     |none=>rw[z]at a;cases a
     |some k=>
      rw[z]at a;simp only[Br,Ap]at a;have x:(BC H)[j]? =some k.enc:=by rw[D5,z];rfl
      cases k with
      |live b D_=>
       refine .inr (.inl ?_);cases b with
       |true=>simp only[Rg,Dp.enc]at a;exact⟨0,lvs D_,lvs D_,x,a.symm,rfl,(QG.later y _).2⟩
       |false=>simp only[Rg,Dp.enc]at a;obtain⟨V,W⟩:=rV y d o (ok.heap _ (BQ z));exact⟨0,lvs D_,_,x,a.symm,V,W⟩
      |dead=>exact .inl a.symm
      |buf b Q P T U=>simp only[Rg,Dp.enc]at a;exact .inr (.inl ⟨T,Q.E.cl P,Q.E.cl P,x,a.symm,rfl,(QG.later y _).2⟩)
      |lp=>subst a;exact .inr (.inr ⟨x,λ_ _ h=>by cases h⟩)
      |mp=>subst a;exact .inr (.inr ⟨x,λ_ _ h=>by cases h⟩)
   ·simp only[B5,RT,Bo]at m;obtain⟨p,M,e⟩:=m;simp only[Function.comp,EW]at e;obtain⟨rfl,rfl⟩:=e;exact⟨p.2.enc,Bo.2 ⟨p,M,rfl⟩,vC y d o (ok.env p M)⟩
 ·cases h
@[reducible] def DL:E Ty->Type
 |[]=>Unit
 |[t]=>t.D
 |t::u::r=>t.D×DL (u::r)
def inp:(ts:List Ty)->List TV->Option (DL ts)
 |[],[]=>some ()
 |[t],[v]=>t.data v
 |t::u::r,v::vs=>
  match t.data v,inp (u::r) vs with
  |some x,some y=>some (x,y)
  |_,_=>none
 |_,_=>none
def xy:(ts:List Ty)->DL ts->List TV
 |[],_=>[]
 |[t],x=>[t.tv x]
 |t::u::r,x=>t.tv x.1::xy (u::r) x.2
def dZ:(ts:E Ty)->DL ts->E AZ
 |[],_=>[]
 |[t],x=>[t.enc x]
 |t::u::r,x=>t.enc x.1::dZ (u::r) x.2
def one:E TV->TV
 |[v]=>v
 |vs=>.tup vs
def nt:E AZ->AZ
 |[v]=>v
 |vs=>.tup vs
def L7(bt:Ty):(rs:E Ty)->DL (rs++[bt])->DL rs×bt.D
 |[],y=>((),y)
 |[_],y=>(y.1,y.2)
 |_::u::r,y=>((y.1,(L7 bt (u::r) y.2).1),(L7 bt (u::r) y.2).2)
inductive RJ where
 |c2 (f:FuncId) (te:Ty) (ds rs:List Ty) (post:List AZ) (g:List te.D->DL ds->Option (DL (rs++[.list te])))
 |cl (f:FuncId) (t:Ty)
 |cg (f:FuncId) (ds rs:List Ty) (g:DL ds->Option (DL rs))
 |c0 (f:FuncId) (ds rs:List Ty) (g:DL ds->Option (DL rs))
 |c1 (f:FuncId) (pos:Nat) (bt:Ty) (ds rs:List Ty) (g:bt.D->DL ds->Option (DL (rs++[bt])))
def RJ.f:RJ->FuncId
 |.c0 f .. =>f
 |.c1 f .. =>f
 |.c2 f .. =>f
 |.cl f _=>f
 |.cg f .. =>f
def fnB:AZ->AZ->Bool
 |.fn (.func F) [] [],.fn (.func G) [] []=>ξ F G
 |_,_=>η
def AJI{w}(h:fnB v w=ζ):v=w:=by unfold fnB at h;split at h<;>simp_all
def xl:E TV->E AZ->Bool
 |[],[]=>ζ
 |.c (.raw v)::r,w::s=>fnB v w&&xl r s
 |_,_=>η
def AAo:∀{l}{p},xl l p=ζ->l.map TV.enc=p
 |[],[],_=>rfl
 |[],_::_,h=>by simp[xl]at h
 |v::r,[],h=>by cases v<;>simp[xl]at h
 |v::r,w::s,h=>by unfold xl at h;split at h;rename_i e;cases e;rename_i c d;injection c with a1 a2;injection d with a b;subst a1 a2 a b;simp only[BS]at h;rw[Bz,AAo h.2];exact E! (· ::_) (AJI h.1);cases h
def Wp:Nat->AZ->E AZ->E AZ
 |0,v,l=>v::l
 |n+1,v,x::l=>x::Wp n v l
 |_+1,v,[]=>[v]
def RJ.Ok(P:Program):RJ->Prop
 |.c2 f te ds rs post g=>∀l x y,g l x=D y->(L7 (.list te) rs y).2.length=θ l->∀H id,H[id]?=D (.live (θ l) (te.E.cl l))->
  Ei P f (.sl id (θ l) te.sz 0 (θ l)::(dZ ds x++post)) H (C9 (nt (dZ rs (L7 (.list te) rs y).1)) (H.set id (.live (θ l) (te.E.cl (L7 (.list te) rs y).2))))
 |.cl f t=>∀(l:E t.D)(H:Aq),(∀e∈H,e.ok H)->(l=[]->Ei P f [.vs t.sz []] (BC H) (C9 (.vs t.sz []) (BC (H++[.dead]))))/\
  ∀r,l≠ []->app [] l=D r->Ei P f [.vs t.sz (l.map t.enc)] (BC H) (C9 (.sl (θ H) (θ r) t.sz 0 (θ r)) (BC (H++[.buf η t r (θ r) 0])))
 |.c0 f ds rs g=>∀x y,g x=D y->∀H,Ei P f (dZ ds x) H (C9 (nt (dZ rs y)) H)
 |.cg f ds rs g=>∀x y,g x=D y->∀H,Ei P f (dZ ds x) H (C9 (nt (dZ rs y)) H)
 |.c1 f pos bt ds rs g=>∀b x y,g b x=D y->∀H id,H[id]?=D (.live 0 (bt.enc b).cells)->Ei P f (Wp pos (.ptr id 0 0) (dZ ds x)) H (C9 (nt (dZ rs (L7 bt rs y).1)) (H.set id (.live 0 (bt.enc (L7 bt rs y).2).cells)))
def yb:Ty->Bool
 |.bool=>ζ
 |.int _=>ζ
 |.str=>ζ
 |_=>η
def AC7(H:Aq)(t:Ty)(v:TV):Option t.D:=
 match v with
 |.c (.own id ver _ _)=>
  match H[id]? with
  |some (.buf η t' l _ ver')=>
   match ξ ver ver' with
   |true=>if h:(Ty.list t').beq t=ζ then δ (Ty.cast h l)else ε
   |false=>ε
  |_=>ε
 |v=>t.data v
def bF(H:Aq):(ts:E Ty)->E TV->Ω (DL ts)
 |[],[]=>D ()
 |[t],[v]=>AC7 H t v
 |t::u::r,v::vs=>
  match AC7 H t v,bF H (u::r) vs with
  |some x,D y=>D (x,y)
  |_,_=>ε
 |_,_=>ε
section
variable {R:Type}
def ACg(c:RJ)(vs:List TV)(H:Aq)(k:TV->Aq->Option R):Option R:=
 match c with
 | .c0 _ ds rs g=>match inp ds vs with|some x=>(g x).bind λy=>k (one (xy rs y)) H|none=>none
 | .c1 _ pos bt ds rs g=>
  match vs[pos]? with
  |some (.c (.raw (.ptr id 0 0)))=>
   match H[id]? with
   |some (.live false cs)=>
    match bt.all cs,inp ds (vs.take pos++vs.drop (pos+1))with
    |some b,some x=>(g b x).bind λy=>k (one (xy rs (L7 bt rs y).1)) (H.set id (.live false (bt.lvs (L7 bt rs y).2)))
    |_,_=>none
   |_=>none
  |_=>none
 | .c2 _ te ds rs post g=>
  match vs with
  | .c (.own id ver _ _)::r=>
   match H[id]? with
   |some (.buf false t l n' ver')=>
    match Nat.beq ver ver' with
    |true=>
     if h:(Ty.list t).beq (Ty.list te)=true then
      match inp ds (r.take ds.length),xl (r.drop ds.length) post with
      |some x,true=>(g (Ty.cast h l) x).bind λy=>
       cond (Nat.beq (L7 (.list te) rs y).2.length n') (k (one (xy rs (L7 (.list te) rs y).1)) (H.set id (.buf false te (L7 (.list te) rs y).2 n' ver'))) none
      |_,_=>none
     else none
    |false=>none
   |_=>none
  |_=>none
 | .cg _ ds rs g=>match rs.all yb,bF H ds vs with|true,some x=>(g x).bind λy=>k (one (xy rs y)) H|_,_=>none
 | .cl _ t=>
  match vs with
  |[.c (.ls te l)]=>
   if h:(Ty.list te).beq (Ty.list t)=true then
    cond (decide (((l.length:Nat):Int)=0)) (k (.c (.ls t [])) (H++[.dead])) ((app (α:=t.D) [] (Ty.cast h l)).bind λr=>k (.c (.own H.length 0 t r.length)) (H++[.buf false t r r.length 0]))
   else none
  |[.c .nil]=>k (.c (.ls t [])) (H++[.dead])
  |_=>none
def Yq:∀(a:List Ty)(x:DL a),(xy a x).map TV.enc=dZ a x
 |[],_=>rfl
 |[t],x=>by simp only[xy,dZ,Bz,Hz,t.tv_enc]
 |t::u::r,x=>by simp only[xy,dZ,Bz,t.tv_enc,Yq (u::r)]
theorem mg{H:Aq}:∀(b:List Ty)(x:DL b),∀v∈xy b x,v.ok H
 |[],_,v,a=>by simp[xy]at a
 |[t],x,v,a=>by simp only[xy,A7]at a;subst a;exact t.tv_ok x
 |t::u::r,x,v,a=>by simp only[xy,A3]at a;rcases a with rfl|a;exact t.tv_ok _;exact mg (u::r) x.2 v a
def qO(a:E TV):(one a).enc=nt (a.map TV.enc):=by
 match a with
 |[]=>rfl
 |[v]=>rfl
 |v::w::r=>simp only[one,nt,TV.enc,ut,Bz]
def vg(h:∀v∈G,v.ok m):(one G).ok m:=by
 match G,h with
 |[],h=>exact SO h
 |[v],h=>exact h v k!
 |v::w::r,h=>exact SO h
def Zs:∀{a}{b}{x:DL a},inp a b=D x->Dj (b.map TV.enc) (dZ a x)
 |[],[],x,h=>Dj.refl _
 |[t],[v],x,h=>Dj.one (KD h)
 |t::u::r,v::b,x,h=>by simp only[inp]at h;split at h;rename_i y z c d;injection h with h;subst h;exact(Dj.one (KD c)).append (Zs d);cases h
 |[],_::_,x,h=>by simp[inp]at h
 |[t],[],x,h=>by simp[inp]at h
 |[t],_::_::_,x,h=>by simp[inp]at h
 |_::_::_,[],x,h=>by simp[inp]at h
theorem vJ:∀{n:Nat}{a:E AZ}{v:AZ}{b},a[n]?=D v->Dj (a.take n++a.drop (n+1)) b->Dj a (Wp n v b)
 |0,u::a,v,b,h,hl=>by simp at h;subst h;exact(Dj.one (Xu.refl u)).append hl
 |n+1,u::a,v,b,h,hl=>by
  cases b with
  |nil=>have:=hl.1;simp at this
  |cons d b=>
   have c:Xu u d:=by obtain⟨w,j,k⟩:=hl.2 0 d rfl;grind
   have e:Dj (a.take n++a.drop (n+1)) b:=⟨by have:=hl.1;simpa using this,λi g f=>hl.2 (i+1) g f⟩
   exact(Dj.one c).append (vJ h e)
def AHG(c:RJ)(vs:E TV):E Nat:=
 match c with
 |.c0 .. =>[]
 |.c1 _ pos .. =>match vs[pos]? with|some v=>idT v|none=>[]
 |.c2 .. =>match vs[0]? with|some v=>idT v|none=>[]
 |.cl .. =>[]
 |.cg .. =>[]
def ALH(c:RJ)(vs:E TV):E TV:=
 match c with
 |.c2 .. =>vs.drop 1
 |.cg .. =>[]
 |_=>vs
def rQ(hn:θ U=θ g)
  (A:∀X h w,Ig X h q w->∀(j:Nat)(u:AZ),U[j]?=D u->∃l,g[j]?=D l/\Conv (cx X h q w) (cx X h (q.map λ_=>.dead) w) l u)
  (E:∀x y:Cx,Conv x y v v) (h:Ei P z U (q.map λ_=>.dead) (C9 v (q.map λ_=>.dead))):Ei P z g q (C9 v q):=by
 intro X b w f s R hr;have H:∀m B,¬owned m (q.map λ_=>FO.dead) B:=λm B ⟨id,e,a,d,_⟩=>by
  rw[B9]at a;cases k:q[id]? with
  |none=>rw[k]at a;cases a
  |some n=>rw[k]at a;injection a with a;exact d a.symm
 have nd:∀(id:Nat)(e:FO),(q.map λ_=>FO.dead)[id]?=D e->e=.dead:=λid e a=>by
  rw[B9]at a;cases k:q[id]? with
  |none=>rw[k]at a;cases a
  |some n=>rw[k]at a;injection a with a;exact a.symm
 have M:Ig X b (q.map λ_=>FO.dead) w:=by refine⟨λB i=>⟨(s.out B i).1,H b B⟩,λid Q O a=>?_,λid L a=>?_,λid G e n B a _ d=>O! (nd id e a) d,λid e a C=>?_⟩;cases nd id _ a;cases nd id _ a;cases nd id e a;cases C
 refine(h X b w f M o! λj u c t F=>?_).mono ?_;obtain⟨l,I,J⟩:=A X b w s j u t;exact J c (hr j l c I F);rintro e r ⟨c,T,m,N,rfl,⟨rfl,rfl⟩,S,K,x⟩;have o:∀B,B<w.heap.size->r.heap[B]?=w.heap[B]? :=λB i=>x.keep B i (H b B);have p:G3 b q w b q r:=⟨x.os,x.tape,x.output,x.size,λB i _=>o B i,Am _,λ_ _=>Am _,λ_ _ _=>⟨rfl,rfl⟩,λB D_=>.inl D_,x.loops⟩
 exact⟨c,_,b,q,rfl,⟨rfl,rfl⟩,s.of_ext p (λid e a d=>.inl ⟨a,rfl,rfl,rfl,λB i=>o B (s.io_at a d i)⟩) s.inj,E _ _ _ K,p⟩
def vT{x:t.D}(G:p.ok m)(k:∀e∈m,e.ok m)(X:AC7 m t p=D x)(H:Ig C h (BC m) s):
  Conv (cx C h (BC m) s) (cx C h ((BC m).map λ_=>.dead) s) p.enc (t.enc x):=by
 have z:∀B,¬owned h ((BC m).map λ_=>FO.dead) B:=λB ⟨id,e,a,o,_⟩=>by
  rw[B9]at a;cases k:(BC m)[id]? with
  |none=>rw[k]at a;cases a
  |some J=>rw[k]at a;injection a with a;exact o a.symm
 have i:(cx C h (BC m) s).Later (cx C h ((BC m).map λ_=>.dead) s):=⟨Am _,λ_ _ _ _=>rfl,λB _ w=>w.elim .inl λq=>(z B q).elim,by simp[cx],λ_ _=>Am _,λ_ _ _=>⟨rfl,rfl⟩⟩
 unfold AC7 at X;split at X;rename_i id j A y;split at X;rename_i u l I v b;split at X;rename_i F;have f:=DA F;subst f;split at X;rename_i g;have d:=Ty.beq_eq _ _ g;subst d;cases X;have hn:I=θ l:=k _ (BQ b);have hr:Sz m id j A y:=G (.own id j A y) (by simp[TV.refs]);obtain⟨_,q⟩:=hr.2 _ _ _ _ _ b;obtain⟨rfl,rfl⟩:=q rfl;intro c r;have a:(BC m)[id]?=D (.live (θ l) (u.E.cl l)):=by rw[D5,b,<-hn];rfl
 exact Bv.froze H a (AFt u.E l) (BY _) i rfl (λB n w=>w.elim (λq=>(H.out B q).2 ⟨id,_,a,k!,n⟩) (z B)) (show Bv _ (.sl id (θ l) u.sz 0 (θ l)) c from hn▸r);cases X;cases X;cases X;exact λc r=>KD X _ _ (r.later i)
def vU{H:Aq}(b:∀e∈H,e.ok H){X:Nat→Prop}{g:Gh}{w:World}(s:Ig X g (BC H) w):∀{c}{a:E TV}{x:DL c},(∀v∈a,v.ok H)→bF H c a=D x→
  QG (cx X g (BC H) w) (cx X g ((BC H).map λ_=>.dead) w) (a.map TV.enc) (dZ c x)
 |[],[],x,_,h=>⟨rfl,λi l d=>by simp[dZ]at d⟩
 |[t],[v],x,hv,h=>.one (vT (hv v k!) b h s)
 |t::u::r,v::a,x,hv,h=>by simp only[bF]at h;split at h;rename_i y z j k;injection h with h;subst h;exact(QG.one (vT (hv v k!) b j s)).append (vU b s (λw f=>hv w (by simp[f])) k);cases h
 |[],_::_,x,_,h=>by simp[bF]at h
 |[t],[],x,_,h=>by simp[bF]at h
 |[t],_::_::_,x,_,h=>by simp[bF]at h
 |_::_::_,[],x,_,h=>by simp[bF]at h
def xT{H:Aq}:∀{a}{b}{x:DL a},bF H a b=D x->(dZ a x).length=(b.map TV.enc).length
 |[],[],x,h=>rfl
 |[t],[v],x,h=>rfl
 |t::u::r,v::b,x,h=>by simp only[bF]at h;split at h;rename_i y z d c;injection h with h;subst h;simpa[dZ]using xT c;cases h
 |[],_::_,x,h=>by simp[bF]at h
 |[t],[],x,h=>by simp[bF]at h
 |[t],_::_::_,x,h=>by simp[bF]at h
 |_::_::_,[],x,h=>by simp[bF]at h
def so(h:yb t=ζ)(x:t.D)(a b:Cx):Conv a b (t.enc x) (t.enc x):=by
 cases t with
 |bool=>intro c r;cases r;exact .bool _
 |int k=>intro c r;cases r;exact .int _ _
 |str=>intro c r;cases r with|str t h=>exact .str t h
 |_=>cases h
def qG{a b:Cx}:∀{rs}(_:rs.all yb=ζ)y,QG a b (dZ rs y) (dZ rs y)
 |[],_,_=>⟨rfl,λi d c=>by simp[dZ]at c⟩
 |[t],h,y=>.one (so (by simpa using h) y a b)
 |t::u::r,h,y=>by simp only[mn,BS]at h;exact(QG.one (so h.1 y.1 a b)).append (qG (rs:=u::r) (by simp[h.2]) y.2)
def AD2(h:QG y k g g):Conv y k (nt g) (nt g):=by
 match g,h with
 |[],h=>exact h.tup
 |[v],h=>obtain⟨u,c,d⟩:=h.2 0 v rfl;injection c with c;subst c;exact d
 |_::_::_,h=>exact h.tup
theorem zu{P:Program}{c:RJ}(hc:c.Ok P){vs:List TV}{H:Aq}{k:TV→Aq→Option R}{r:R}(hv: ∀v∈vs,v.ok H)(G: ∀e∈H,e.ok H)(h:ACg c vs H k=some r):
  ∃v Y,Ei P c.f (vs.map TV.enc) (BC H) (C9 v.enc (BC Y))/\k v Y=some r/\v.ok Y/\(∀e∈Y,e.ok Y)/\CL H Y/\Frame (AHG c vs) H Y:=by
 unfold ACg at h;split at h
 ·rename_i f N C g;split at h
  ·rename_i x U;obtain⟨y,V,h⟩:=DR.1 h;refine⟨_,H,?_,h,vg (mg C y),G,CL.refl H,Frame.refl _ _⟩;rw[qO,Yq];have S:=Zs U;refine Ei.before (args2:=dZ N x) (H2:=BC H) S.1 (λX g0 w s=>⟨⟨rfl,λj e' p=>?_⟩,λj v' p=>?_⟩) (hc x y V _)
   ·cases e' with
    |dead=>exact .inl rfl
    |live g1 O=>exact .inr (.inl ⟨g1,O,O,p,rfl,rfl,λi v hi=>⟨v,hi,λ_ r=>r⟩⟩)
    |_=>exact .inr (.inr ⟨p,by simp⟩)
   ·obtain⟨v,q1,q2⟩:=S.2 j v' p;exact⟨v,q1,λd rr=>q2 _ _ rr⟩
  ·cases h
 ·rename_i f pos M N C g;split at h
  ·rename_i id hp;split at h
   ·rename_i cs z;split at h
    ·rename_i b x hb U;obtain⟨y,V,h⟩:=DR.1 h;have K:CL H (H.set id (.live false (M.lvs (L7 M C y).2))):=CL.set z rfl λ_ _ _ _ _ h=>by cases h
     refine⟨_,_,?_,h,vg (mg C _),SP K G (M.lvs_ok _),K,Frame.set (by simp only[AHG,hp];exact A7.2 rfl)⟩;rw[qO,Yq,Lg];have I:id<(BC H).length:=by rw[CT];exact HB z
     have S:=Zs U;have ap:=Fl hb;have m:Dj (vs.map TV.enc) (Wp pos (.ptr id 0 0) (dZ N x)):=by refine vJ ?_ (by rw[<-List.map_take,<-oN,<-Gt];exact S);rw[B9,hp];rfl
     have n:=hc b x y V ((BC H).set id (.live 0 (M.enc b).cells)) id (by rw[GY I]);rw[Y8]at n;have e1:(Dp.live false (M.lvs (L7 M C y).2)).enc= .live 0 (M.enc (L7 M C y).2).cells:=by simp only[Dp.enc,M.lvs_enc]
     rw[e1];refine Ei.before m.1 (λX g0 w s=>?_) n;have ag:BC H=(BC H).set id (.live 0 (lvs cs)):=by
      have:(BC H)[id]? =some (.live 0 (lvs cs)):=by rw[D5,z];rfl
      apply JN;intro j;by_cases J:j=id
      ·subst J;rw[GY I,this]
      ·rw[DT (λe=>J e.symm)]
     have ao:(cx X g0 (BC H) w).Later (cx X g0 ((BC H).set id (.live 0 (M.enc b).cells)) w):=by
      refine jd (by simp) λj e p ar=>?_;by_cases J:j=id
      ·subst J;exact⟨.live 0 (lvs cs),by rw[D5,z];rfl,by simp⟩
      ·rw[DT (λe=>J e.symm)]at p;exact⟨e,p,ar⟩
     refine⟨T4.set_less I ag rfl ap ao,λj v' p=>?_⟩;obtain⟨v,q1,q2⟩:=m.2 j v' p;exact⟨v,q1,λd rr=>q2 _ _ (rr.later ao)⟩
    ·cases h
   ·cases h
  ·cases h
 ·rename_i f te N C W g;split at h
  ·rename_i id F t0 n0 r0;split at h
   ·rename_i t l n' ax z;split at h
    ·rename_i hb;have al:=DA hb;subst al;split at h
     ·rename_i L;have o:=Ty.beq_eq _ _ L;injection o with o;subst o;split at h
      ·rename_i x U hp;obtain⟨y,V,h⟩:=DR.1 h;have B:(Ty.cast L l:List t.D)=l:=rfl;rw[B]at V;have hn:n'=l.length:=G _ (BQ z);have hr:Sz H id F t0 n0:=hv _ H4 (.own id F t0 n0) (by simp[TV.refs]);obtain⟨_,q⟩:=hr.2 _ _ _ _ _ z;obtain⟨rfl,rfl⟩:=q rfl;cases Z:Nat.beq (L7 (.list t) C y).2.length n' with
       |false=>rw[Z]at h;cases h
       |true=>
        rw[Z]at h;have T:(L7 (.list t) C y).2.length=n':=DA Z;have K:CL H (H.set id (.buf false t (L7 (.list t) C y).2 n' F)):=CL.set z rfl λ_ _ _ _ _ e=>by cases e;exact⟨_,_,_,_,rfl,.inr ⟨rfl,rfl⟩⟩
        refine⟨_,_,?_,h,vg (mg C _),SP K G T.symm,K,Frame.set (by simp[AHG,idT])⟩;rw[qO,Yq,Lg];have S:=Zs U;have ad:=AAo hp;have m:Dj ((TV.c (.own id F t n')::r0).map TV.enc) (.sl id l.length t.sz 0 l.length::(dZ N x++W)):=by
         rw[Bz,<-Cr N.length r0,Gt,ad];have e1:(TV.c (.own id F t n')).enc= .sl id l.length t.sz 0 l.length:=by rw[<-hn];rfl
         rw[e1];rw[<-oQ];rw[<-oQ (l:=dZ N x++W)];exact(Dj.refl _).append (S.append (Dj.refl _))
        have n:=hc l x y V (by rw[T,hn]) (BC H) id (by rw[D5,z,<-hn];rfl);have e2:(Dp.buf false t (L7 (.list t) C y).2 n' F).enc= .live l.length (t.E.cl (L7 (.list t) C y).2):=by rw[<-hn];rfl
        rw[e2];refine Ei.before m.1 (λX g0 w s=>⟨⟨rfl,λj e' p=>?_⟩,λj v' p=>?_⟩) n
        ·cases e' with
         |dead=>exact .inl rfl
         |live g1 O=>exact .inr (.inl ⟨g1,O,O,p,rfl,rfl,λi v hi=>⟨v,hi,λ_ r=>r⟩⟩)
         |_=>exact .inr (.inr ⟨p,by simp⟩)
        ·obtain⟨v,q1,q2⟩:=m.2 j v' p;exact⟨v,q1,λd rr=>q2 _ _ rr⟩
      ·cases h
     ·cases h
    ·cases h
   ·cases h
  ·cases h
 ·rename_i f N C g;split at h
  ·rename_i x hg U;obtain⟨y,V,h⟩:=DR.1 h;refine⟨_,H,?_,h,vg (mg C y),G,CL.refl H,Frame.refl _ _⟩;rw[qO,Yq];have S:(dZ N x).length=(vs.map TV.enc).length:=xT U;exact rQ S (λX g0 w s j u p=>(vU G s hv U).2 j u p) (λa b=>AD2 (qG hg y)) (hc x y V _)
  ·cases h
 ·rename_i f t;have same: ∀{args A:List AZ} {Q:AZ->As->Prop},Dj args A->Ei P f A (BC H) Q->Ei P f args (BC H) Q:=λm n=>by
   refine Ei.before m.1 (λX g0 w s=>⟨⟨rfl,λj e' p=>?_⟩,λj v' p=>?_⟩) n
   ·cases e' with
    |dead=>exact .inl rfl
    |live g1 O=>exact .inr (.inl ⟨g1,O,O,p,rfl,rfl,λi v hi=>⟨v,hi,λ_ r=>r⟩⟩)
    |_=>exact .inr (.inr ⟨p,by simp⟩)
   ·obtain⟨v,q1,q2⟩:=m.2 j v' p;exact⟨v,q1,λd rr=>q2 _ _ rr⟩
  split at h
  ·rename_i te l;split at h
   ·rename_i L;have o:=Ty.beq_eq _ _ L;injection o with o;subst o;have B:(Ty.cast L l:List te.D)=l:=rfl;rw[B]at h;cases hz:decide (((l.length:Nat):Int)=0)with
    |true=>
     rw[hz]at h;have h0:l=[]:=by
      have:((l.length:Nat):Int)=0:=by simpa using hz
      exact EX (by omega)
     subst h0;refine⟨TV.c (Bu.ls te []),H++[Dp.dead],?_,h,J2 trivial,Qd G trivial,CL.push _ _,Frame.push _ _ _⟩;exact(hc [] H G).1 rfl
    |false=>
     rw[hz]at h;have h0:l≠ []:=by rintro rfl;simp at hz
     obtain⟨r,hr,h⟩:=DR.1 h;have e:Dp.ok (H++[.buf false te r r.length 0]) (.buf false te r r.length 0):=rfl;have q:=(hc l H G).2 r h0 hr;refine⟨TV.c (Bu.own H.length 0 te r.length),H++[Dp.buf false te r r.length 0],?_,h,vi,Qd G e,CL.push _ _,Frame.push _ _ _⟩;exact q
   ·cases h
  ·refine⟨TV.c (Bu.ls t []),H++[Dp.dead],?_,h,J2 trivial,Qd G trivial,CL.push _ _,Frame.push _ _ _⟩;exact same (Dj.one (Xu.nil t.sz_pos)) ((hc [] H G).1 rfl)
  ·cases h
end
section
variable {P:Program}{N:Nat}{o:Oper}{env:Env}{H:As}{K:AZ->As->Prop}
def u6{e:TypeId}{sz:Nat}{rows:Ψ AZ}(n:o.op=.binOp .eql b d (.const (.slice ε 0 0)) I)(E:P.underlying b=D (.slice e))(F:BN env d=.vs sz rows)
  (C:∀x,(rows≠ []->x=η)->K (.bool x) H):Jn P N o env H K:=by
 apply C6 (by rw[n];rfl);intro X h a w s Q;have l:=Di s.env d;rw[F]at l;generalize i:a.eval d=cx0 at l;cases l with
 | @vs sz rows c cap f m D_ p z J=>
  have k:=run_underlying E w;have g:(execOp a.eval o).run P w=.ok (.value (.bool c.isNone)) w:=by
   unfold execOp;rw[n];have r:a.eval (.const (.slice ε 0 0))=.slice ε 0 0:=rfl;have u:(eqGuard .eql b d (.const (.slice ε 0 0)) (.slice c (θ rows) cap) (.slice ε 0 0)).run P w=.ok () w:=by unfold eqGuard;simp
   have v:(Op.equal b (.slice c (θ rows) cap) (.slice ε 0 0)).run P w=.ok c.isNone w:=by
    have y:∃t,Op.maxDepth=t+1:=⟨9999,rfl⟩
    obtain⟨t,A⟩:=y;unfold Op.equal;rw[A];cases c<;>simp[Op.equalIn,k]
   simp only[i,r,Sem.run_bind,u,Result.andThen_ok,binOp,v,Sem.run_pure]
  unfold Oper.wp;rw[g,Oper.upon_value];refine⟨_,_,h,H,rfl,C c.isNone (λj=>?_),.bool _,s.sim,G3.refl _ _ _⟩;obtain⟨B,G,q,_⟩:=z j;rw[q];rfl
theorem Jn.clear{t e:TypeId}{x:Operand}{id g l n sz:Nat}{O z:List AZ}(ho:o.op= .call {callee:=.builtin .clear,args:= #[x],argTypes:= #[t]})(hd:o.dst=none)(he:eI P t=some (none,e,sz))(b0:S9 P e=true)(hz:Z0 P e=some z)(Z:z.length=sz)
  (hx:BN env x= .sl id g sz l n) (F:H[id]? =some (FO.live g O)) (a5:l+n*sz<=O.length) (hk:K (.tup []) (H.set id (.live g (Xn O l (List.replicate n z).flatten)))):Jn P N o env H K:=by
 refine C6 (by rw[ho];rfl) ?_;intro X h a w s Q;obtain⟨b2,b,hi⟩:=Rf he;obtain⟨i,zv,v,b5,bb,b3⟩:=VI b0;have a3:=nU hi v;obtain⟨i',y,a1,a9,a7⟩:=gQ (cx X h H w) hz;have:i'=i:=by rw[v]at a1;exact(BL a1).symm
 subst this;have:y=zv:=by rw[bb]at a9;exact(BL a9).symm
 subst this;have A:y.cells.size=sz:=by rw[b3,a3]
 have rx:=Di s.env x;rw[hx]at rx;have S:=run_underlying b2 w;have V:(List.replicate n z).flatten.length=n*sz:=by simp[Z]
 obtain⟨ax,ap⟩:=s.sim.live id g O F;have b1: ∃ad cap,a.eval x= .slice ad n cap/\(n≠0-> ∃B,h.io id=some B/\ad=some ⟨B,l,none⟩):=by
  generalize a.eval x=c at rx;cases rx with
  |sl h1 h2 h3 hc=>
   rcases hc ax with⟨_,U,_,q4⟩|⟨B,cap,C,_,_,q4⟩
   ·exact⟨none,0,by rw[q4,U],λbN=>(bN U).elim⟩
   ·exact⟨_,cap,q4,λ_=>⟨B,C,rfl⟩⟩
 obtain⟨ad,cap,al,bl⟩:=b1;have a2:id<H.length:=by
  rcases Aw id H.length with h2|h2
  ·exact h2
  ·rw[Cn h2]at F;cases F
 by_cases hn:n=0
 ·subst hn;have G:(execOp a.eval o).run P w= .ok (.value (.tuple #[])) w:=by unfold execOp;rw[ho];simp only[resolve,invoke,builtin,Sem.run_bind,Sem.run_pure,Result.andThen_ok,RU,Bz,Hz,al,Builtin.clear_];simp[S];cases ad<;>simp
  unfold Oper.wp;rw[G,Oper.upon_value];have e1:H.set id (.live g (Xn O l (List.replicate 0 z).flatten))=H:=by
   have:Xn O l (List.replicate 0 z).flatten=O:=by simp[Xn]
   rw[this];apply JN;intro j;by_cases a4:j=id
   ·subst a4;rw[GY a2,F]
   ·rw[DT λe=>a4 e.symm]
  rw[e1]at hk;exact⟨_,_,h,H,rfl,hk,.tup rfl λ_ _ _ h=>by (cases h),s.sim,G3.refl _ _ _⟩
 ·obtain⟨B,L,rfl⟩:=bl hn;rcases ap with⟨a6,_⟩|⟨B',ag,T,fz,f,R,hb,ao,b4,ar,J⟩
  ·rw[show(cx X h H w).io id=h.io id from rfl,L]at a6;cases a6
  rw[show(cx X h H w).io id=h.io id from rfl,L]at R;injection R with e0;subst e0;have Y:(Builtin.zeroCells y.cells n).size=n*sz:=by rw[Z1,A]
  have I: ∀j,j<n*sz-> ∃d u,(Builtin.zeroCells y.cells n)[j]? =some d/\(List.replicate n z).flatten[j]? =some u/\d.oneCell'=true/\Bv (cx X h H w) u d:=by
   intro j r;have a8:0<sz:=by
    rcases Wv sz with q|q
    ·subst q;simp at r
    ·exact q
   have hm:j%sz<y.cells.size:=by rw[A];exact ZB _ a8
   have E:y.cells[j%sz]? =some (y.cells[j%sz]'hm):=Oe hm;have a0: ∀(m j:Nat),j<m*sz->(List.replicate m z).flatten[j]? =z[j%sz]? :=by
    intro m;induction m with
    |zero=>intro j r;omega
    |succ m ih=>
     intro j r;rw[oP,qw];rcases Aw j sz with bz|bm
     ·rw[CW (by omega),Ww bz]
     ·rw[Cm (by omega),Z,ih (j-sz) (by rw[ED]at r;omega),<-Nat.mod_eq_sub_mod bm]
   have a':z[j%sz]? =some (z[j%sz]'(by rw[Z];exact ZB _ a8)):=Ar _;have W:(Builtin.zeroCells y.cells n)[j]? =some (y.cells[j%sz]'hm):=by
    unfold Builtin.zeroCells;rw[dX,Array.getElem?_range,if_pos (by rw[A];exact r)];have bG:j%y.cells.size<y.cells.size:=by rw[A];rw[A]at hm;exact hm
    rw[Br,getElem!_pos y.cells _ bG];simp only[A]
   cases a7 with
   |agg C U q3=>exact⟨_,_,W,by rw[a0 n j r,a'],U _ _ E,q3 _ _ _ a' E⟩
  obtain⟨w',M,p1,p2,p3,p4,p5,p6,p7,p8,p9⟩:=WF (P:=P) (off:=l) (Builtin.zeroCells y.cells n).toList 0 ag w hb (by simp[Y];omega) ar (λd hd=>by
   obtain⟨j,r⟩:=Cu hd;have bt:j<n*sz:=by rw[<-Y];have:=(F8.1 r).1;simpa using this
   obtain⟨d',u,C,_,q3,_⟩:=I j bt;rw[Qe]at r;rw[r]at C;injection C with C;rw[C];exact q3)
  have G:(execOp a.eval o).run P w= .ok (.value (.tuple #[])) w':=by
   unfold execOp;rw[ho];simp only[resolve,invoke,builtin,Sem.run_bind,Sem.run_pure,Result.andThen_ok,RU,Bz,Hz,al,Builtin.clear_];have b6: ∀(α:Type) (p q:α),(match n with|0=>p|_+1=>q)=q:=by
    intro α p q;cases n with
    |zero=>exact(hn rfl).elim
    |succ m=>rfl
   obtain⟨m,rfl⟩: ∃m,n=m+1:=⟨n-1,by omega⟩
   simp[S,zeroValue,typeInfo,v,bb];rw[p1];rfl
  have hh:Holds (cx X h H w) (Xn O l (List.replicate n z).flatten) M fz:=by
   refine⟨λj=>if l<=j/\j<l+n*sz then(Builtin.zeroCells y.cells n).getD (j-l) undef else f j,by rw[ma (by rw[V];exact a5)];omega,by rw[p3];exact ar,λj u r=>?_⟩;rw[vz (by rw[V];exact a5),V]at r;rw[p4];simp only[Lc,Dq,Y,Qe];split at r
   ·rename_i D_;rw[if_pos D_,if_pos D_];obtain⟨d,u',C,U,q3,q4⟩:=I (j-l) (by omega);rw[U]at r;injection r with r;subst r;have e:(Builtin.zeroCells y.cells n).getD (j-l) undef=d:=by rw[Ra,C];rfl
    rw[e];exact⟨C,q3,q4⟩
   ·rename_i D_;rw[if_neg D_,if_neg D_];exact J j u r
  obtain⟨C,U⟩:=s.sim.upd (g':=g) (B:=B) (arr:=M) (T:=T) (fz:=fz) (w':=w') F (Am _) (λ_=>⟨L,by rw[p3];exact ao.symm⟩) (.inl L) p2 (λk _ hk=>p5 k hk) p6 p7 p8 (by rw[p9];exact Am _) hh;unfold Oper.wp;rw[G,Oper.upon_value];exact⟨_,_,_,_,rfl,hk,.tup rfl λ_ _ _ h=>by (cases h),C,U⟩
def tV(k:o.op=.call {callee:=.builtin .clear,args:= #[d],argTypes:= #[b]})(m:P.underlying b=D (.slice I))
  (x:BN env d=.vs n []) (l:K (.tup []) H):Jn P N o env H K:=by
 apply C6 (by rw[k];rfl);intro X h a w s Q;have j:=Di s.env d;rw[x]at j;have t:=run_underlying m w;have i:∃f cap,a.eval d=.slice f 0 cap:=by
  generalize a.eval d=c at j;cases j with
  |vs=>exact⟨_,_,rfl⟩
 obtain⟨f,cap,g⟩:=i;have e:(execOp a.eval o).run P w=.ok (.value (.tuple #[])) w:=by unfold execOp;rw[k];simp only[resolve,invoke,builtin,Sem.run_bind,Sem.run_pure,Result.andThen_ok,RU,Bz,Hz,g,Builtin.clear_];simp[t];cases f<;>simp
 unfold Oper.wp;rw[e,Oper.upon_value];exact⟨_,_,h,H,rfl,l,.tup rfl λ_ _ _ h=>by (cases h),s.sim,G3.refl _ _ _⟩
end
def Xv(P:Program)(N:Nat)(ops:Array Oper):E Oper->Env->As->(Env->As->Prop)->Prop
 |[],env,H,Q=>∃env1 H1,FN N (θ H) env H env1 H1/\Q env1 H1
 |o::rest,env,H,Q=>∃env1 H1,FN N (θ H) env H env1 H1/\
  Y5 ops o.guard env1 (Jn P N o env1 H1 λv H'=>Xv P N ops rest (env1.putO o.dst v) H' Q) (Xv P N ops rest (env1.putO o.dst (.tup [])) H1 Q)
def Xv.weak{N}{Q:Env->As->Prop}{env1}{H e:As}(w:FN N (θ H) A H env1 e):∀{os},Xv P N a os env1 e Q->Xv P N a os A H Q
 |[],h=>by obtain⟨c,b,d,q⟩:=h;exact⟨c,b,w.trans (d.of_le w.1),q⟩
 |o::os,h=>by obtain⟨c,b,d,q⟩:=h;exact⟨c,b,w.trans (d.of_le w.1),q⟩
theorem u7{j:Exit→Act→World→Prop}{Q:Env→As→Prop}:
  ∀(l:Ψ Nat)(os:Ψ Oper),l.map (a[·]?)=os.map D->∀env H h r w,Ps N os=ζ->Xv P N a os env H Q->St C h N env H r w->(∀f n y u q,Q f n->St C y N f n u q->G3 h H w y n q->u.defers=r.defers->j .normal u q)->wpOpsIn (FR Z) 0 P a j l r w:=by
 intro l;induction l with
 |nil=>
  intro os d env H h r w _ hr s z;have:os=[]:=t!
  subst this;obtain⟨env1,A,b,hr⟩:=hr;obtain⟨x,e,E,d⟩:=b.2 C h r w s;exact z env1 A x r w hr e (FN.ext rfl b.1 E d (G3.refl h H w)) rfl
 |cons i l M=>
  intro os d env H h r w U hr s z;match os,d with
  |o::os,d=>
   simp at d;obtain⟨R,m⟩:=d;simp only[wpOpsIn,R];have g:∀t,o.dst=D t->t<r.tmps.size:=by intro t X;simp only[Ps]at U;rw[s.size];grind
   have p:Ps N os=ζ:=by simp_all[Ps]
   obtain⟨env1,A,b,hr⟩:=hr;obtain⟨x,e,E,d⟩:=b.2 C h r w s;have O:=FN.ext rfl b.1 E d (G3.refl h H w);rcases AAO e.env hr with⟨K,S⟩|⟨K,T⟩;rw[C! K];refine Oper.wpIn_mono ?_ (S Z C x r w e j);rintro u q ⟨c,v,y,n,rfl,k,Y,W,L⟩;have V:=L.later C;apply M os m _ n y _ q p k ⟨W,PW.putO (e.env.later V) g Y,(gI _ _ _).trans e.size⟩;intro env2 B m a2 I F G J D_;exact z env2 B m a2 I F G (O.trans (L.trans J)) (D_.trans (by cases o.dst<;>rfl));rw[D! q!];refine⟨λ_ _=>P!,M os m _ A x _ w p T ⟨e.sim,PW.putO e.env g (.tup rfl λ_ _ _ h=>by cases h),(gI _ _ _).trans e.size⟩ ?_⟩;intro env2 B m a2 I F G J D_;exact z env2 B m a2 I F G (O.trans J) (D_.trans (by cases o.dst<;>rfl))
theorem Fk{N}{H}{id:Nat}{b:Array Oper}(i:Ps N b.toList=ζ)(h:Xv P N b b.toList A H (Q .normal)):J0 P N (.region id b η) A H Q:=by intro r X g a w s _;refine wpIn_region (u7 (List.range b.size) b.toList ?_ A H g a w i h s ?_);apply JN;grind;intro c d f l m q j k e;exact⟨f,c,d,q,j,k,.same e⟩
open Go.MapKept (IsKey)
def Qw{α:Type}(n:Int)(v:α):E (Int×α)->E (Int×α)
 |[]=>[(n,v)]
 |p::r=>bif p.1==n then(n,v)::r else p::Qw n v r
def L3{α:Type}(n:Int):E (Int×α)->Ω α
 |[]=>ε
 |p::r=>bif p.1==n then D p.2 else L3 n r
def AAg{a c:Type}(f:a->c)(n:Int)(v:a):∀b:E (Int×a),(Qw n v b).map (λp=>(p.1,f p.2))=Qw n (f v) (b.map λp=>(p.1,f p.2))
 |[]=>rfl
 |p::r=>by simp only[Qw,Bz];cases p.1==n<;>simp[AAg f n v r]
def vd{b c:Type}(f:b->c)(n:Int):∀a:E (Int×b),L3 n (a.map λp=>(p.1,f p.2))=(L3 n a).map f
 |[]=>rfl
 |p::r=>by simp only[L3,Bz];cases p.1==n<;>simp[vd f n r]
section
variable {X:Nat->Prop}{h:Gh}{H:As}{w:World}
def Ig.of_extM{a:Gh}(c:Ig X h H w)(k:G3 h H w a q s)
  (key:∀(id:Nat)(e:FO),q[id]?=D e->e≠.dead->(H[id]?=D e/\a.gen id=h.gen id/\a.io id=h.io id/\a.cap id=h.cap id/\∀B,h.io id=D B->s.heap[B]?=w.heap[B]?)\/(e.isB=ζ/\BAt a s id e))
  (inj:∀(id b:Nat)(e g:FO)(B:Nat),q[id]?=D e->q[b]?=D g->e≠.dead->g≠.dead->a.io id=D B->a.io b=D B->id=b):Ig X a q s:=
 c.of_ext' k (λi e j f=>(key i e j f).imp id λh=>.inr (.inr h)) inj
theorem Ig.push_m(s:Ig X h H w)(o:Obj)(cap:Nat)(E:FO)(u:E.isB=ζ)
  (t:BAt (h.at_ (θ H) (D w.heap.size) 0 cap) {w with heap:=w.heap.push o} (θ H) E):
  Ig X (h.at_ (θ H) (D w.heap.size) 0 cap) (H++[E]) {w with heap:=w.heap.push o}:=by
 refine s.of_extM (G3.push o cap E) (λid e d g=>?_) λid q e r B m n b c k l=>?_;rcases JK d with⟨a,d⟩|⟨rfl,rfl⟩;refine .inl ⟨d,by simp[Gh.at_,Bj a],by simp[Gh.at_,Bj a],by simp[Gh.at_,Bj a],λB f=>?_⟩;have:=s.io_at d g f;grind;grind;rcases JK m with⟨l1,i⟩|⟨rfl,_⟩<;>rcases JK n with⟨l2,j⟩|⟨rfl,_⟩;exact s.inj _ _ _ _ B i j b c (by simpa[Gh.at_,Bj l1]using k) (by simpa[Gh.at_,Bj l2]using l);have p:=s.io_at i b (by simpa[Gh.at_,Bj l1]using k);grind[Gh.at_];have p:=s.io_at j c (by simpa[Gh.at_,Bj l2]using l);grind[Gh.at_];rfl
def Ig.setM(s:Ig X h H w){E E':FO}{o o':Obj}{w':World}(g:H[N]?=D E)(J:E.isB=ζ)(v:E'.isB=ζ)(m:h.io N=D n)(K:w.heap[n]?=D o)(A:∀r,o≠.loop r)
  (G:w'.heap=w.heap.setIfInBounds n o') (C:w'.os=w.os) (B:w'.tape=w.tape) (M:w'.output=w.output) (x:BAt h w' N E'):
  Ig X h (H.set N E') w'/\G3 h H w h (H.set N E') w':=by
 have d:N<θ H:=by rcases Aw N (θ H)with f|f;exact f;rw[Cn f]at g;cases g
 have b:E≠.dead:=by rintro rfl;cases J
 have O:∀k,k≠n->w'.heap[k]?=w.heap[k]? :=λk h=>by rw[G];simp[Pf h]
 have own:∀k,owned h (H.set N E') k->owned h H k:=by rintro k ⟨i,e,j,c,f⟩;rcases Jm d j with⟨y,a⟩|⟨rfl,_⟩;exact⟨i,e,a,c,f⟩;exact⟨i,E,g,b,f⟩
 have I:G3 h H w h (H.set N E') w':=by refine⟨C,B,M,by rw[G];simp,λk _ hn=>O k λe=>hn ⟨N,E,g,b,by rw[e];exact m⟩,k!,λ_ _=>Am _,λ_ _ _=>⟨rfl,rfl⟩,λk O=>.inl (own k O),λk r hr=>⟨r,?_⟩⟩;refine(O k λe=>?_).trans hr;subst e;rw[K]at hr;injection hr with hr;exact A r hr
 refine⟨s.of_extM I (λi e j c=>?_) (λi D_ e F k j f p q t u=>?_),I⟩;rcases Jm d j with⟨y,a⟩|⟨rfl,rfl⟩;refine .inl ⟨a,rfl,rfl,rfl,λk z=>O k λe=>?_⟩;subst e;exact y (s.inj i N _ _ k a g c b z m);exact .inr ⟨v,x⟩;rcases Jm d j with⟨y,a⟩|⟨rfl,rfl⟩<;>rcases Jm d f with⟨L,l⟩|⟨rfl,rfl⟩;exact s.inj i D_ e F k a l p q t u;exact s.inj i D_ e E k a g p b t u;exact s.inj i D_ E F k g l b q t u;rfl
end
def oo{k:IntKind}{n:Int}:∀(l:E MapEntry)(a:E (Int×AZ))i,θ l=θ a→(∀(j:Nat)(p:Int×AZ),a[j]?=D p→ ∃e:MapEntry,l[j]?=D e∧e.key=.int k p.1)→
  (Instr.findNow (.int k) (.int k n) l i=D ε/\L3 n a=ε/\∀v,Qw n v a=a++[(n,v)])\/∃j e p,Instr.findNow (.int k) (.int k n) l i=D (D (i+j,e.val))/\l[j]?=D e/\a[j]?=D p/\e.key=.int k n/\L3 n a=D p.2/\∀v,Qw n v a=a.set j (n,v)
 |[],[],_,_,_=>.inl ⟨rfl,rfl,λ_=>rfl⟩
 |[],_::_,_,hl,_=>by simp at hl
 |_::_,[],_,hl,_=>by simp at hl
 |e::l,p::a,i,hl,h=>by
  obtain⟨z,o,r⟩:=h 0 p rfl;simp only[dT,Ap]at o;subst o;have m:Instr.sameNow (.int k) (.int k n) e.key=D (n==p.1):=by rw[r];simp[Instr.sameNow]
  by_cases hn:p.1=n;refine .inr ⟨0,e,p,?_,rfl,rfl,by rw[r,hn],?_,λv=>?_⟩;simp[Instr.findNow,m,hn];simp[L3,hn];simp[Qw,hn];have c:(n==p.1)=η:=by simp;exact λe=>hn e.symm
  have b:(p.1==n)=η:=by simpa using hn
  rcases oo (k:=k) (n:=n) l a (i+1) (by simpa using hl) (λj q x=>by simpa using h (j+1) q (by simpa using x))with⟨d,f,g⟩|⟨j,s,y,d,f,g,t,u,w⟩;exact .inl ⟨by simp[Instr.findNow,m,c,d],by simp[L3,b,f],λv=>by simp[Qw,b,g]⟩;exact .inr ⟨j+1,s,y,by simp[Instr.findNow,m,c,d];omega,by simpa using f,by simpa using g,t,by simp[L3,b,u],λv=>by simp[Qw,b,w]⟩
section
variable {P:Program}{N:Nat}{o:Oper}{env:Env}{H:As}{K:AZ->As->Prop}
def Jn.makeMap(k:IntKind)(c:o.op=.makeMap b ε)(e:K (.mp (θ H)) (H++[.mp k []])):Jn P N o env H K:=by
 apply C6 (by rw[c];rfl);intro X h a w s Q;have t:(execOp a.eval o).run P w=.ok (.value (.map (D w.heap.size))) {w with heap:=w.heap.push (.map #[] 0)}:=by unfold execOp;rw[c];rfl
 unfold Oper.wp;rw[t,Oper.upon_value];refine⟨_,_,_,_,rfl,e,?_,s.sim.push_m (.map #[] 0) 0 (.mp k []) rfl ⟨w.heap.size, #[],by simp[Gh.at_],by simp[Gh.at_],k!,rfl,λj p d=>by simp at d⟩,G3.push _ _ _⟩;exact .mp (by simp[cx]) rfl λ_=>⟨w.heap.size,by simp[cx,Gh.at_],rfl⟩
def AFl(x:St C h N env H e s)(u:BN env d=.mp n)(r:H[n]?=δ (.mp B V)):
  ∃(w:Nat)(b:Array MapEntry),e.eval d=.map (δ w)/\h.io n=δ w/\h.gen n=0/\s.heap[w]?=δ (.map b b.size)/\b.size=θ V/\∀(j:Nat)(p:Int×AZ),V[j]?=δ p->∃a:MapEntry,b[j]?=δ a/\a.born=j/\a.key=.int B p.1/\∀d,Bv d p.2 a.val:=by
 have g:=Di x.env d;rw[u]at g;obtain⟨w,b,i,l,m,k,o⟩:=x.sim.bld n _ r rfl;generalize e.eval d=c at g;cases g with
 |mp t y q=>obtain⟨v,X,rfl⟩:=q l;rw[show(cx C h H s).io n=h.io n from rfl,i]at X;injection X with X;subst X;exact⟨w,b,rfl,i,l,m,k,o⟩
def AFX(a:St X h N env H e s)(w:BN env d=.int B i):e.eval d=.int B i:=by have b:=Di a.env d;rw[w]at b;generalize e.eval d=c at b;cases b;rfl
theorem Jn.mapUpdate{et:TypeId}{C:Operand}{id:Nat}{k:IntKind}{es:Ψ (Int×AZ)}{n:Int}{v:AZ}(U:o.op=.mapUpdate b d T C)(hm:BN env d=.mp id)(J:BN env T=.int k n)
  (hp:∀x c,Bv x (BN env C) c->∀y,Bv y v c) (V:P.underlying b=D (.map I et)) (l:P.underlying I=D (.int k)) (G:H[id]?=D (.mp k es)) (L:K .any (H.set id (.mp k (Qw n v es)))):Jn P N o env H K:=by
 apply C6 (by rw[U];rfl);intro X h a w s Q;obtain⟨B,m,Y,D_,Z,u,q5,q6⟩:=AFl s hm G;have qk:=AFX s J;have rv:=hp _ _ (Di s.env C);generalize z:a.eval C=c at rv;have ag:id<θ H:=q!
 have f:IsKey (.int k) (.int k n):=rfl;have q:B<w.heap.size:=(dU.1 u).1;have A:execOp a.eval o=(do Instr.mapUpdate b (a.eval d) (a.eval T) (a.eval C);pure .skip):=by unfold execOp;rw[U]
 rcases oo (n:=n) (k:=k) m.toList es 0 q! (λj p t=>by obtain⟨e,e1,_,E,_⟩:=q6 j p t;exact⟨e,q!,E⟩)with⟨F,R,S⟩|⟨j,e0,p0,F,R,S,h4,h5,h6⟩;have g:(execOp a.eval o).run P w=.ok .skip {w with heap:=w.heap.setIfInBounds B (.map (m.push {key:=.int k n,val:=c,born:=m.size}) (m.size+1))}:=by rw[A,Y,qk,z];simp[Instr.mapUpdate,run_underlying V,MapKept.run_getObj_map u,MapKept.run_checkKey l f,MapKept.run_findKey l F,MapKept.run_setObj_map _ u]
 unfold Oper.wp;rw[g,Oper.upon_skip];obtain⟨M,O⟩:=s.sim.setM (E':=.mp k (Qw n v es)) (o':=.map (m.push {key:=.int k n,val:=c,born:=m.size}) (m.size+1))
  (w':={w with heap:=w.heap.setIfInBounds B (.map (m.push {key:=.int k n,val:=c,born:=m.size}) (m.size+1))}) G rfl rfl D_ u (λr e=>by cases e) rfl rfl rfl rfl (by refine⟨B,m.push {key:=.int k n,val:=c,born:=m.size},D_,Z,by simp[q],q!,λj p t=>?_⟩;rw[S]at t;rcases RY j (θ es)with ap|rfl|ad;grind;rw[Cm (Am _),Gw]at t;simp only[dT,Ap]at t;subst t;exact⟨{key:=.int k n,val:=c,born:=m.size},q!,q5,rfl,rv⟩;rw[Cn w!]at t;cases t)
 exact⟨_,_,_,_,rfl,L,.any _,M,O⟩;have t:m[j]?=D e0:=by simpa using R
 have ao:j<m.size:=(dU.1 t).1;have g:(execOp a.eval o).run P w=.ok .skip {w with heap:=w.heap.setIfInBounds B (.map (m.modify j λe=>{e with key:=.int k n,val:=c}) m.size)}:=by rw[A,Y,qk,z];simp[Instr.mapUpdate,run_underlying V,MapKept.run_getObj_map u,MapKept.run_checkKey l f,MapKept.run_findKey l F,t,h4,MapKept.run_keyThatStays f,MapKept.run_setObj_map _ u]
 unfold Oper.wp;rw[g,Oper.upon_skip];obtain⟨M,O⟩:=s.sim.setM (E':=.mp k (Qw n v es)) (o':=.map (m.modify j λe=>{e with key:=.int k n,val:=c}) m.size)
  (w':={w with heap:=w.heap.setIfInBounds B (.map (m.modify j λe=>{e with key:=.int k n,val:=c}) m.size)}) G rfl rfl D_ u (λr e=>by cases e) rfl rfl rfl rfl (by refine⟨B,m.modify j λe=>{e with key:=.int k n,val:=c},D_,Z,by simp[q],q!,λi p W=>?_⟩;rw[h6,Yv]at W;split at W;grind;rename_i al;obtain⟨e,e1,E⟩:=q6 i p W;exact⟨e,q!,E⟩)
 exact⟨_,_,_,_,rfl,L,.any _,M,O⟩
def ADO(P:Program)(t:TypeId):Ω AZ:=
 match (P.info? t).bind (·.zero)with
 |some (.agg cs)=>if cs.toList.all (·.oneCell')then D (.agg (cs.toList.map se))else ε
 |some (.bool b)=>D (.bool b)
 |_=>ε
theorem AER(h:ADO P b=D v)(w:World):∃t,(zeroValue b).run P w=.ok t w/\∀x,Bv x v t:=by unfold ADO at h;split at h;rename_i d a;split at h;rename_i e;obtain⟨i,c,a⟩:=DR.1 a;refine⟨.agg d,by simp[zeroValue,typeInfo,c,a],λx=>?_⟩;have:=AAB x (.agg d);grind[ADm];cases h;rename_i z a;obtain⟨i,c,a⟩:=DR.1 a;injection h with h;subst h;exact⟨.bool z,by simp[zeroValue,typeInfo,c,a],λx=>.bool z⟩;cases h
theorem Jn.lookup{O:TypeId}{id:Nat}{k:IntKind}{es:Ψ (Int×AZ)}{n:Int}{z:AZ}{g:Bool}(J:o.op=.lookup b d T g)(hm:BN env d=.mp id)(G:BN env T=.int k n)
  (U:P.underlying b=D (.map I O)) (f:P.underlying I=D (.int k)) (hz:ADO P O=D z) (he:H[id]?=D (.mp k es))
  (hk:K (bif g then .tup [(L3 n es).getD z,.bool (L3 n es).isSome]else(L3 n es).getD z) H):Jn P N o env H K:=by
 apply C6 (by rw[J];cases g<;>rfl);intro X h a w s Q;obtain⟨B,q,Y,q2,q3,Z,q5,q6⟩:=AFl s hm he;have qk:=AFX s G;have i:IsKey (.int k) (.int k n):=rfl;have y:execOp a.eval o=(do pure (.value (<-Instr.lookup b (a.eval d) (a.eval T) g))):=by unfold execOp;rw[J]
 have x:∀(c:Value)v m,(execOp a.eval o).run P w=.ok (.value (bif g then .tuple #[c,.bool m]else c)) w→Bv (cx X h H w) v c→K (bif g then .tup [v,.bool m]else v) H→
   Oper.wp P o a w (λa' L=>∃c v E C,a'=a.put o.dst c/\K v C/\Bv (cx X E C L) v c/\Ig X E C L/\G3 h H w E C L) Q:=by
  intro c v m A V hK;unfold Oper.wp;rw[A,Oper.upon_value];refine⟨_,_,h,H,rfl,hK,?_,s.sim,G3.refl _ _ _⟩;cases g;exact V;refine .tup k! λj u t l S=>?_;rcases j with _|_|j;grind;simp at l S;subst l S;exact .bool m;grind
 rcases oo (n:=n) (k:=k) q.toList es 0 q! (λj p l=>by obtain⟨e,r,_,D_,_⟩:=q6 j p l;exact⟨e,q!,D_⟩)with⟨F,h2,R⟩|⟨j,M,W,F,h2,R,h4,h5,h6⟩;obtain⟨v,V,hr⟩:=AER hz w;refine x v z η ?_ (hr _) q!;rw[y,Y,qk];cases g<;>simp[Instr.lookup,run_underlying U,MapKept.run_getObj_map Z,MapKept.run_checkKey f i,MapKept.run_findKey f F,V];obtain⟨e',r,_,_,D_⟩:=q6 j W R;have l:q[j]?=D M:=q!
 rw[l]at r;injection r with r;subst r;refine x M.val W.2 ζ ?_ (D_ _) q!;rw[y,Y,qk];cases g<;>simp[Instr.lookup,run_underlying U,MapKept.run_getObj_map Z,MapKept.run_checkKey f i,MapKept.run_findKey f F]
theorem Jn.range{f:TypeId}{id:Nat}{k:IntKind}{es:E (Int×AZ)}(t:o.op=.range b d)(j:BN env d=.mp id)(l:P.underlying b=D (.map I f))(g:H[id]?=D (.mp k es))
  (i:K (.itp (θ H) id) (H++[.it (θ es) []])):Jn P N o env H K:=by
 apply C6 (by rw[t];rfl);intro X h a w s Q;obtain⟨B,e,p,q,v,r,u,x⟩:=AFl s j g;have c:id<θ H:=q!
 have n:(execOp a.eval o).run P w=.ok (.value (.pointer (D ⟨w.heap.size,0,ε⟩))) {w with heap:=w.heap.push (.mapIter (D B) (θ es) #[] (θ es))}:=by unfold execOp;rw[t];simp only[p];simp[Instr.range,run_underlying l,MapKept.run_getObj_map r,newObj,u];rfl
 unfold Oper.wp;rw[n,Oper.upon_value];refine⟨_,_,_,_,rfl,i,?_,s.sim.push_m (.mapIter (D B) (θ es) #[] (θ es)) B (.it (θ es) []) rfl ⟨w.heap.size,by simp[Gh.at_],by simp[Gh.at_],by simp[Gh.at_]⟩,G3.push _ _ _⟩;exact .itp (by simp[cx]) (by simp[cx];omega) rfl λ_=>⟨w.heap.size,by simp[cx,Gh.at_],rfl,λ_=>by simp[cx,Gh.at_,Bj c,q]⟩
def AIV{id m:Nat}{seen:List Nat}(x:St C h N env H e s)(F:BN env d=.itp id m)(D_:H[id]?=δ (.it n seen))(k:H[m]?=δ (.mp B V)):
  ∃(w f:Nat)(b:Array MapEntry),e.eval d=.pointer (δ ⟨w,0,ε⟩)/\h.io id=δ w/\h.gen id=0/\s.heap[w]?=δ (.mapIter (δ f) n seen.toArray n)/\h.cap id=f/\s.heap[f]?=δ (.map b b.size)/\b.size=θ V/\∀(j:Nat)(p:Int×AZ),V[j]?=δ p->∃a:MapEntry,b[j]?=δ a/\a.born=j/\a.key=.int B p.1/\∀d,Bv d p.2 a.val:=by
 have l:=Di x.env d;rw[F]at l;obtain⟨w,o,q,r⟩:=x.sim.bld id _ D_ rfl;obtain⟨f,b,t,u,v,y,z⟩:=x.sim.bld m _ k rfl;generalize e.eval d=c at l;cases l with
 |itp E J I A=>obtain⟨G,g,rfl,X⟩:=A q;rw[show(cx C h H s).io id=h.io id from rfl,o]at g;injection g with g;subst g;have X:=X u;rw[show(cx C h H s).io m=h.io m from rfl,t]at X;injection X with X;have X:f=h.cap id:=X;subst X;exact⟨w,_,b,rfl,o,q,r,rfl,v,y,z⟩
theorem Jn.next{x:Operand}{id m:Nat}{k:IntKind}{es:List (Int×AZ)}{seen:List Nat}(ho:o.op= .next x false)(hx:BN env x= .itp id m)(f:H[id]? =some (.it es.length seen))(he:H[m]? =some (.mp k es))
  (z:(∀j,j<es.length->j∈seen)->K (.tup [.bool false]) H)
  (C: ∀(j:Nat) (p:Int×AZ),es[j]? =some p->j∉seen->K (.tup [.bool true,.int k p.1,p.2]) (H.set id (.it es.length (seen++[j])))):Jn P N o env H K:=by
 apply C6 (by rw[ho];rfl);intro X h a w s Q;obtain⟨B,v,c,q1,q2,q3,q4,qc,q5,q6,q7⟩:=AIV s hx f he;have ao:execOp a.eval o=(do pure (.value (<-Instr.next (a.eval x) false o.type))):=by unfold execOp;rw[ho]
 have y: ∀(j:Nat) (e:MapEntry),c[j]? =some e->e.born=j/\j<es.length:=by
  intro j e q;have I:j<es.length:=by grind[Array.getElem?_eq_some_iff]
  obtain⟨e',E,T,_⟩:=q7 j _ (Ar I);rw[q]at E;injection E with E;subst E;exact⟨T,I⟩
 have t: ∀e∈c.toList,e.born<es.length:=λe A=>by grind[List.getElem?_of_mem]
 have M:w.heap[B]? =some (.mapIter (some v) es.length seen.toArray es.length):=q4;generalize V:Array.filter (λe:MapEntry=>!seen.toArray.contains e.born) c=L;have G: ∀e∈L.toList,e∈c.toList/\e.born∉seen:=λe A=>by rw[<-V]at A;simpa using A
 have E:L.filter (λx=>decide (x.born<es.length))=L:=Array.filter_eq_self.2 (λx hx=>by simpa using t x (G x (by simpa using hx)).1);have T:L.filter (λx=>decide (x.born>=es.length))= #[]:=by grind[Array.filter_eq_empty_iff]
 have D_:(Instr.next (.pointer (some ⟨B,0,none⟩)) false o.type).run P w=((do
   let b:=(if L.isEmpty then #[none]else #[])++L.map some;match b[<-choose (.mapNext b.size)]? with
   |some (some e)=>
    setObj B (.mapIter (some v) es.length (seen.toArray.push e.born) c.size)
    pure (.tuple #[.bool true,e.key,e.val])
   |some none=>pure (.tuple #[.bool false])
   |none=>stuck "Next: no such candidate"):Sem Value).run P w:=by
  simp only[Instr.next,getObj,Sem.run_bind,Sem.run,M,q5,Result.andThen,next_test_false seen.toArray c es.length es.length t (Am _),Qf,if_false,V,E,T,Array.append_empty];rfl
 by_cases h0:L.size=0;have W:L= #[]:=pE h0;subst W;have g:(execOp a.eval o).run P w= .ok (.value (.tuple #[.bool false])) w:=by simp_all[Sem.run_bind,Sem.run,Question.forced]
 unfold Oper.wp;rw[g,Oper.upon_value];refine⟨_,_,h,H,rfl,z λj q=>?_,.tup k! λi u d f n=>?_,s.sim,G3.refl _ _ _⟩;obtain⟨e,O,R,_⟩:=q7 j _ (Ar q);rcases Classical.em (j∈seen)with U|U;exact U;have:e∈(Array.filter (λe:MapEntry=>!seen.toArray.contains e.born) c).toList:=by have A:e∈c:=wj O;simp[A,R,U]
 rw[V]at this;simp at this;rcases i with _|i;simp at f n;subst f n;exact .bool false;simp at f;have ar:L.isEmpty=false:=by simp[Array.isEmpty,h0]
 obtain⟨i,l,ap,Y,Z,ad,ag,al⟩: ∃(i:Nat) (l:World),i<L.size/\l.heap=w.heap/\l.os=w.os/\l.output=w.output/\l.tape=w.tape/\(choose (Question.mapNext L.size)).run P w= .ok i l:=by by_cases hf:L.size<=1;exact⟨0,w,o!,rfl,rfl,rfl,rfl,by simp[choose,Sem.run,Question.forced,hf]⟩;exact⟨_,w.drew,ZB _ o!,rfl,rfl,rfl,rfl,by simp only[choose,Sem.run,Question.forced,decide_eq_true_eq,hf,if_false,Question.cut];rfl⟩
 have A:L[i]∈L.toList:=k!
 obtain⟨m1,m2⟩:=G _ A;obtain⟨j,q⟩:=Cu m1;have q:c[j]? =some L[i]:=by simpa using q
 obtain⟨O,R⟩:=y j _ q;obtain⟨e,S,c2,c3,c4⟩:=q7 j _ (Ar R);rw[q]at S;injection S with S;subst S;have F:B<w.heap.size:=(dU.1 q4).1;have g:(execOp a.eval o).run P w= .ok (.value (.tuple #[.bool true,.int k es[j].1,L[i].val])) {l with heap:=w.heap.setIfInBounds B (.mapIter (some v) es.length (seen++[j]).toArray es.length)}:=by
  rw[ao,q1,Sem.run_bind,D_];simp only[ar,Qf,if_false,Array.empty_append,Array.size_map,Sem.run_bind,al,Result.andThen_ok,dX,Oe ap,Br];have J:(setObj B (.mapIter (some v) es.length (seen.toArray.push L[i].born) c.size)).run P l= .ok () {l with heap:=w.heap.setIfInBounds B (.mapIter (some v) es.length (seen++[j]).toArray es.length)}:=by simp[setObj,Sem.run,Y,M,O,q6]
  simp only[J,Result.andThen_ok,Sem.run_pure,c3]
 unfold Oper.wp;rw[g,Oper.upon_value];obtain⟨s1,s2⟩:=s.sim.setM (E':=.it es.length (seen++[j])) (o':=.mapIter (some v) es.length (seen++[j]).toArray es.length) (w':={l with heap:=w.heap.setIfInBounds B (.mapIter (some v) es.length (seen++[j]).toArray es.length)}) f rfl rfl q2 q4 (λr e=>by cases e) rfl Z ag ad
  ⟨B,q2,q3,by simp[F,qc]⟩
 refine⟨_,_,_,_,rfl,C j _ (Ar R) (by rw[<-O];exact m2),.tup k! λi u d f n=>?_,s1,s2⟩;rcases i with _|_|_|i;simp at f n;subst f n;exact .bool true;simp at f n;subst f n;exact .int _ _;simp at f n;subst f n;exact c4 _;simp at f
theorem Jn.entry{x:Operand}{id m j:Nat}{k:IntKind}{es:Ψ (Int×AZ)}{seen:Ψ Nat}{p:Int×AZ}(l:o.op=.entry x)(C:BN env x=.itp id m)(f:H[id]?=D (.it (θ es) (seen++[j])))(t:H[m]?=D (.mp k es))
  (y:es[j]?=D p) (z:K (.tup [.int k p.1,p.2]) H):Jn P N o env H K:=by
 apply C6 (by rw[l];rfl);intro X h a w s Q;obtain⟨B,I,b,D_,S,T,E,U,F,G,n⟩:=AIV s C f t;obtain⟨e,J,q,r,L⟩:=n j p y;have v:b.find? (·.born==j)=D e:=by
  rw[<-Array.find?_toList,<-q];refine find_born e b.toList ?_ q!;have R:b.toList.map (·.born)=List.range b.size:=by refine JN λi=>?_;rw[B9,Qe];rcases Aw i b.size with A|A;obtain⟨e,M,O,_⟩:=n i _ (Ar (by omega:i<θ es));grind;grind
  grind
 have c:(execOp a.eval o).run P w=.ok (.value (.tuple #[.int k p.1,e.val])) w:=by unfold execOp;rw[l];simp only[D_];simp[Instr.entry,getObj,Sem.run,E,F,G,v,r]
 unfold Oper.wp;rw[c,Oper.upon_value];refine⟨_,_,h,H,rfl,z,.tup k! λi u d f g=>?_,s.sim,G3.refl _ _ _⟩;rcases i with _|_|i;simp at f g;subst f g;exact .int _ _;grind;grind
end
mutual
def Ty.flat:Ty->Bool
 |.list _=>η
 |.arr _ t=>t.flat
 |.prod ts=>ts.flat
 |_=>ζ
def TA.flat:TA->Bool
 |.one t=>t.flat
 |.cons t ts=>t.flat&&ts.flat
end
def Plain(v:AZ):Prop:=∀x c,Bv x v c->∀y,Bv y v c
theorem Plain.agg{a:E AZ}(h:∀v∈a,Plain v):Plain (.agg a):=λx c r y=>by
 cases r with
 |agg e f i=>exact .agg e f λj v d b g=>h v (BQ b) x d (i j v d b g) y
mutual
theorem Ty.plain_cells:∀(t:Ty),t.flat=ζ->∀x:t.D,∀v∈(t.enc x).cells,Plain v
 |.bool,_,b,v,d=>by simp only[Ty.enc,AZ.cells,A7]at d;subst d;exact λ_ c r y=>by cases r;exact .bool _
 |.int k,_,n,v,d=>by simp only[Ty.enc,AZ.cells,A7]at d;subst d;exact λ_ c r y=>by cases r;exact .int _ _
 |.str,_,s,v,d=>by
  simp only[Ty.enc,AZ.cells,A7]at d;subst d;exact λ_ c r y=>by
   cases r with
   |str t e=>exact .str t e
 |.list t,h,_,_,_=>by cases h
 |.arr n t,h,a,v,d=>by simp only[Ty.enc,AZ.cells,Gu]at d;obtain⟨i,_,d⟩:=d;exact t.plain_cells h _ v d
 |.prod ts,h,x,v,d=>ts.plain_cells h x v d
theorem TA.plain_cells:∀(b:TA),b.flat=ζ->∀x:b.D,∀v∈b.cells x,Plain v
 |.one t,h,x,v,a=>t.plain_cells h x v a
 |.cons t b,h,x,v,a=>by simp only[TA.flat,BS]at h;simp only[TA.cells,Al]at a;rcases a with a|a;exact t.plain_cells h.1 _ v a;exact b.plain_cells h.2 _ v a
end
theorem Ty.plain(t:Ty)(h:t.flat=ζ)(x:t.D):Plain (t.enc x):=by have a:=t.plain_cells h x;cases t<;>grind[Plain.agg,Ty.enc,AZ.cells]
section
variable {R:Type}
def vY(P:Program)(H:Aq)(t:TypeId)(k:TV->Aq->Ω R):Ω R:=
 match P.underlying t with
 |some (.map kt et)=>
  match P.underlying kt,ACR P 1000 et with
  |some (.int kk),D ty=>k (.c (.raw (.mp (θ H)))) (H++[.mp η kk ty []])
  |_,_=>ε
 |_=>ε
def oy(P:Program)(H:Aq)(t:TypeId)(m kx v:TV)(k:TV->Aq->Option R):Option R:=
 match P.underlying t with
 |some (.map kt _)=>
  match m,kx with
  |.c (.raw (.mp id)),.c (.it kk n)=>
   match P.underlying kt,H[id]? with
   |some (.int k1),δ (.mp η k2 ty es)=>
    if k1=kk/\k2=kk then
     match ty.flat with
     |true=>match ty.data v with|some x=>k WL (H.set id (.mp η k2 ty (Qw n x es)))|none=>ε
     |false=>ε
    else ε
   |_,_=>ε
  |_,_=>ε
 |_=>ε
def ym(P:Program)(H:Aq)(t:TypeId)(g:Bool)(m kx:TV)(k:TV->Aq->Option R):Option R:=
 match P.underlying t with
 |some (.map kt et)=>
  match m,kx with
  |.c (.raw (.mp id)),.c (.it kk n)=>
   match P.underlying kt,H[id]?,ADO P et with
   |some (.int k1),δ (.mp _ k2 ty es),δ z=>
    if k1=kk/\k2=kk then
     match AZ.beq z (ty.enc ty.zero)with
     |true=>k (bif g then .tup [ty.tv ((L3 n es).getD ty.zero),.c (.bl (L3 n es).isSome)]else ty.tv ((L3 n es).getD ty.zero)) H
     |false=>ε
    else ε
   |_,_,_=>ε
  |_,_=>ε
 |_=>ε
variable {P:Program}{N:Nat}{o:Oper}{env:Bb}{H:Aq}{k:TV->Aq->Ω R}{r:R}
theorem vZ(ok:Oc env H)(t:o.op=.makeMap b ε)(h:vY P H b k=D r):∀F,oK P N o env H F k r:=by intro F;unfold vY at h;split at h;split at h;rename_i a c _ _;have st:CL H (H++[.mp η a c []]):=CL.push H _;refine⟨_,_,Jn.makeMap a t ⟨?_,?_⟩,h,J2 trivial,Qd ok.heap trivial,st,Frame.push F H _⟩;show AZ.mp (BC H).length=AZ.mp (θ H);rw[CT];rw[SE];rfl;cases h;cases h
def sC{u:Operand}(ok:Oc env H)(E:o.op= .mapUpdate b d T u)(h:oy P H b (Jo env d) (Jo env T) (Jo env u) k=some r):oK P N o env H (List.range H.length) k r:=by
 have m:=MA env;unfold oy at h;split at h;rename_i K I F;split at h;rename_i id J n D C;split at h;rename_i k1 q a t g i;split at h;rename_i f;obtain⟨w,A⟩:=f;subst w A;split at h;rename_i e;split at h;rename_i x G;have st:CL H (H.set id (.mp false q a (Qw n x t))):=CL.set i rfl λ_ _ _ _ _ h=>by cases h
 refine⟨WL,_,Jn.mapUpdate (id:=id) (k:=q) (n:=n) (v:=a.enc x) (es:=t.map λp=>(p.1,a.enc p.2)) E (by rw[m,D];rfl) (by rw[m,C];rfl) (λy c l z=>?_) F g (by rw[D5,i];rfl) ⟨rfl,?_⟩,h,js,SP st ok.heap trivial,st,λj B hn=>(hn (H5.2 B)).elim⟩;rw[m]at l;exact a.plain e x y c (KD G y c l) z;rw[Lg,<-AAg];rfl;cases h;cases h;cases h;cases h;cases h;cases h
theorem wb(ok:Oc env H)(y:o.op=.lookup b d T S)(h:ym P H b S (Jo env d) (Jo env T) k=δ r):∀F,oK P N o env H F k r:=by
 intro F;have i:=MA env;unfold ym at h;split at h;rename_i G D_ A;split at h;rename_i id E n x w;split at h;rename_i k1 ro C c a z f u B;split at h;rename_i t;obtain⟨l,q⟩:=t;subst l q;split at h;rename_i s;have e:(L3 n (a.map λp=>(p.1,c.enc p.2))).getD z=(c.tv ((L3 n a).getD c.zero)).enc:=by rw[vd,beq_eq _ _ s,Ty.tv_enc];cases L3 n a<;>rfl
 refine⟨_,H,Jn.lookup (id:=id) (k:=C) (n:=n) (z:=z) (g:=S) (es:=a.map λp=>(p.1,c.enc p.2)) y (by rw[i,x];rfl) (by rw[i,w];rfl) A f B (by rw[D5,u];rfl) ⟨?_,rfl⟩,h,?_,ok.heap,CL.refl H,Frame.refl F H⟩;rw[e,vd];cases S<;>cases L3 n a<;>rfl;cases S;exact Ty.tv_ok _ _;refine SO λv m=>?_;rcases A3.1 m with rfl|m;exact Ty.tv_ok _ _;simp at m;subst m;exact J2 trivial;cases h;cases h;cases h;cases h;cases h
end
end Go.Ab
