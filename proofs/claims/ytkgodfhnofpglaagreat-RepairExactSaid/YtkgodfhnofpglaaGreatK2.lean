/- Texts of wip, joined and shortened by wip/tools/pack.py; nothing is assumed. -/
import Derived.Test.YtkgodfhnofpglaaGreatK1
import Derived.Laws.MakeOwn
import Derived.RangeFuncNested
import Derived.Lib.ConvBytes
import Derived.Laws.AppendOwn
import Derived.Laws.IdiomRangeMap
noncomputable section
set_option linter.all false
open Option renaming some->D
open Go renaming Ψ->E
open Option renaming some->δ,none->ε
open Bool renaming true->ζ,false->η
open List renaming length->θ,replicate->ς
open Nat renaming beq->ξ
open Decidable renaming decide->τ
namespace Go.Ab
variable {b I H:TypeId}{N n:Nat}{d T:Operand}{g U:List Af}{R e:Type}{P:Program}{q:Ay}{s:World}{c:Code}{i:Int}{u:Array (Nat×Operand)}{z:FuncId}{A:Env}{B:IntKind}{C:Nat→Prop}{v:Af}{h:Gh}{Q:Exit->Env->Ay->Prop}{y k:Cx}{X:Nat->Prop}{L:List UInt8}{o:Oper}{S:Bool}{V:List (Int×Af)}{W:Af→Ay→Prop}{Y:Option Nat}{Z:Array Oper}{a:Act}{r:TypeDesc}{x:Fv}{K:Value}
section
variable {P:Program}{N:Nat}{o:Oper}{env:Env}{H:Ay}{K:Af->Ay->Prop}
theorem qV{c:Call}
  (A:o.op=.call c) (m:c.callee=.value d) (G:BR env d=.fn (.func z) U g) (D_:Enters P z=ζ)
  (E:E8 P z (oi env c U g) H K):Jy P N o env H K:=by
 apply DG (by rw[A];rfl);intro X h a w s Q;have k:=Dy s.env d;rw[G]at k
 obtain⟨b,e,r,t,C,I,J⟩:∃b e,a.eval d=.func (.func z) b e∧b.size=θ U∧e.size=θ g∧
   (∀(j:Nat)(v:Af)(c:Value),U[j]?=D v->b[j]?=D c->B3 (cx X h H w) v c)/\(∀(j:Nat)(v:Af)(c:Value),g[j]?=D v->e[j]?=D c->B3 (cx X h H w) v c):=by
  generalize a.eval d=cf at k;cases k<;>grind
 have q:(execOp a.eval o).run P w=.ok (.enter z (b++c.args.map a.eval++e)) w:=by unfold execOp;rw[A];simp only[resolve,m,r,Deferred.ofValue,Sem.run_bind,Sem.run_pure,Result.andThen_ok,invoke,iz D_]
 unfold Oper.wp;rw[q];simp only[Oper.upon_enter];have i:∀(j:Nat)(v:Af)(F:Value),(oi env c U g)[j]?=D v->(b++c.args.map a.eval++e)[j]?=D F->B3 (cx X h H w) v F:=by
  intro j v F l n;unfold oi at l;rcases A1 j (θ U+c.args.size)with y|u;rw[Cb w!]at l;rw[Yp w!]at n;rcases A1 j (θ U)with f|p
  grind;rw[Cu p,CO]at l;rw[td o!,ck,t]at n;cases B:c.args[j-θ U]? with
  |none=>grind
  |some x=>rw[B]at n;rw[Qb,B]at l;simp only[Bw,Av]at l n;subst l n;exact Dy s.env x
  grind
 refine(E X h w _ s.sim ?_ i).mono ?_;simp[oi,t,C];grind
def Tf(P:Program)(env:Env)(t:TypeId)(len:Nat)(parts:Array (Nat×Operand)):Ω (Nat×E Af):=
 match eI P t with
 |some (ε,e,sz)=>
  let vs:=parts.toList.map λp=>BR env p.2
  if 0<sz/\Sy P e=ζ/\parts.toList.map (·.1)=List.range len/\(vs.all λv=>v.solid&&τ (θ v.cells=sz))=ζ/\len<=4096/\sz<=4096 then D (sz,vs)else ε
 |_=>ε
theorem V8{len sz:Nat}{vs:E Af}(c:o.op=.buildSlice b len u)(d:Tf P env b len u=D (sz,vs))(t:K (.vs sz vs) H):Jy P N o env H K:=by grind[Tf,Jy.buildSlice]
theorem eD{t:TypeId}{len sz:Nat}{f:Array (Nat×Operand)}{T:Ψ Af}(ho:o.op=.buildSlice t len f)(r:Tf P env t len f=D (sz,T))
  (hk:K (.sl (θ H) 0 sz 0 (θ T)) (H++[.live 0 (T.flatMap Af.cells)])):Jy P N o env H K:=by
 unfold Tf at r;split at r
 case h_2=>cases r
 rename_i e y he;simp only at r;split at r
 case isFalse=>cases r
 rename_i L;obtain⟨a6,a4,F,a',O⟩:=L;simp only[Av,Ep]at r;obtain⟨rfl,a9⟩:=r;have ap:∀v∈T,v.solid=ζ/\θ v.cells=y:=λv S=>by grind[List.all_eq_true]
 apply DG (by rw[ho];rfl);intro X h a w s Q;obtain⟨ar,b,hi⟩:=RV he;obtain⟨i,z,G,_,hz,bb⟩:=Uv a4;have B:=mS hi G;have hl:θ T=len:=by have k:=E! θ F;grind[θ]
 let A:Ψ Value:=f.toList.map λp=>a.eval p.2;have V:θ A=len:=by grind[θ]
 have R:∀(j:Nat)(v:Af)(c:Value),T[j]?=D v->A[j]?=D c->B3 (cx X h H w) (.agg v.cells) (.agg c.cells)/\θ v.cells=y:=by
  intro j v c S L;have Z:=ap v (BP S);refine⟨?_,Z.2⟩;subst a9;simp only[A,CO]at S L;cases r:f.toList[j]? with
  |none=>rw[r]at S;cases S
  |some p=>rw[r]at S L;simp only[Bw,Av]at S L;subst S L;exact XT (Dy s.env p.2) Z.1
 have J:∀c∈A,c.cells.size=y:=by
  intro c L;obtain⟨j,g⟩:=Dk L;have Y:j<θ T:=by grind[Nat.lt_or_ge,u?]
  obtain⟨k,n⟩:=R j _ c (Au Y) g;cases k<;>grind
 have ax:(f.map λq=>(q.1,a.eval q.2)).toList=(A.zipIdx 0).map λx=>(x.2,x.1):=by
  apply Jc;intro j;simp only[Array.toList_map,CO,List.getElem?_zipIdx,Dg,A];cases r:f.toList[j]? with
  |none=>rfl
  |some p=>
   have k:(f.toList.map (·.1))[j]?=D p.1:=by rw[CO,r];rfl
   rw[F]at k;have Y:j<len:=by rcases A1 j len with n|n;exact n;rw[Cz (by simpa using n)]at k;cases k
   rw[R1 Y]at k;simp only[Av]at k;simp[k]
 have C:∀l:Ψ Value,(∀c∈l,c.cells.size=y)->(l.flatMap λc=>c.cells.toList).length=θ l*y:=by
  intro l;induction l with
  |nil=>simp
  |cons c l ih=>intro hl;simp only[H8,AV,EA,hl c k!,ih (λd M=>hl d (CU _ M)),BW,Ec];omega
 have W:(A.flatMap λc=>c.cells.toList).length=len*y:=by rw[C A J,V]
 have I:∃D_:Array Value,(execOp a.eval o).run P w=.ok (.value (.slice (D ⟨w.heap.size,0,ε⟩) len len)) {w with heap:=w.heap.push (.cells D_ e)}/\D_.toList=A.flatMap λc=>c.cells.toList:=by
  unfold execOp;rw[ho];by_cases h0:len=0;subst h0;have:A=[]:=Eu V;refine⟨#[],?_,by rw[this];rfl⟩;have r:f= #[]:=by have k:=E! θ F;simp at k;exact k
  simp[Instr.buildSlice,run_underlying ar,MC hi,r,Instr.fill,newRow,show Array.range 0= #[]from rfl];refine⟨(A.flatMap λc=>c.cells.toList).toArray,?_,rfl⟩;have al:¬len*i.size=0:=by rw[B];exact Nat.mul_ne_zero h0 o!
  have a5:¬len*i.size>2^24:=by rw[B];have:=nT O.1 O.2;omega
  have hf:=Go.Great.fill_whole (s:=y) a6 A ((Array.range (len*i.size)).map (z.cells[· %z.cells.size]!)) J (by simp[V,B]);have:=run_buildSlice (P:=P) w t e len (f.map λq=>(q.1,a.eval q.2)) _ i z ar G hz a5 al (by rw[ax,B]at*;exact hf);simp only[Sem.run_bind];rw[show(f.map λx=>match x with|(i,x)=>(i,a.eval x))=(f.map λq=>(q.1,a.eval q.2))from rfl,this];rfl
 obtain⟨D_,I,ad⟩:=I;unfold Oper.wp;rw[I,Oper.upon_value]
 have U:∀(l:Ψ Af)(m:Ψ Value),θ m=θ l→(∀(j:Nat)(v:Af)(c:Value),l[j]?=D v→m[j]?=D c→B3 (cx X h H w) (.agg v.cells) (.agg c.cells))→
   B3 (cx X h H w) (.agg (l.flatMap Af.cells)) (.agg (m.flatMap λc=>c.cells.toList).toArray):=by
  intro l;induction l with
  |nil=>intro m Z _;have:m=[]:=Eu (by simpa using Z);subst this;exact .agg rfl (λj c g=>by simp at g) λj v c g=>by simp at g
  |cons v l ih=>
   intro m Z hr;cases m with
   |nil=>simp at Z
   |cons c m=>
    have r0:=hr 0 v c rfl rfl;have r1:=ih m (by simpa using Z) λj v' c' k n=>hr (j+1) v' c' (by simpa using k) (by simpa using n);cases r0 with
    |agg ao a1 a7=>
     cases r1 with
     |agg a3 a2 a8=>
      have e2:(m.flatMap λc=>c.cells.toList).length=(l.flatMap Af.cells).length:=by simpa using a3
      refine .agg (by simp[e2,ao]) (λj d g=>?_) λj u d g M=>?_;simp only[H8,lw]at g;rcases A1 j c.cells.size with n|n;rw[Cb (by simpa using n)]at g;exact a1 j d (by simpa using g);rw[Cu (by simpa using n)]at g;exact a2 _ d (by simpa using g);simp only[H8,lw]at g M;rcases A1 j c.cells.size with n|n;rw[Cb (by simpa using n)]at M;rw[Cb o!]at g;exact a7 j u d g (by simpa using M);rw[Cu (by simpa using n)]at M;rw[Cu o!]at g;rw[EA,ao]at M;exact a8 _ u d g (by simpa using M)
 have a0:=U T A o! λj v c k n=>(R j v c k n).1;have E:D_=(A.flatMap λc=>c.cells.toList).toArray:=by rw[<-ad]
 have hh:=Qx a0;rw[<-E]at hh;refine⟨_,_,_,_,rfl,hk,.sl (by simp[cx]) (by simp[cx,Gh.at_]) ⟨_,_,by rw[hl]⟩ λ_=>.inr ⟨w.heap.size,len,by simp[cx,Gh.at_],o!,?_,by rw[hl]⟩,s.sim.push D_ e (0,0) _ hh,HT.push _ _ _⟩;simp only[cx,Gh.at_,if_true,E,fa,W];omega
theorem mc{t e:TypeId}{x y:Operand}{V U:IntKind}{l c:Int}{sz:Nat}{z:List Af}(ho:o.op= .makeSlice t x y)(he:eI P t=some (none,e,sz))(ar:0<sz)(M:Sy P e=true)(hz:Za P e=some z)(R:z.length=sz)
  (hx:BR env x= .int V l) (hy:BR env y= .int U c) (h0:0<=l) (h1:l<=c) (h2:c<=16777216) (hk:K (.sl H.length 0 sz 0 l.toNat) (H++[.live 0 (List.replicate l.toNat z).flatten])):Jy P N o env H K:=by
 refine DG (by rw[ho];rfl) ?_;intro X h a w s Q;obtain⟨O,b,hi⟩:=RV he;obtain⟨i,zv,g,ad,T,S⟩:=Uv M;have k:=mS hi g;obtain⟨n,d,ao,ax,D_⟩:=fT (cx X h H w) hz;have:n=i:=by grind[Option.some.inj]
 subst this;have:d=zv:=by grind[Option.some.inj]
 subst this;have W:=Dy s.env x;have Y:=Dy s.env y;rw[hx]at W;rw[hy]at Y;have ex:a.eval x= .int V l:=by generalize a.eval x=q at W;cases W;rfl
 have ey:a.eval y= .int U c:=by generalize a.eval y=q at Y;cases Y;rfl
 have F:(n.bytes:Int)*c<=281474976710656:=by have:(n.bytes:Int)*c<=1048576*16777216:=Int.mul_le_mul (by omega) h2 (by omega) (by omega);omega
 have Z:=run_make (P:=P) w t e n d O g T V U l c h0 h1 F (by omega);have G:(execOp a.eval o).run P w= .ok (.value (.slice (some ⟨w.heap.size,0,none⟩) l.toNat c.toNat)) (w.alloc (.cells (madeCells d.cells (c.toNat*n.size)) e)):=by unfold execOp;grind[Sem.run_bind,Result.andThen_ok,Sem.run_pure]
 unfold Oper.wp;rw[G,Oper.upon_value];have p:d.cells.size=sz:=by rw[S,k]
 have hh:Holds (cx X h H w) (List.replicate l.toNat z).flatten (madeCells d.cells (c.toNat*n.size)) (0,0):=by
  have I:(List.replicate l.toNat z).flatten.length=l.toNat*sz:=by simp[R]
  have A:l.toNat*sz<=c.toNat*n.size:=by rw[k];exact Lj _ (by omega)
  have B: ∀(m j:Nat),j<m*sz->(List.replicate m z).flatten[j]? =z[j%sz]? :=by
   intro m;induction m with
   |zero=>intro j E;omega
   |succ m ih=>
    intro j E;rw[nR,qB];rcases A1 j sz with ap|al
    ·grind[List.getElem?_append_left,Nat.mod_eq_of_lt]
    ·grind[List.getElem?_append_right,Nat.add_mul,Nat.mod_eq_sub_mod]
  refine⟨λj=>d.cells.getD (j%sz) undef,by rw[I,size_madeCells];exact A,λ_ _=>by simp,λj v E=>?_⟩;have C:j<l.toNat*sz:=by grind[Nat.lt_or_ge,List.getElem?_eq_none]
  rw[B _ _ C]at E;have u:j%sz<d.cells.size:=by grind[Nat.mod_lt]
  have f:d.cells[j%sz]? =some (d.cells[j%sz]'u):=Oe u;have J:d.cells.getD (j%sz) undef=d.cells[j%sz]'u:=by rw[RR,f];rfl
  have r:(madeCells d.cells (c.toNat*n.size))[j]? =some (d.cells[j%sz]'u):=by
   unfold madeCells;rw[ck,Array.getElem?_range,if_pos (DX C A)];have L:j%d.cells.size<d.cells.size:=by rw[p];rw[p]at u;exact u
   rw[Bw,getElem!_pos d.cells _ L];simp only[p]
  simp only[J];cases D_ with
  |agg q1 q2 q3=>exact⟨r,q2 _ _ f,q3 _ _ _ E f⟩
 refine⟨_,_,_,_,rfl,hk,.sl (by simp[cx]) (by simp[cx,Gh.at_]) ⟨_,_,rfl⟩ λ_=>.inr ⟨w.heap.size,c.toNat,by simp[cx,Gh.at_],by omega,?_,rfl⟩,s.sim.push _ e (0,0) _ hh,HT.push _ _ _⟩;simp[cx,Gh.at_,size_madeCells,k]
end
section
variable {X:Nat->Prop}{h:Gh}{H:Ay}{w:World}
def I6.loopSet(s:I6 X h H w){L:mr}{r:Loop}(g:H[N]?=D (.lp L))(f:h.io N=D n)(C:w.heap[n]?=D (.loop r))(st:LoopState)(p:Ω Code):
  I6 X h (H.set N (.lp {L with state:=st,pending:=p})) (w.putObj n (.loop {r with state:=st,pending:=p}))/\HT h H w h (H.set N (.lp {L with state:=st,pending:=p})) (w.putObj n (.loop {r with state:=st,pending:=p})):=by
 have d:N<θ H:=by rcases A1 N (θ H)with c|c;exact c;rw[Cz c]at g;cases g
 have D_:HT h H w h (H.set N (.lp {L with state:=st,pending:=p})) (w.putObj n (.loop {r with state:=st,pending:=p})):=by refine⟨rfl,rfl,rfl,k!,λk M hn=>?_,k!,λ_ _=>Ao _,λ_ _ _=>⟨rfl,rfl⟩,λk B=>?_,λk y O=>?_⟩;refine World.putObj_heap_other λe=>?_;subst e;exact hn ⟨N,_,g,k!,f⟩;obtain⟨i,e,l,j,c⟩:=B;rcases Jx d l with⟨G,b⟩|⟨rfl,_⟩;exact .inl ⟨i,e,b,j,c⟩;exact .inl ⟨i,_,g,k!,c⟩;by_cases e:k=n;subst e;exact⟨_,World.putObj_heap_same (tD C)⟩;exact⟨y,by rw[World.putObj_heap_other e,O]⟩
 refine⟨s.of_ext D_ (λi e l j=>?_) (λi P z A k l c u x T o=>?_),D_⟩;rcases Jx d l with⟨G,b⟩|⟨rfl,rfl⟩;refine .inl ⟨b,rfl,rfl,rfl,λE a=>World.putObj_heap_other λe=>?_⟩;subst e;exact G (s.inj i N _ _ E b g j k! a f);obtain⟨K,E,S,a,q,l,c,T,o,I,J,F⟩:=s.lp i L g;rw[show(cx X h H w).io i=h.io i from rfl,f]at a;injection a with e;subst e;rw[show(cx X h H w).w.heap=w.heap from rfl,C]at q;injection q with e;injection e with e;subst e;refine .inr (.inr ⟨_,rfl,K,n,_,f,World.putObj_heap_same (tD C),rfl,rfl,T,o,I,J,λt v m=>⟨(F t v m).1,(F t v m).2.later (D_.later X)⟩⟩);rcases Jx d l with⟨Q,z⟩|⟨rfl,_⟩<;>rcases Jx d c with⟨R,A⟩|⟨rfl,_⟩;exact s.inj _ _ _ _ k z A u x T o;exact s.inj _ _ _ _ k z g u k! T o;exact s.inj _ _ _ _ k g A k! x T o;rfl
def I6.kill(s:I6 X h H w)(a:N<θ H):I6 X h (H.set N .dead) w/\HT h H w h (H.set N .dead) w:=by
 have n:HT h H w h (H.set N .dead) w:=by refine⟨rfl,rfl,rfl,Ao _,λk r hn=>rfl,k!,λ_ _=>Ao _,λ_ _ _=>⟨rfl,rfl⟩,λk t=>?_,λk y u=>⟨y,u⟩⟩;obtain⟨i,e,d,b,j⟩:=t;rcases Jx a d with⟨q,c⟩|⟨rfl,rfl⟩;exact .inl ⟨i,e,c,b,j⟩;exact(b rfl).elim
 refine⟨s.of_ext n (λi e d b=>?_) (λi x l m k d j f g o p=>?_),n⟩;rcases Jx a d with⟨q,c⟩|⟨rfl,rfl⟩;exact .inl ⟨c,rfl,rfl,rfl,λv _=>rfl⟩;exact(b rfl).elim;rcases Jx a d with⟨z,l⟩|⟨rfl,rfl⟩;rcases Jx a j with⟨A,m⟩|⟨rfl,rfl⟩;exact s.inj _ _ _ _ k l m f g o p;exact(g rfl).elim;exact(f rfl).elim
end
def SG:Env->E Tmp->E Af->Env
 |env,t::ts,v::vs=>SG (env.put t v) ts vs
 |env,_,_=>env
theorem nJ{x}:∀(d:E Tmp)(e:E Af)(b:E Value)env(a:Act),(∀t∈d,t<a.tmps.size)→θ b=θ e→
  (∀(j:Nat)(v:Af)(c:Value),e[j]?=D v->b[j]?=D c->B3 x v c)->PY x env a->
  PY x (SG env d e) {a with tmps:=(d.zip b).foldl (λ(tmps:Array Value)(q:Tmp×Value)=>tmps.setIfInBounds q.1 q.2) a.tmps}
 |[],e,b,env,a,_,_,_,h=>by simpa[SG]using h
 |t::d,[],b,env,a,_,hl,_,h=>by have:b=[]:=Eu q!;subst this;simpa[SG]using h
 |t::d,v::e,c::b,env,a,ht,hl,hr,h=>by
  have f:=h.put (ht t k!) (hr 0 v c rfl rfl);exact nJ d e b (env.put t v) (a.put (D t) c) (λu i=>by rw[fM];exact ht u (CU _ i)) q!
   (λj k g f l=>hr (j+1) k g q! q!) f
def ke:∀(l:E (Tmp×Value))a,(l.foldl (λ(tmps:Array Value)(q:Tmp×Value)=>tmps.setIfInBounds q.1 q.2) a).size=a.size
 |[],a=>rfl
 |q::l,a=>by rw[YV,ke l];simp
def AFq(id:Nat)(K:Af->Ay->Prop):Exit->Env->Ay->Prop
 |.normal,_,H=>∃L,H[id]?=D (.lp L)/\K (.bool ζ) (H.set id (.lp {L with state:=.ready,pending:=ε}))
 |.ret,_,H=>∃L,H[id]?=D (.lp L)/\K (.bool η) (H.set id (.lp {L with state:=.done,pending:=D .ret}))
 |.exit k,_,H=>∃L,H[id]?=D (.lp L)/\K (.bool η) (H.set id (.lp {L with state:=.done,pending:=D (.exit k)}))
 |_,_,_=>False
section
variable {P:Program}{N:Nat}{o:Oper}{env:Env}{H:Ay}{K:Af->Ay->Prop}
theorem Jy.yield{c:Call}{L:mr}(ho:o.op=.call c)(T:c.callee=.value d)(hf:BR env d=.yf n)(he:H[n]?=D (.lp L))
  (hn:c.args.size=L.params.size) (a7:(L.params.toList.all λt=>decide (t<L.n))=ζ)
  (hw:KC P L.n L.assign (SG L.env L.params.toList (c.args.toList.map (BR env))) H λe env1 H1=>e=.normal/\∃A,H1[n]?=D (.lp A)/\A.state=.ready/\KC P L.n L.body env1 (H1.set n (.lp {A with state:=.busy})) (AFq n K)):Jy P N o env H K:=by
 intro ro X h a w s Q;obtain⟨hg,B,r,F,hb,h1,h2,h3,h4,h5,h6,h7⟩:=s.sim.lp n L he;have F:h.io n=D B:=F;have hb:w.heap[B]?=D (.loop r):=hb;have G:=Dy s.env d;rw[hf]at G;have ap:a.eval d=.func (.yield B) #[] #[]:=by generalize a.eval d=cf at G;cases G<;>grind
 have ad:(execOp a.eval o).run P w=.ok (.round B r.fn ((r.params.zip (c.args.map a.eval)).foldl (λtmps (t,a)=>tmps.setIfInBounds t a) r.tmps) r.assign r.body) w:=by unfold execOp;rw[ho];simp only[resolve,T,ap,Deferred.ofValue,Sem.run_bind,Sem.run_pure,Result.andThen_ok,invoke];rw[show(#[]++c.args.map a.eval:Array Value)=c.args.map a.eval by simp];exact run_yield hb (by rw[Array.size_map,hn,h3])
 refine⟨λ_ _=>P!,?_⟩;rw[Oper.semAt_eq _ _ _ (λc hc=>by rw[ho]at hc;cases hc),ad,Oper.uponIn_round];refine⟨(λh=>by cases h),?_⟩;let R:Ending->World->Prop:=λe M=>∃c v y S,e=.returned c/\K v S/\B3 (cx X y S M) v c/\I6 X y S M/\HT h H w y S M;refine RoundIn.mono (R:=R) ?_ (by rintro e M ⟨c',v,y,S,rfl,k,hv,hs,hx⟩;exact⟨c',v,y,S,rfl,k,hv,hs,hx⟩);apply roundIn_of_wpIn trivial;have a5:((r.params.zip (c.args.map a.eval)).foldl (λtmps (t,a)=>tmps.setIfInBounds t a) r.tmps)=((L.params.toList.zip (c.args.toList.map a.eval)).foldl (λ(tmps:Array Value)(q:Tmp×Value)=>tmps.setIfInBounds q.1 q.2) r.tmps):=by grind[Array.toList_zip,Array.toList_map]
 rw[a5,h4,h5];have al:St X h L.n (SG L.env L.params.toList (c.args.toList.map (BR env))) H {tmps:=(L.params.toList.zip (c.args.toList.map a.eval)).foldl (λ(tmps:Array Value)(q:Tmp×Value)=>tmps.setIfInBounds q.1 q.2) r.tmps,defers:=[]} w:=by
  refine⟨s.sim,?_,by rw[ke,h6]⟩;refine nJ (x:=cx X h H w) L.params.toList (c.args.toList.map (BR env)) (c.args.toList.map a.eval) L.env {tmps:=r.tmps,defers:=[]} (λt ht=>?_) k! (λj v f hj hd=>?_) (λt v m=>⟨by rw[h6];exact(h7 t v m).1,(h7 t v m).2⟩);grind;rw[CO]at hj hd;cases hx:c.args.toList[j]? with
  |none=>grind
  |some x=>rw[hx]at hj hd;simp only[Bw,Av]at hj hd;subst hj hd;exact Dy s.env x
 refine wpIn_mono (hw (D B) X h _ w al λl e=>by injection e with e;subst e;exact⟨r,hb⟩) ?_;rintro e a1 w1 ⟨y,env1,H1,⟨rfl,A,U,a4,E⟩,s1,x1,_⟩;obtain⟨W,O,r1,g,p,I,J,q3,q4,q5,q6,q7⟩:=s1.sim.lp n A U;have g:y.io n=D O:=g;have p:w1.heap[O]?=D (.loop r1):=p;have Y:n<θ H:=by rcases A1 n (θ H)with h2|h2;exact h2;grind[u?]
 have eB:O=B:=by have:=(x1.same n Y (by rw[show y.gen n=0 from W,show h.gen n=0 from hg])).1;rw[g,F]at this;injection this
 subst eB;obtain⟨a0,ao⟩:=s1.sim.loopSet U g p .busy A.pending;have ax:({r1 with state:=.busy}:Loop)={r1 with state:=.busy,pending:=A.pending}:=by rw[<-J]
 refine⟨_,run_beginRound p (by rw[I,a4]),?_⟩;rw[ax];refine wpIn_mono (E (D O) X y a1 _ ⟨a0,s1.env.later (ao.later X),s1.size⟩ λl e=>by injection e with e;subst e;exact⟨_,World.putObj_heap_same (tD p)⟩) ?_;rintro e a2 w2 ⟨D_,env2,H2,q,s2,x2,_⟩
 have C:∀(b:Ω Code)u,H2[n]?=D (.lp u)→K (.bool b.isNone) (H2.set n (.lp {u with state:=if b.isNone then .ready else .done,pending:=b}))→
   ∃v M,(Instr.endRound O b).run P w2=.ok v M/\R (.returned v) M:=by
  intro b u V hk;obtain⟨ar,B2,r2,i,z,p1,p2,p3,p4,p5,p6,p7⟩:=s2.sim.lp n u V;have i:D_.io n=D B2:=i;have z:w2.heap[B2]?=D (.loop r2):=z;have Z:n<θ H1:=DX Y x1.n;have eB:B2=O:=by have:=(x2.same n (by simpa using Z) (by rw[show D_.gen n=0 from ar,show y.gen n=0 from W])).1;rw[i,g]at this;injection this
  subst eB;obtain⟨a3,a6⟩:=s2.sim.loopSet V i z (if b.isNone then .ready else .done) b;exact⟨_,_,run_endRound b z,_,_,D_,_,rfl,hk,.bool _,a3,((x1.trans ao).trans x2).trans a6⟩
 cases e with
 |normal=>obtain⟨u,I,J⟩:=q;exact C ε u I J
 |ret=>obtain⟨u,I,J⟩:=q;exact C (D .ret) u I J
 |exit k=>obtain⟨u,I,J⟩:=q;exact C (D (.exit k)) u I J
 |_=>exact q.elim
end
section
variable {P:Program}{N:Nat}{env:Env}{H:Ay}{Q:Exit->Env->Ay->Prop}
def AFk(P:Program)(N:Nat)(env:Env)(id:Nat)(Q:Exit->Env->Ay->Prop)(H:Ay):Prop:=
 ∃L,H[id]?=D (.lp L)/\L.state≠.busy/\(match L.pending with
  |none=>Q .normal env (H.set id .dead)
  |some c=>KC P N c env (H.set id .dead) Q)
def AAh{args}{R:Ending->World->Prop}(h:Calls P z args s R):CallsIn (FR Y) n P z args s R:=by
 have a:CallsIn Fence.wide n P z args s R:=callsIn_wide.2 h;cases Y with
 |none=>exact a
 |some l=>exact a
theorem mb{f:Operand}{z:Array Tmp}{assign body:Code}{first o:Ψ Af}{G:FuncId}(env0:Env)(ao:∀p∈env0,p∈env)(hf:BR env f=.fn (.func G) first o)(hE:Enters P G=ζ)
  (U:E8 P G (first++[.yf (θ H)]++o) (H++[.lp ⟨N,env0,z,assign,body,.ready,ε⟩]) λ_ E=>AFk P N env (θ H) Q E):KC P N (.rangeFunc f z assign body) env H Q:=by
 intro r X h a w s k;have Y:=Dy s.env f;rw[hf]at Y
 obtain⟨b,g,ap,n1,n2,a0,a1⟩:∃b g,a.eval f=.func (.func G) b g∧b.size=θ first∧g.size=θ o∧
   (∀(j:Nat)(v:Af)(c:Value),first[j]?=D v->b[j]?=D c->B3 (cx X h H w) v c)/\(∀(j:Nat)(v:Af)(c:Value),o[j]?=D v->g[j]?=D c->B3 (cx X h H w) v c):=by
  generalize a.eval f=cf at Y;cases Y<;>grind
 have main:∀i(u:Loop)(mark:Ψ Deferred),I6 X h H i→HT h H w h H i→u.state=.ready→u.pending=ε→u.tmps=a.tmps→u.params=z→u.assign=assign→u.body=body→mark.Nodup→
   (∀d∈mark,∃D_,d={target:=.collected D_,args:= #[]}/\w.heap.size<=D_/\i.heap[D_]?=D (.deferred (D [])))->
   CallsIn (FR r) (0-1) P G (b++ #[.func (.yield i.heap.size) #[] #[]]++g) (i.alloc (.loop u))
    (rangePost (FR r) 0 P i.heap.size (λe a' Z=>∃I F E,Q e F E/\St X I N F E a' Z/\HT h H w I E Z/\WO a w a' Z) {a with defers:=mark++a.defers}):=by
  intro i u mark s0 C e1 e2 e3 e4 e5 e6 ar V;have xp:=HT.push (h:=h) (H:=H) (w:=i) (.loop u) 0 (.lp ⟨N,env0,z,assign,body,.ready,ε⟩);have sp:=s0.push_any (.loop u) 0 (.lp ⟨N,env0,z,assign,body,.ready,ε⟩) λ_=>.inr ⟨_,rfl,by simp[cx,Gh.at_],i.heap.size,u,by simp[cx,Gh.at_],by show(i.heap.push (.loop u))[i.heap.size]?=_;simp,e1,e2,e4,e5,e6,by rw[e3];exact s.size,λt v m=>by obtain⟨m1,m2⟩:=s.env t v (ao _ m);refine⟨by rw[<-s.size];exact m1,?_⟩;rw[e3];exact m2.later ((C.trans xp).later X)⟩;have ea:i.alloc (.loop u)={i with heap:=i.heap.push (.loop u)}:=rfl;rw[ea];generalize a5:({i with heap:=i.heap.push (.loop u)}:World)=W1 at xp sp;generalize a6:h.at_ (θ H) (D i.heap.size) 0 0=g1 at xp sp;have R:g1.gen (θ H)=0/\g1.io (θ H)=D i.heap.size:=by grind[Gh.at_]
  have hl:=(C.trans xp).later X;have ax:(b++ #[Value.func (.yield i.heap.size) #[] #[]]++g).size=(first++[Af.yf (θ H)]++o).length:=by simp[n1,n2];omega
  have S:∀(j:Nat)(v:Af)(c:Value),(first++[Af.yf (θ H)]++o)[j]?=D v->(b++ #[Value.func (.yield i.heap.size) #[] #[]]++g)[j]?=D c->B3 (cx X g1 (H++[.lp ⟨N,env0,z,assign,body,.ready,ε⟩]) W1) v c:=by
   intro j v c J y;rcases A1 j (θ first+1)with a4|a2;rw[Cb w!]at J;rw[Yp w!]at y;rcases A1 j (θ first)with al|a3
   rw[Cb al]at J;rw[Yp o!]at y;exact(a0 j v c J y).later hl;have:j=θ first:=o!
   subst this;rw[Cu (Ao _),HG]at J;rw[td o!,n1,HG]at y;simp at J y;subst J y;exact .yf (by simp[cx]) rfl λ_=>⟨i.heap.size,R.2,rfl⟩
   rw[Cu w!]at J;rw[td w!]at y;refine(a1 _ v c ?_ y).later hl;simpa[n1]using J
  have hC:=U X g1 W1 _ sp ax S;apply (AAh hC).mono;rintro e Z ⟨c,v,I,E,rfl,⟨L,hL,T,hQ⟩,sc,rv,x⟩;obtain⟨hg,B,M,A,hb,q1,q2,q3,q4,q5,q6,q7⟩:=sc.lp (θ H) L hL;have A:I.io (θ H)=D B:=A;have hb:Z.heap[B]?=D (.loop M):=hb;have eB:B=i.heap.size:=by have:=(x.same (θ H) k! (by rw[show I.gen (θ H)=0 from hg,R.1])).1;rw[A,R.2]at this;injection this
  subst eB;obtain⟨s2,x2⟩:=sc.loopSet hL A hb .exhausted M.pending;have ad:θ H<(E.set (θ H) (.lp {L with state:=.exhausted,pending:=M.pending})).length:=by have:=x.n;simp at this⊢;omega
  obtain⟨s3,x3⟩:=s2.kill ad;rw[Yk]at s3 x3;have O:=((xp.trans x).trans x2).trans x3;have st:St X I N env (E.set (θ H) .dead) {a with defers:=mark++a.defers} (Z.putObj i.heap.size (.loop {M with state:=.exhausted,pending:=M.pending})):=⟨s3,λt v m=>⟨(s.env t v m).1,(s.env t v m).2.later ((C.trans O).later X)⟩,s.size⟩
  have df:WO a w {a with defers:=mark++a.defers} (Z.putObj i.heap.size (.loop {M with state:=.exhausted,pending:=M.pending})):=by refine⟨mark,rfl,ar,λd hd=>?_⟩;obtain⟨D_,h1,h2,h3⟩:=V d hd;exact⟨D_,h1,h2,O.defs s0 h3⟩
  refine⟨M.pending,_,run_endLoop hb (by rw[q1];exact T),?_⟩;rw[q2]at*;cases hp:L.pending with
  |none=>rw[hp]at hQ st df O;exact⟨I,env,_,hQ,st,C.trans O,df⟩
  |some cd=>rw[hp]at hQ st df O s3;apply wpIn_mono (hQ r X I _ _ st (k.later (C.trans O)));rintro e' a' a7 ⟨h2,env2,H2,q,s',x',d'⟩;exact⟨h2,env2,H2,q,s',(C.trans O).trans x',df.trans s3 (C.trans O) x' d'⟩
 have K:∀l W,(resolve a.eval (rangeCall f l) 0).run P W=.ok {target:=.fn (.func G) g,args:=b++ #[.func (.yield l) #[] #[]]} W:=by intro l W;have y:a.eval (.const (.func (.yield l) #[] #[]))=.func (.yield l) #[] #[]:=rfl;simp[resolve,ap,y,Deferred.ofValue]
 refine wpIn_rangeFunc λfn _=>?_;cases r with
 |none=>
  have C:HT h H w h H (w.alloc (.deferred (D []))):=HT.grow rfl rfl rfl (by show _<=(w.heap.push _).size;simp) λk hk=>by show(w.heap.push _)[k]?=_;grind
  have s0:I6 X h H (w.alloc (.deferred (D []))):=s.sim.grow rfl rfl rfl (by show _<=(w.heap.push _).size;simp) λk hk=>by show(w.heap.push _)[k]?=_;rw[UG,D! o!]
  have hm:=main (w.alloc (.deferred (D []))) {state:=.ready,pending:=ε,fn,tmps:=a.tmps,params:=z,assign,body,defers:=w.heap.size} [{target:=.collected w.heap.size,args:= #[]}] s0 C rfl rfl rfl rfl rfl rfl k! λd hd=>by simp only[Ax]at hd;exact⟨w.heap.size,hd,Ao _,World.alloc_heap_new w _⟩
  rw[World.size_alloc]at hm;exact⟨_,_,_,_,_,_,_,_,run_enterLoop_outer fn a.tmps z assign body,K _ _,λ_ _=>P!,by simp only[invoke];exact iz hE _ _,(λh=>by cases h),hm⟩
 |some l=>
  obtain⟨x,hx⟩:=k l rfl;have hm:=main w {state:=.ready,pending:=ε,fn,tmps:=a.tmps,params:=z,assign,body,defers:=x.defers} [] s.sim (HT.refl _ _ _) rfl rfl rfl rfl rfl rfl k! λd hd=>by cases hd
  exact⟨_,_,_,_,_,_,_,_,run_enterLoop_inner hx fn a.tmps z assign body,K _ _,λ_ _=>P!,by simp only[invoke];exact iz hE _ _,(λh=>by cases h),hm⟩
end
def isQ:Op->Bool
 |.move _|.assign _|.pick .. |.load .. |.nilCheck _|.binOp .. |.unOp .. |.convert .. |.fieldAddr .. |.field .. |.indexAddr .. |.index .. |.slice .. |.extract .. |.makeFunc .. |.build .. =>ζ
 |.call c=>match c.callee with|.builtin .len=>ζ|.builtin .max=>ζ|.builtin .min=>ζ|_=>η
 |_=>η
abbrev AJr:=FuncId->E Af->Ay->Ω (Af×Ay)
abbrev AJs:=Nat->Code->Env->Ay->Ω (Exit×Env×Ay)
def xc(P:Program)(env:Env)(H:Ay)(op:Op):Ω Af:=
 match op with
 |.buildSlice t len parts=>match Tf P env t len parts with|some (sz,vs)=>D (.vs sz vs)|none=>ε
 |op=>Cp P env H op
def dq(op:Op):Bool:=match op with|.buildSlice .. =>ζ|op=>isQ op
def yJ(ops:Array Oper)(m:E Nat):Nat->E Nat->E Nat
 |0,_=>[]
 |n+1,left=>
  let rdy:=left.filter λi=>left.all λp=>p==i|| !QH m p i
  let qs:=rdy.filter λi=>match ops[i]? with|some o=>dq o.op|none=>η
  let last:=λi=>left.all λj=>j==i||QH m i j||Iy ops j
  let es:=rdy.filter λi=>!Iy ops i&&last i
  let as:=rdy.filter λi=>Iy ops i&&last i
  match qs,es,as with
  |i::_,_,_=>i::yJ ops m n (left.erase i)
  |[],i::_,_=>i::yJ ops m n (left.erase i)
  |[],[],i::_=>i::yJ ops m n (left.erase i)
  |[],[],[]=>[]
def ABF(ops:Array Oper):E Nat:=yJ ops (I5 ops.toList []) ops.size (List.range ops.size)
section
variable {P:Program}{call:AJr}{code:AJs}{H H':Ay}{v:Af}{F:E Nat}
theorem kZ{N}(b:xc P A H o.op=D v):Z9 P N o A H (ABK A o.op) v:=by
 unfold xc at b;split at b;rename_i t len a i;split at b;rename_i sz f d;injection b with e;subst e;intro c g h k;refine V8 i (sz:=sz) (vs:=f) ?_ ⟨rfl,rfl⟩;rw[<-d];have j:=gv h;unfold Tf;have:(a.toList.map λp=>BR c p.2)=a.toList.map λp=>BR A p.2:=Lg λp d=>by grind[Op.operands]
 rw[this];cases b;exact Xz b
end
def lF(F:Fence)(n0:Nat)(P:Program)(c:Code)(K:Exit->Act->World->Prop)(a:Act)(w:World):Prop:=
 ∀(b:Frame)(k:E Item)(cs:E Frame),b.roundOf=F.round->F.fn b.fn->F.room (θ cs+1+n0)->
  ∃e a' w',K e a' w'/\ArrivesIn (Machine.fenced P F) P (lone (b.atR a (.code c:: .inLoop c::k)) cs w) b k cs e a' w'
section
variable {P:Program}{F:Fence}{n0:Nat}{c:Code}{K:Exit->Act->World->Prop}{a:Act}{w:World}
def zb(h:lF F n0 P c K a w):(Code.loop c).wpIn F n0 P K a w:=by intro b k j f g hr;obtain⟨e,i,m,l,d⟩:=h b k j f g hr;exact⟨e,i,m,l,.of_steps (.one (fenced_calm g hr rfl) stepR_loop) d⟩
def cH(h:c.wpIn F n0 P (Exit.then (λt u=>lF F n0 P c K t u) K) a w):lF F n0 P c K a w:=by
 intro b k s p r hr;obtain⟨e,f,g,m,d⟩:=h b (.inLoop c::k) s p r hr;cases e with
 |normal=>obtain⟨o,n,q,j,i⟩:=m b k s p r hr;exact⟨o,n,q,j,.of_steps (StepsIn.trans d (.one (fenced_calm r hr rfl) stepR_inLoop)) i⟩
 |exit id=>exact⟨_,f,g,m,.pass (x:=.inLoop c) rfl (λ_ _=>.inl k!) d⟩
 |goto l=>exact⟨_,f,g,m,.pass (x:=.inLoop c) rfl (λ_ _=>.inl k!) d⟩
 |ret=>exact⟨_,f,g,m,.pass (x:=.inLoop c) rfl (λ_ _=>.inl k!) d⟩
 |panic v=>exact⟨_,f,g,m,.pass (x:=.inLoop c) rfl (λ_ _=>.inl k!) d⟩
 |outgrown=>exact⟨_,f,g,m,.pass (x:=.inLoop c) rfl (λ_ _=>.inl k!) d⟩
theorem XO{f:Exit->Act->World->Prop}(h:lF F n0 P c K a w)(m:∀e a w,K e a w->f e a w):lF F n0 P c f a w:=by intro b k i d j hr;obtain⟨e,l,o,n,g⟩:=h b k i d j hr;grind
end
def Ib(P:Program)(N:Nat)(c:Code)(env:Env)(H:Ay)(Q:Exit->Env->Ay->Prop):Prop:=
 ∀r X h a w,St X h N env H a w->aA r w->
  lF (FR r) 0 P c (λe a' w'=>∃h' env' H',Q e env' H'/\St X h' N env' H' a' w'/\HT h H w h' H' w'/\WO a w a' w') a w
section
variable {P:Program}{N:Nat}{env:Env}{H:Ay}{Q:Exit->Env->Ay->Prop}
theorem Ib.mono{f:Exit->Env->Ay->Prop}(h:Ib P N c env H Q)(i:∀e b d,Q e b d->f e b d):Ib P N c env H f:=by intro r X g a w s k;apply XO (h r X g a w s k);grind
def KC.of_loopW(h:Ib P N c env H Q):KC P N (.loop c) env H Q:=λr X g a w s k=>zb (h r X g a w s k)
def Ib.unroll(h:KC P N c env H (fR (λb f=>∃env2 d,Fp N (θ H) b f env2 d/\Ib P N c env2 d Q) Q)):Ib P N c env H Q:=by
 intro r X g a w s k;refine cH (wpIn_mono (h r X g a w s k) ?_);rintro e a2 t ⟨m,env2,d,q,o,v,j⟩;cases e with
 |normal=>obtain⟨l,F,n,B⟩:=q;obtain⟨z,p,A,C⟩:=n.2 X m a2 t o;have i:=Fp.ext rfl n.1 A C v;apply XO (B r X z a2 t p (k.later i));rintro e G I ⟨y,b,f,D_,E,u,x⟩;exact⟨y,b,f,D_,E,i.trans u,j.trans p.sim i u x⟩
 |_=>exact⟨m,env2,d,q,o,v,j⟩
def tM(P:Program)(N:Nat)(c:Code)(env:Env)(H:Ay)(Q:Exit->Env->Ay->Prop):Prop:=
 match c with
 |.loop x=>Ib P N x env H Q
 |c=>KC P N c env H Q
def tM.awp(h:tM P N c env H Q):KC P N c env H Q:=by unfold tM at h;split at h;exact .of_loopW h;exact h
def EZ(hn:∀x,c≠.loop x)(h:KC P N c env H Q):tM P N c env H Q:=by simp_all[tM]
def tM.mono{d:Exit->Env->Ay->Prop}(h:tM P N c env H Q)(f:∀e a b,Q e a b->d e a b):tM P N c env H d:=by
 cases c with
 |loop x=>exact Ib.mono h f
 |_=>exact KC.mono h f
def Ib.weak(f:Fp N (θ H) env H A q)(h:Ib P N c A q Q):Ib P N c env H Q:=by intro r X g a w s k;obtain⟨m,t,n,o⟩:=f.2 X g a w s;apply XO (h r X m a w t k);rintro e v x ⟨l,b,i,d,p,u,j⟩;exact⟨l,b,i,d,p,(Fp.ext rfl f.1 n o (HT.refl g H w)).trans u,j⟩
def tM.weak(b:Fp N (θ H) env H A q)(h:tM P N c A q Q):tM P N c env H Q:=by
 cases c with
 |loop x=>exact Ib.weak b h
 |_=>exact KC.weak b h
def KC.after(h:KC P N c env H (λe b f=>∃env2 d,Fp N (θ H) b f env2 d/\Q e env2 d)):KC P N c env H Q:=by intro r X g a w s k;apply wpIn_mono (h r X g a w s k);rintro e j v ⟨m,b,f,⟨env2,d,i,q⟩,t,x,l⟩;obtain⟨n,u,o,p⟩:=i.2 X m j v t;exact⟨n,env2,d,q,u,Fp.ext rfl i.1 o p x,l⟩
def Ib.after(h:Ib P N c env H (λe b f=>∃env2 d,Fp N (θ H) b f env2 d/\Q e env2 d)):Ib P N c env H Q:=by intro r X g a w s k;apply XO (h r X g a w s k);rintro e j v ⟨m,b,f,⟨env2,d,i,q⟩,t,x,l⟩;obtain⟨n,u,o,p⟩:=i.2 X m j v t;exact⟨n,env2,d,q,u,Fp.ext rfl i.1 o p x,l⟩
def tM.after(h:tM P N c env H (λe a d=>∃env2 b,Fp N (θ H) a d env2 b/\Q e env2 b)):tM P N c env H Q:=by
 cases c with
 |loop x=>exact Ib.after h
 |_=>exact KC.after h
end
def DN(v:Af)(H:Ay):Af->Ay->Prop:=λu H'=>u=v/\H'=H
def VO(e:Exit)(env:Env)(H:Ay):Exit->Env->Ay->Prop:=λe1 env1 H1=>e1=e/\env1=env/\H1=H
def callT(ρ:Operand->Af):Op->Ω (Sum (FuncId×E Af) (Nat×E Af))
 |.call c=>
  match c.callee with
  |.value f=>
   match ρ f with
   |.fn (.func F) first caps=>D (.inl (F,first++c.args.toList.map ρ++caps))
   |.yf id=>D (.inr (id,c.args.toList.map ρ))
   |_=>ε
  |_=>ε
 |_=>ε
def AHx(H:Ay):E (Nat×Fv)->Ay
 |[]=>H
 |(i,e)::r=>AHx (H.set i e) r
section
variable {X:Nat->Prop}{h:Gh}{H:Ay}{w:World}
def I6.regen(s:I6 X h H w){id g g':Nat}{cs}(n:H[id]?=D (Fv.live g cs))(I:g≤g'):
  I6 X (h.at_ id (h.io id) g' (h.cap id)) (H.set id (.live g' cs)) w/\HT h H w (h.at_ id (h.io id) g' (h.cap id)) (H.set id (.live g' cs)) w:=by
 obtain⟨q,p⟩:=s.live id g cs n;have l:h.gen id=g:=q;have t:id<θ H:=by rcases A1 id (θ H)with z|z;exact z;rw[Cz z]at n;cases n
 rcases p with⟨F,A⟩|⟨B,j,T,G,f,D_,N,o,E,C,c⟩;have d:h.io id=ε:=F;rcases Nat.eq_or_lt_of_le I with e|O;subst e;have x:h.at_ id (h.io id) g (h.cap id)=h:=by unfold Gh.at_;cases h;simp only[Gh.mk.injEq];refine⟨funext λi=>?_,funext λi=>?_,funext λi=>?_⟩;split<;>simp_all;split;rename_i r;subst r;exact l.symm;rfl;split<;>simp_all
 have y:H.set id (.live g cs)=H:=by apply Jc;intro i;rw[R2];split;rename_i r;subst r;exact n.symm;rfl
 rw[x,y];exact⟨s,HT.refl _ _ _⟩;subst A;obtain⟨m,rfl⟩:∃m,g'=m+1:=⟨g'-1,o!⟩
 have key:∀(v:Gh)(u:Ay)(k:Nat),v=h.at_ id ε (g+k) (h.cap id)->u=H.set id (.live (g+k) [])->(I6 X v u w/\HT h H w v u w)->(I6 X (h.at_ id ε (g+(k+1)) (h.cap id)) (H.set id (.live (g+(k+1)) [])) w/\HT h H w (h.at_ id ε (g+(k+1)) (h.cap id)) (H.set id (.live (g+(k+1)) [])) w):=by
  intro v u k x y J;subst x y;obtain⟨K,L⟩:=J.1.bump (id:=id) (g:=g+k) (cs:=[]) (by simp[t]) (by simp[Gh.at_]);have M:(h.at_ id ε (g+k) (h.cap id)).at_ id ε (g+k+1) ((h.at_ id ε (g+k) (h.cap id)).cap id)=h.at_ id ε (g+(k+1)) (h.cap id):=by unfold Gh.at_;simp only[Gh.mk.injEq];refine⟨funext λi=>?_,funext λi=>?_,funext λi=>?_⟩<;>by_cases r:i=id<;>simp[r,fh]
  rw[M,Yk]at K L;exact⟨K,J.2.trans L⟩
 have all:∀k,I6 X (h.at_ id ε (g+(k+1)) (h.cap id)) (H.set id (.live (g+(k+1)) [])) w/\HT h H w (h.at_ id ε (g+(k+1)) (h.cap id)) (H.set id (.live (g+(k+1)) [])) w:=by
  intro k;induction k with
  |zero=>exact s.bump n d
  |succ k P=>exact key _ _ (k+1) rfl rfl P
 have:=all (m-g);rw[show g+(m-g+1)=m+1 by omega]at this;rw[d];exact this;have b:h.io id=D B:=D_;have a:j.size=h.cap id:=o;have:=s.upd (g':=g') (B:=B) (arr:=j) (T:=T) (fz:=G) (w':=w) n I (λ_=>⟨b,a.symm⟩) (.inl b) N (λ_ _ _=>rfl) rfl rfl rfl (Ao _) ⟨f,E,C,c⟩;rw[a]at this;rw[b];exact this
end
section
variable {P:Program}{N:Nat}{o:Oper}{env:Env}{H:Ay}{K:Af->Ay->Prop}
def B3.regen{id g g' sz off n:Nat}{c}(a:h.gen id=g)(r:B3 (cx C h q s) (.sl id g sz off n) c):
  B3 (cx C (h.at_ id (h.io id) g' (h.cap id)) (q.set id x) s) (.sl id g' sz off n) c:=by
 cases r with
 |sl b i d f=>refine .sl (by simpa[cx]using b) (by simp[cx,Gh.at_]) d λ_=>?_;have:=f a;simpa[cx,Gh.at_]using this
def Jy.regen{id g g' sz off n:Nat}{cs}{H1:Ay}(j:g<=g')(d:H1[id]?=D (Fv.live g cs))(h:Jy P N o env H λv b=>v=.sl id g sz off n/\b=H1)(k:K (.sl id g' sz off n) (H1.set id (.live g' cs))):Jy P N o env H K:=by intro r X f a w s Q;apply Ws (h r X f a w s Q);rintro t x ⟨c,v,u,b,i,⟨rfl,rfl⟩,l,e,m⟩;obtain⟨p,q⟩:=e.regen (g':=g') d j;exact⟨c,_,_,_,i,k,B3.regen (e.live id g cs d).1 l,p,m.trans q⟩
theorem Su{sx xx:Operand}{t e:TypeId}{id g g' n sz m:Nat}{cs news:Ψ Af}(ho:o.op=.call {callee:=.builtin .append,args:= #[sx,xx],argTypes:= #[t,t]})(he:eI P t=D (ε,e,sz))(S:0<sz)(b5:Sy P e=ζ)
  (hs:BR env sx=.sl id g sz 0 n) (Z:H[id]?=D (Fv.live g cs)) (hn:θ cs=n*sz) (hx:Ko H sz (BR env xx)=D (m,news)) (bl:n+m<=16777216)
  (b9:g<g'\/(g'=g/\m=0)) (hk:K (.sl id g' sz 0 (n+m)) (H.set id (.live g' (cs++news)))):Jy P N o env H K:=by
 apply DG (by rw[ho];rfl);intro X h a w s Q;obtain⟨a7,b,hi⟩:=RV he;obtain⟨i,z,y,bz,hz,b7⟩:=Uv b5;have u:=mS hi y;have rs:=Dy s.env sx;rw[hs]at rs;have rx:=Dy s.env xx;obtain⟨ap,a9⟩:=s.sim.live id g cs Z;have b1:h.gen id=g:=ap;have L:id<θ H:=by rcases A1 id (θ H)with U|U;exact U;grind[u?]
 have a6:Ko H sz (.sl id g sz 0 n)=D (n,cs):=by grind[Ko]
 unfold Oper.wp;have bG:(h.io id=ε/\n=0/\a.eval sx=.slice ε 0 0)\/∃B cap,h.io id=D B/\n<=cap/\cap*sz<=h.cap id/\a.eval sx=.slice (D ⟨B,0,ε⟩) n cap:=by
  generalize a.eval sx=c at rs;cases rs with
  |sl p q r hc=>rcases hc ap with⟨h1,U,_,h3⟩|⟨B,cap,h1,U,h3,h4⟩;exact .inl ⟨h1,U,h3⟩;exact .inr ⟨B,cap,h1,U,by simpa[cx]using h3,h4⟩
 have ao:∀l cap,a.eval sx=.slice l n cap→cap<n+m→0<m→
   Oper.upon P o a (λa' V=>∃c v h' H',a'=a.put o.dst c/\K v H'/\B3 (cx X h' H' V) v c/\I6 X h' H' V/\HT h H w h' H' V) Q ((execOp a.eval o).run P w):=by
  intro l cap A a2 b3;have sd:=s.sim.drew;obtain⟨ax,al,G,a8,O,d,D_,_,J⟩:=PW (P:=P) sd (rx.later (HT.drew.later X)) S hx;obtain⟨_,_,_,_,_,_,_,a3,_⟩:=PW (P:=P) s.sim rx S hx;obtain⟨_,_,os,_,_,R,a5,_,b0⟩:=PW (P:=P) sd (rs.later (HT.drew.later X)) S a6;obtain⟨C,hC,E⟩:=rQ (ty:=o.type) (base:=l) (n:=n) (cap:=cap) (os:=os) a7 y hz bz a3 (by rw[u,<-A];exact b0) (by rw[u];exact J) a2 bl;rw[Rv ho (by rw[A];exact E),Oper.upon_value];have hh:Holds (cx X h H w.drew) (cs++news) (os.toArray++G.toArray++Builtin.zeroCells z.cells (C-(n+m))) (0,0):=wa R d a5 D_;obtain⟨q1,q2⟩:=sd.upd (g':=g') (B:=w.heap.size) (T:=e) (fz:=(0,0)) (w':={w.drew with heap:=w.drew.heap.push (.cells (os.toArray++G.toArray++Builtin.zeroCells z.cells (C-(n+m))) e)}) Z o! (λbm=>o!)
   (.inr (Ao _)) (by show(w.heap.push _)[w.heap.size]?=_;simp) (λk hk bm=>by show(w.heap.push _)[k]?=w.heap[k]?;rw[UG,D! bm]) rfl rfl rfl (by show w.heap.size<=(w.heap.push _).size;simp) hh
  refine⟨_,_,_,_,rfl,hk,.sl (by simpa[cx]using L) (by simp[cx,Gh.at_]) ⟨_,_,rfl⟩ λ_=>.inr ⟨w.heap.size,C,by simp[cx,Gh.at_],hC,?_,rfl⟩,q1,HT.drew.trans q2⟩;have e1:θ G=m*sz:=by rw[d.1,O]
  have e2:θ os=n*sz:=by rw[R.1,hn]
  simp only[cx,Gh.at_,if_true,Array.size_append,fa,Zb,b7,u,e1,e2];have:(C-(n+m))*sz+(n*sz+m*sz)=C*sz:=by rw[<-Ec,<-Ec];congr 1;omega
  omega
 rcases bG with⟨F,rfl,A⟩|⟨B,cap,F,b8,I,A⟩;rcases WU m with hm|hm;subst hm;obtain⟨ax,al,G,a8,O,d,D_,M,J⟩:=PW (P:=P) s.sim rx S hx;have a4:news=[]:=Eu o!;subst a4;have bN:cs=[]:=Eu o!;subst bN;have b6:G=[]:=Eu d.1;subst b6;have E:=nZ (ty:=o.type) (base:=ε) (n:=0) (cap:=0) (w':=w) a7 y M (by rw[u];exact J) o! rfl;rw[Rv ho (by rw[A];exact E),Oper.upon_value];obtain⟨q1,q2⟩:=s.sim.regen (g':=g') Z o!;rw[F]at q1 q2;rw[DR]at hk;exact⟨_,_,_,_,rfl,hk,.sl (by simpa[cx]using L) (by simp[cx,Gh.at_]) ⟨_,_,rfl⟩ λ_=>.inl ⟨by simp[cx,Gh.at_],rfl,rfl,rfl⟩,q1,q2⟩;exact ao ε 0 A o! hm;rcases A1 cap (n+m)with b2|a1;exact ao _ cap A b2 o!;obtain⟨ax,al,G,a8,O,d,D_,M,J⟩:=PW (P:=P) s.sim rx S hx;rcases a9 with⟨bt,_⟩|⟨B',W,T,fz,f,ar,hb,a0,ca,bb,Y⟩;rw[show(cx X h H w).io id=h.io id from rfl,F]at bt;cases bt;rw[show(cx X h H w).io id=h.io id from rfl,F]at ar;injection ar with e0;subst e0;have x:W.size=h.cap id:=a0;have e1:θ G=m*sz:=by rw[d.1,O]
 have b4:n*sz+m*sz<=W.size:=by rw[<-Ec,x];exact C5 (Lj _ a1) I
 obtain⟨V,ad,p1,p2,p3,p4,p5,p6,p7,p8,p9⟩:=Vq (P:=P) (off:=n*sz) G 0 W w hb o! bb D_;have E:=nZ (ty:=o.type) (base:=D ⟨B,0,ε⟩) (n:=n) (cap:=cap) (w':=V) a7 y M (by rw[u];exact J) a1 (by rw[u];simp only[Pf,Dg];exact p1);rw[Rv ho (by rw[A];exact E),Oper.upon_value];have hh:Holds (cx X h H w) (cs++news) ad fz:=by
  refine⟨λj=>if n*sz<=j/\j<n*sz+m*sz then G.getD (j-n*sz) undef else f j,by simp[hn,O];omega,by rw[p3];exact bb,λj v hj=>?_⟩;rw[p4];simp only[No,e1];rcases A1 j (θ cs)with U|U;rw[Cb U]at hj;rw[D! o!,D! o!];exact Y j v hj;rw[Cu U]at hj;have b':j-θ cs<θ news:=by rcases A1 (j-θ cs) (θ news)with h3|h3;exact h3;rw[Cz h3]at hj;cases hj
  rw[C! o!,C! o!];have hg:G[j-n*sz]?=D (G[j-n*sz]' o!):=Au o!;have eg:G.getD (j-n*sz) undef=G[j-n*sz]' o!:=by rw[R0,hg];rfl
  rw[eg];refine⟨hg,D_ _ (KM _),d.2 _ v _ hj ?_⟩;rw[hn];exact hg
 obtain⟨q1,q2⟩:=s.sim.upd (g':=g') (B:=B) (arr:=ad) (T:=T) (fz:=fz) (w':=V) Z o! (λ_=>⟨F,by rw[p3,x]⟩) (.inl F) p2 (λk _ hk=>p5 k hk) p6 p7 p8 (by rw[p9];exact Ao _) hh;refine⟨_,_,_,_,rfl,hk,.sl (by simpa[cx]using L) (by simp[cx,Gh.at_]) ⟨_,_,rfl⟩ λ_=>.inr ⟨B,cap,by simp[cx,Gh.at_],a1,?_,rfl⟩,q1,q2⟩;simp only[cx,Gh.at_,if_true,p3,Dg,x];exact I
theorem eC{m:Nat}(j:o.op=.call {callee:=.builtin .append,args:= #[d,T],argTypes:= #[b,b]})(i:eI P b=D (ε,I,n))(f:0<n)(c:Sy P I=ζ)
  (k:BR env d=.nils) (l:Ko H n (BR env T)=D (m,g)) (h:m<=16777216) (e:K (.sl (θ H) m n 0 m) (H++[.live m g])):Jy P N o env H K:=by
 apply Jy.regen (id:=θ H) (g:=0) (g':=m) (cs:=g) (BS _) k! (Jy.append_nil j i f c k l h ⟨rfl,rfl⟩);grind
theorem UX{t:TypeId}{len sz:Nat}{vs:E Af}(b:o.op=.buildSlice t len u)(c:Tf P env t len u=D (sz,vs))
  (d:K (.sl (θ H) (θ vs) sz 0 (θ vs)) (H++[.live (θ vs) (vs.flatMap Af.cells)])):Jy P N o env H K:=by
 apply Jy.regen (id:=θ H) (g:=0) (g':=θ vs) (cs:=vs.flatMap Af.cells) (BS _) k! (eD b c ⟨rfl,rfl⟩);grind
theorem Jy.makeSlice{r:IntKind}{c:Int}(k:o.op=.makeSlice b d T)(j:eI P b=D (ε,I,n))(e:0<n)(a:Sy P I=ζ)(q:Za P I=D g)(t:θ g=n)
  (m:BR env d=.int B i) (p:BR env T=.int r c) (f:0<=i) (h:i<=c) (y:c<=16777216) (u:K (.sl (θ H) i.toNat n 0 i.toNat) (H++[.live i.toNat (ς i.toNat g).flatten])):Jy P N o env H K:=by
 refine Jy.regen (id:=θ H) (g:=0) (g':=i.toNat) (cs:=(ς i.toNat g).flatten) (H1:=H++[.live 0 (ς i.toNat g).flatten]) (sz:=n) (off:=0) (n:=i.toNat) (BS _) k! (mc k j e a q t m p f h y ⟨rfl,rfl⟩) q!
end
section
variable {P:Program}{N:Nat}{o:Oper}{env:Env}{H:Ay}{K:Af->Ay->Prop}
def mu(s:E UInt8):E Af:=s.map λb=>.int .u8 (b.toNat:Int)
theorem pC{e:TypeId}(q:o.op=.convert b I d)(F:P.underlying b=D r)(y:P.underlying I=D (.slice e))(z:P.underlying e=D (.int .u8))
  (J:BR env d=.str L) (E:K (.sl (θ H) 0 1 0 (θ L)) (H++[.live 0 (mu L)])):Jy P N o env H K:=by
 apply DG (by rw[q];rfl);intro X h a w st Q;have n:=Dy st.env d;rw[J]at n;generalize f:a.eval d=c at n;cases n with
 |str t G=>
  have l:t.size=θ L:=by rw[<-G];rfl
  have k:(execOp a.eval o).run P w=.ok (.value (.slice (D ⟨w.heap.size,0,ε⟩) t.size (grownCap w t.size 0 e))) (Lib.bytesWorld w e t):=by have:=Lib.run_convert_string_bytes w b I e t F y z;unfold execOp;rw[q];simp[resolve,f,this]
  unfold Oper.wp;rw[k,Oper.upon_value];have B:=grownCap_ge w t.size 0 e;have m:(Lib.bytesCells w e t).size=grownCap w t.size 0 e:=by grind[Lib.bytesCells,Array.size_append,Array.size_map,Array.size_replicate]
  have u:=st.sim.drew;have x:Lib.bytesWorld w e t={w.drew with heap:=w.drew.heap.push (.cells (Lib.bytesCells w e t) e ((Lib.bytesCells w e t).size,(Lib.bytesCells w e t).size+1))}:=by unfold Lib.bytesWorld World.freeze World.alloc;rw[D! g!];show World.mk _ _ _ _ _=World.mk _ _ _ _ _;congr 1;apply Array.ext_getElem?;intro j;have m:w.drew.heap.size=w.heap.size:=rfl;grind
  rw[x];have C:Holds (cx X h H w.drew) (mu L) (Lib.bytesCells w e t) ((Lib.bytesCells w e t).size,(Lib.bytesCells w e t).size+1):=by
   refine⟨λj=>.int .u8 ((L.getD j 0).toNat:Int),by simp[mu];omega,λi M=>?_,λj v g=>?_⟩;grind;unfold mu at g;rw[CO]at g;cases p:L[j]? with
   |none=>grind
   |some s=>
    rw[p]at g;simp only[Bw,Av]at g;subst g;have D_:j<θ L:=by grind[Nat.lt_or_ge,u?]
    have A:L.getD j 0=s:=by rw[R0,p];rfl
    refine⟨?_,rfl,?_⟩;grind[Lib.bytesCells,Array.getElem?_append_left];simp only[A];exact .int _ _
  refine⟨_,_,_,_,rfl,E,.sl (by simp[cx]) (by simp[cx,Gh.at_]) ⟨_,_,by rw[l]⟩ λ_=>.inr ⟨w.heap.size,grownCap w t.size 0 e,?_,o!,?_,by rw[l]⟩,u.push _ e _ (mu L) C,HT.drew.trans (HT.push _ _ _)⟩;have:w.drew.heap.size=w.heap.size:=rfl;simp[cx,Gh.at_,this];simp only[cx,Gh.at_,if_true];omega
theorem qW{e:TypeId}(f:o.op=.convert b I d)(h:P.underlying b=D r)(c:P.underlying I=D (.slice e))(a:P.underlying e=D (.int .u8))
  (i:BR env d=.str L) (j:K (.sl (θ H) (θ L) 1 0 (θ L)) (H++[.live (θ L) (mu L)])):Jy P N o env H K:=by
 refine Jy.regen (id:=θ H) (g:=0) (g':=θ L) (cs:=mu L) (H1:=H++[.live 0 (mu L)]) (sz:=1) (off:=0) (n:=θ L) (BS _) k! (pC f h c a i ⟨rfl,rfl⟩) q!
end
def Fp.virtC{N}{env}{b A i sz:Nat}(Q:q[b]?=D (Fv.live A g))(hi:g[i]?=D .nils):
  Fp N (θ q) env q env (q.set b (.live A (g.set i (.sl (θ q) 0 sz 0 0)))++[.live 0 []]):=by
 have J:b<θ q:=by rcases A1 b (θ q)with P|P;exact P;rw[Cz P]at Q;cases Q
 refine⟨k!,λX h a w s=>⟨h.at_ (θ q) ε 0 0,?_,λid ap=>by simp[Gh.at_,Bq ap],?_⟩⟩;have O:=s.sim.virt;have hx:=HT.virt (h:=h) (H:=q) (w:=w);have W:=hx.later X
 have key:∀(j:Nat)(e:Fv),(q.set b (.live A (g.set i (.sl (θ q) 0 sz 0 0)))++[Fv.live 0 []])[j]?=D e→
   (j≠b/\(q++[Fv.live 0 []])[j]?=D e)\/(j=b/\e=.live A (g.set i (.sl (θ q) 0 sz 0 0))):=by
  intro j e p;rcases A1 j (θ q)with y|y;rw[Cb (by simpa using y),R2]at p;split at p;rename_i G;subst G;injection p with p;exact .inr ⟨rfl,p.symm⟩;rename_i G;exact .inl ⟨λe=>G e.symm,by rw[Cb y];exact p⟩;refine .inl ⟨o!,?_⟩;rw[Cu (by simpa using y)]at p;rw[Cu y];simpa using p
 have E:∀B,owned (h.at_ (θ q) ε 0 0) (q.set b (.live A (g.set i (.sl (θ q) 0 sz 0 0)))++[.live 0 []]) B->owned (h.at_ (θ q) ε 0 0) (q++[.live 0 []]) B:=by rintro B ⟨j,e,p,z,o⟩;rcases key j e p with⟨_,H⟩|⟨rfl,rfl⟩;exact⟨j,e,H,z,o⟩;exact⟨j,_,by rw[Cb J];exact Q,k!,o⟩
 have C:(cx X (h.at_ (θ q) ε 0 0) (q++[.live 0 []]) w).Later (cx X (h.at_ (θ q) ε 0 0) (q.set b (.live A (g.set i (.sl (θ q) 0 sz 0 0)))++[.live 0 []]) w):={size:=Ao _,keep:=λ_ _ _ _=>rfl,own:=λB _ ho=>ho.imp _root_.id (E B),n:=by simp[cx],gen:=λ_ _=>Ao _,same:=λ_ _ _=>⟨rfl,rfl⟩}
 refine⟨⟨λB Y=>⟨(O.out B Y).1,λho=>(O.out B Y).2 (E B ho)⟩,λj g0 ad p=>?_,λj L p=>?_,λj k e e' B H P ax a0 h3 h4=>?_,O.bldKeep λj e p Y=>?_⟩,λt v m=>?_,s.size⟩;rcases key j _ p with⟨_,H⟩|⟨rfl,H⟩;obtain⟨U,hh⟩:=O.live j g0 ad H;refine⟨U,?_⟩;rcases hh with⟨o,h0⟩|⟨B,F,T,fz,f,o,I,x,M,K,l⟩;exact .inl ⟨o,h0⟩;exact .inr ⟨B,F,T,fz,f,o,I,x,M,K,λk v u=>⟨(l k v u).1,(l k v u).2.1,(l k v u).2.2.later C⟩⟩;injection H with h5 h6;subst h5 h6;obtain⟨U,hh⟩:=O.live j g0 g (by rw[Cb J];exact Q);refine⟨U,?_⟩;rcases hh with⟨o,h0⟩|⟨B,F,T,fz,f,o,I,x,M,K,l⟩;subst h0;simp at hi;refine .inr ⟨B,F,T,fz,f,o,I,x,by simpa using M,K,λk v u=>?_⟩;rw[R2]at u;split at u;rename_i ar;subst ar;split at u;injection u with u;subst u;obtain⟨p1,Z,p3⟩:=l i _ hi;refine⟨p1,Z,?_⟩;generalize f i=c at p3 Z;cases p3;exact .sl (by simp[cx]) (by simp[cx,Gh.at_]) ⟨_,_,rfl⟩ λ_=>.inl ⟨by simp[cx,Gh.at_],rfl,rfl,rfl⟩;cases u;obtain⟨p1,Z,p3⟩:=l k v u;exact⟨p1,Z,p3.later C⟩;rcases key j _ p with⟨_,H⟩|⟨rfl,H⟩;obtain⟨U,B,r,q1,q2,q3,q4,q5,q6,q7,q8,q9⟩:=O.lp j L H;exact⟨U,B,r,q1,q2,q3,q4,q5,q6,q7,q8,λt v m=>⟨(q9 t v m).1,(q9 t v m).2.later C⟩⟩;cases H;have back:∀{j:Nat}{e:Fv},(q.set b (.live A (g.set i (.sl (θ q) 0 sz 0 0)))++[Fv.live 0 []])[j]?=D e->e≠.dead->∃e0,(q++[Fv.live 0 []])[j]?=D e0/\e0≠.dead:=by intro j e p z;rcases key j _ p with⟨_,H⟩|⟨rfl,H⟩;exact⟨e,H,z⟩;exact⟨_,by rw[Cb J];exact Q,k!⟩
 obtain⟨d,al,ao⟩:=back H ax;obtain⟨d',R,S⟩:=back P a0;exact O.inj j k _ _ B al R ao S h3 h4;rcases key j _ p with⟨_,H⟩|⟨rfl,H⟩;exact⟨H,rfl,rfl,rfl,λ_ _ _ _ _=>rfl⟩;subst H;cases Y;exact⟨(s.env t v m).1,((s.env t v m).2.later W).later C⟩;rintro B ⟨j,e,p,z,o⟩;rcases A1 j (θ q)with y|y;have D_:h.io j=D B:=by simpa[Gh.at_,Bq y]using o
 by_cases V:j=b;subst V;exact⟨j,_,Q,k!,D_⟩;rw[Cb (by simpa using y),Dl (V ·.symm)]at p;exact⟨j,e,p,z,D_⟩;rw[Cu (by simpa using y)]at p;have:j=θ q:=by rcases Nat.eq_or_lt_of_le y with e|P;exact e.symm;rw[Cz w!]at p;cases p
 subst this;simp[Gh.at_]at o
def B3.nil_vs(a:0<N)(r:B3 y .nils K):B3 y (.vs N []) K:=by cases r;exact B3.vs (rows:=[]) (cap:=0) (λ_ _=>undef) (Ao _) a (λ_ _ h=>by simp at h) (λh=>(h rfl).elim) λ_ _ _ _ h=>by simp at h
def Fp.subset{N}{env2:Env}{H:Ay}(h:∀q∈env2,q∈A):Fp N (θ H) A H env2 H:=⟨Ao _,λ_ g _ _ s=>⟨g,⟨s.sim,λt v m=>s.env t v (h _ m),s.size⟩,λ_ _=>⟨rfl,rfl,rfl⟩,λ_ h=>h⟩⟩
section
variable {P:Program}
theorem ACx{b:Operand→Af}{d}(h:callT b d=D (.inl (z,g))):
  ∃c f first a,d=.call c/\c.callee=.value f/\b f=.fn (.func z) first a/\g=first++c.args.toList.map b++a:=by
 unfold callT at h;grind
section
variable {N:Nat}{o:Oper}{env:Env}{H H':Ay}{v:Af}
def lH{F:FuncId}{vs:E Af}(h:callT (BR env) o.op=D (.inl (F,vs)))(d:Enters P F=ζ)(e:E8 P F vs H (DN v H')):Jy P N o env H (DN v H'):=by obtain⟨c,f,first,b,i,a,g,rfl⟩:=ACx h;exact qV i a g d e
end
end
mutual
theorem Rt{p q:Nat->Bool}(h:∀id,p id=ζ->q id=ζ):∀v:Af,v.idsAll p=ζ->v.idsAll q=ζ
 |.ptr id g off,k=>h id k
 |.sl id g sz off len,k=>h id k
 |.yf id,k=>h id k
 |.mp id,k=>h id k
 |.itp id m,k=>by simp only[Af.idsAll,BQ]at k⊢;exact⟨h id k.1,h m k.2⟩
 |.vptr cs,k=>Jw h cs k
 |.vs sz rows,k=>Jw h rows k
 |.fn f a b,k=>by simp only[Af.idsAll,BQ]at k⊢;exact⟨Jw h a k.1,Jw h b k.2⟩
 |.agg cs,k=>Jw h cs k
 |.tup cs,k=>Jw h cs k
 |.bool _,_=>rfl
 |.int _ _,_=>rfl
 |.str _,_=>rfl
 |.nilp,_=>rfl
 |.nils,_=>rfl
 |.nilf,_=>rfl
 |.any,_=>rfl
theorem Jw{p q:Nat->Bool}(h:∀id,p id=ζ->q id=ζ):∀l:E Af,Af.idsAllL p l=ζ->Af.idsAllL q l=ζ
 |[],_=>rfl
 |v::r,k=>by simp only[Af.idsAllL,BQ]at k⊢;exact⟨Rt h v k.1,Jw h r k.2⟩
end
mutual
theorem AFl(c d:Nat->Nat):∀v:Af,(v.ren c).ren d=v.ren λid=>d (c id)
 |.ptr id g i=>rfl
 |.sl id g sz i len=>rfl
 |.yf id=>rfl
 |.mp id=>rfl
 |.itp _ _=>rfl
 |.vptr e=>by simp only[Af.ren,Uu c d e]
 |.vs sz h=>by simp only[Af.ren,Uu c d h]
 |.fn f a b=>by simp only[Af.ren,Uu c d a,Uu c d b]
 |.agg e=>by simp only[Af.ren,Uu c d e]
 |.tup e=>by simp only[Af.ren,Uu c d e]
 |.bool _=>rfl
 |.int _ _=>rfl
 |.str _=>rfl
 |.nilp=>rfl
 |.nils=>rfl
 |.nilf=>rfl
 |.any=>rfl
theorem Uu(a b:Nat->Nat):∀l:E Af,Af.renL b (Af.renL a l)=Af.renL (λid=>b (a id)) l
 |[]=>rfl
 |v::r=>by simp only[Af.renL,AFl a b v,Uu a b r]
end
mutual
theorem AAq{p q:Nat->Bool}{c:Nat->Nat}(h:∀id,p id=ζ->q (c id)=ζ):∀v:Af,v.idsAll p=ζ->(v.ren c).idsAll q=ζ
 |.ptr id g off,k=>h id k
 |.sl id g sz off len,k=>h id k
 |.yf id,k=>h id k
 |.mp id,k=>h id k
 |.itp id m,k=>by simp only[Af.ren,Af.idsAll,BQ]at k⊢;exact⟨h id k.1,h m k.2⟩
 |.vptr cs,k=>PV h cs k
 |.vs sz rows,k=>PV h rows k
 |.fn f a b,k=>by simp only[Af.ren,Af.idsAll,BQ]at k⊢;exact⟨PV h a k.1,PV h b k.2⟩
 |.agg cs,k=>PV h cs k
 |.tup cs,k=>PV h cs k
 |.bool _,_=>rfl
 |.int _ _,_=>rfl
 |.str _,_=>rfl
 |.nilp,_=>rfl
 |.nils,_=>rfl
 |.nilf,_=>rfl
 |.any,_=>rfl
theorem PV{p q:Nat->Bool}{a:Nat->Nat}(h:∀id,p id=ζ->q (a id)=ζ):∀l:E Af,Af.idsAllL p l=ζ->Af.idsAllL q (Af.renL a l)=ζ
 |[],_=>rfl
 |v::r,k=>by simp only[Af.renL,Af.idsAllL,BQ]at k⊢;exact⟨AAq h v k.1,PV h r k.2⟩
end
def Pure(v:Af):Prop:=v.idsAll (λ_=>η)=ζ
def tR(e:Fv):Prop:=match e with|.live _ cs=>Af.idsAllL (λ_=>η) cs=ζ|_=>False
def Pure.all(h:Pure v)(p:Nat->Bool):v.idsAll p=ζ:=Rt (λ_ e=>by cases e) v h
def Pure.ren{v}(h:Pure v)(ρ:Nat->Nat):v.ren ρ=v:=ABP (p:=λ_=>η) (λ_ e=>by cases e) v h
def tR.all(h:tR x)(p:Nat->Bool):x.idsAll p=ζ:=by
 cases x with
 |live g a=>exact Jw (λ_ x=>by cases x) a h
 |_=>cases h
def tR.ren(h:tR x)(ρ:Nat->Nat):x.ren ρ=x:=by
 cases x with
 |live g a=>simp only[Fv.ren];rw[YO (p:=λ_=>η) (λ_ x=>by cases x) a h]
 |_=>cases h
theorem E8.sub{P:Program}(bs:Ψ Nat){Qc:Af→Ay→Prop}(a:bs.Nodup)(K:∀b∈bs,b<θ q)
  (t:∀b∈bs,((q.getD b .dead).idsAll λid=>decide (id∈bs))=ζ) (k:Af.idsAllL (λid=>decide (id∈bs)) g=ζ)
  (y:E8 P z (Af.renL (bs.idxOf ·) g) (Z8 q bs) Qc) (A:∀v i,Qc v i->W (v.ren (Tu q bs)) (Vm q bs i)):E8 P z g q W:=by
 intro X h w c s o f;refine(y (Xs X h q bs) (XV h bs) w c (s.sub a t) (by simpa[PO]using o) ?_).mono ?_;intro j v d l H;rw[PO,CO]at l;cases r:g[j]? with
 |none=>grind
 |some u=>rw[r]at l;simp at l;subst l;exact B3.ren (p:=λid=>decide (id∈bs)) (yT ·) rfl AF3 (f j u d r H) (Nj k r)
 rintro e E ⟨d,v,m,i,rfl,F,D_,C,x⟩;have B:θ bs<=θ i:=by have:=x.n;simpa[Z8]using this
 exact⟨d,_,OM h q bs m,Vm q bs i,rfl,A v i F,s.back a K x D_,B3.back a K B C,HT.back a K x⟩
theorem sT{f:Nat->Nat}:∀bs(H a:Ay),(∀e∈a,tR e)->cL f H bs a=AHx H (bs.zip a)
 |[],H,a,_=>by cases a<;>rfl
 |b::bs,H,[],_=>rfl
 |b::bs,H,e::es,h=>by simp only[cL,List.zip_cons_cons,AHx];rw[(h e k!).ren,sT bs _ es λc d=>h c (by simp[d])]
theorem VP{d c H:Ay}(bs:E Nat)(y:E8 P z g d (DN v c))(l:bs.Nodup)(w:θ d=θ bs)(x:θ c=θ bs)
  (m:∀(j b:Nat)(e:Fv),bs[j]?=D b->d[j]?=D e->H[b]?=D e) (o:∀e∈d,tR e) (A:∀e∈c,tR e) (s:Pure v)
  (q:Af.renL (bs.getD · 0) g=U) (F:Af.idsAllL (λj=>decide (j<θ bs)) g=ζ):E8 P z U H (DN v (AHx H (bs.zip c))):=by
 have get:∀b∈bs,∃(j:Nat)(e:Fv),bs[j]?=D b/\d[j]?=D e/\H[b]?=D e:=by
  intro b i;obtain⟨j,n,e⟩:=RM.1 i;have h:bs[j]?=D b:=q!
  have f:d[j]?=D (d[j]' o!):=Au o!;exact⟨j,_,h,f,m j b _ h f⟩
 have k:∀b∈bs,b<θ H:=q!
 have a:Z8 H bs=d:=by
  apply Jc;intro j;unfold Z8;rw[CO];cases n:bs[j]? with
  |none=>grind[List.getElem?_eq_none_iff,u?]
  |some b=>
   have r:j<θ bs:=by grind[Nat.lt_or_ge,u?]
   have f:d[j]?=D (d[j]' o!):=Au o!;have p:=m j b _ n f;rw[f,Bw,R0,p,Yo,(o _ (KM _)).ren]
 refine E8.sub bs (Qc:=DN v c) l k (λb i=>?_) ?_ ?_ ?_;obtain⟨j,e,_,h,f⟩:=get b i;rw[R0,f,Yo];exact(o e (BP h)).all _;grind[PV,m?,List.getElem_mem];rw[a,<-q,Uu];grind[Af.renL,YO,qh,m?];rintro u t ⟨rfl,rfl⟩;refine⟨s.ren _,?_⟩;grind[Vm,sT,List.drop_eq_nil_of_le]
structure S1(α:Type)where
 sz:Nat
 f:α->Af
 pos:0<sz
 len:∀x,(f x).cells.length=sz
 pure:∀x,Pure (f x)
def S1.cl(e:S1 R)(l:E R):E Af:=(l.map e.f).flatMap Af.cells
theorem S1.clen{a:Type}(e:S1 a):∀l:E a,(e.cl l).length=θ l*e.sz
 |[]=>by simp[S1.cl]
 |x::l=>by have:=S1.clen e l;simp only[S1.cl,Bs,H8,AV,e.len]at this⊢;grind
def xd(k:IntKind):S1 Int:=⟨1,.int k,g!,λ_=>rfl,λ_=>rfl⟩
abbrev Bc:=E UInt8
def ix{α:Type}(l:List α)(i:Int):Option α:=if 0<=i then l[i.toNat]? else ε
def app{α:Type}(l xs:E α):Ω (E α):=if θ l+θ xs<=16777216 then D (l++xs)else ε
theorem AK7{f:R->Af}{l}{x:R}(h:ix l i=D x):0<=i/\(l.map f)[i.toNat]?=D (f x):=by unfold ix at h;grind
theorem oR{l a r:E R}(h:app l a=D r):θ l+θ a<=16777216/\r=l++a:=by grind[app]
def AFN(e:S1 R)(l:E R):ABn e.sz (e.cl l) (l.map e.f):=⟨e.pos,λv b=>by obtain⟨x,_,rfl⟩:=BY.1 b;exact e.len x,rfl⟩
inductive Step(S R:Type)where
 |next (s:S)
 |done (r:R)
def fH{S R:Type}(body:S->Ω (Step S R)):Nat->S->Ω R
 |0,_=>ε
 |n+1,s=>
  match body s with
  |some (.next s')=>fH body n s'
  |some (.done r)=>D r
  |none=>ε
theorem AAy{body:e->Ω (Step e R)}{s:e}{r:R}(h:fH body n s=D r):fH body (n+1) s=D r:=by induction n generalizing s<;>grind[fH]
theorem AE9{body:e->Ω (Step e R)}{s:e}{r:R}(h:fH body n s=D r)(a:n<=N):fH body N s=D r:=by induction a<;>grind[AAy]
open Classical in
noncomputable def Ak{S R:Type}(body:S->Ω (Step S R))(s:S):Ω R:=if h:∃r n,fH body n s=D r then D h.choose else ε
theorem mJ{body:e->Ω (Step e R)}{s:e}{r:R}:Ak body s=D r↔∃n,fH body n s=D r:=by
 unfold Ak;constructor;intro h;split at h<;>grind;rintro⟨n,hn⟩;have a:∃r n,fH body n s=D r:=⟨r,n,hn⟩
 grind[AE9]
theorem Df{S R:Type}(body:S→Ω (Step S R))(s:S):Ak body s=match body s with
  |some (.next b)=>Ak body b
  |some (.done r)=>D r
  |none=>ε:=by
 apply Option.ext;intro r;rw[mJ];constructor
 ·rintro⟨n,h⟩;cases n with
  |zero=>cases h
  |succ n=>
   rw[fH]at h;cases a:body s with
   |none=>rw[a]at h;cases h
   |some q=>
    rw[a]at h;cases q with
    |next b=>exact mJ.2 ⟨n,h⟩
    |done r=>exact h
 ·intro h;cases a:body s with
  |none=>rw[a]at h;cases h
  |some q=>
   rw[a]at h;cases q with
   |next b=>obtain⟨n,hn⟩:=mJ.1 h;exact⟨n+1,by rw[fH,a];exact hn⟩
   |done c=>exact⟨1,by rw[fH,a];exact h⟩
def ADK{body:e->Ω (Step e R)}(C:e->R->Prop)(c:∀s b r,body s=D (.next b)->C b r->C s r)(d:∀s r,body s=D (.done r)->C s r){s:e}{r:R}(h:Ak body s=D r):C s r:=by
 obtain⟨n,hn⟩:=mJ.1 h;clear h;induction n generalizing s with
 |zero=>cases hn
 |succ n S=>
  rw[fH]at hn;cases a:body s with
  |none=>rw[a]at hn;cases hn
  |some q=>
   rw[a]at hn;cases q with
   |next b=>exact c s b r a (S hn)
   |done f=>injection hn with hn;subst hn;exact d s f a
theorem bnd{x:Ω R}{k:R->Ω e}{r:e}(h:x.bind k=D r):∃a,x=D a/\k a=D r:=by cases x<;>grind
abbrev Ge(n:Nat)(α:Type):=Fin n->α
def Ge.all{n}{α:Type}(x:α):Ge n α:=λ_=>x
def fq(n:Nat)(e:S1 R)(a:Ge n R):E Af:=(List.finRange n).flatMap λi=>(e.f (a i)).cells
def AEN(n:Nat)(e:S1 R)(a:Ge n R):(fq n e a).length=n*e.sz:=by
 unfold fq;have:∀l:E (Fin n),(l.flatMap λi=>(e.f (a i)).cells).length=θ l*e.sz:=by
  intro l;induction l with
  |nil=>simp
  |cons x l c=>rw[H8,AV,c,e.len];simp[Ec,WT]
 rw[this,List.length_finRange]
def HF{n:Nat}(a:Ge n R)(i:Int):Option R:=if h:0<=i/\i.toNat<n then δ (a ⟨i.toNat,h.2⟩)else ε
def W6{n}(a:Ge n R)(i:Int)(v:R):Ge n R:=λj=>if(j.val:Int)=i then v else a j
theorem pn{a}{x:R}(h:HF a i=D x):0<=i/\∃k:Fin n,i=(k.val:Int)/\a k=x:=by grind[HF]
theorem uV(g:R→E e)(sz:Nat)(c:∀x,(g x).length=sz)(l1:E R)(x:R)(l2:E R):
  (l1++x::l2).flatMap g=l1.flatMap g++g x++l2.flatMap g/\(l1.flatMap g).length=θ l1*sz:=by
 induction l1<;>grind
theorem uQ(k:Fin n):∃l1 l2,List.finRange n=l1++k::l2/\θ l1=k.val/\k∉l1/\k∉l2:=by
 refine⟨(List.finRange n).take k.val,(List.finRange n).drop (k.val+1),?_,q!,?_,?_⟩;have a:(List.finRange n).drop k.val=k::(List.finRange n).drop (k.val+1):=by rw[KH k!];simp
 rw[<-a,C4];intro h;obtain⟨i,b,e⟩:=RM.1 h;grind;intro h;obtain⟨i,b,e⟩:=RM.1 h;grind
theorem th(e:S1 R)(a:Ge n R)(k:Fin n):∃b c,fq n e a=b++(e.f (a k)).cells++c∧θ b=k.val*e.sz∧
  ∀v,fq n e (W6 a k.val v)=b++(e.f v).cells++c:=by
 obtain⟨l1,l2,g,h,m,o⟩:=uQ k;unfold fq;rw[g];obtain⟨p,q⟩:=uV (λi=>(e.f (a i)).cells) e.sz (λi=>e.len _) l1 k l2;refine⟨_,_,p,by rw[q,h],λv=>?_⟩;have r:∀j,j≠k->W6 a k.val v j=a j:=by grind[W6]
 have l:W6 a k.val v k=v:=by grind[W6]
 rw[(uV (λi=>(e.f (W6 a k.val v i)).cells) e.sz (λi=>e.len _) l1 k l2).1];grind[List.map_congr_left]
section
variable {α:Type}{n:Nat} (e:S1 α) {a:Ge n α}{i:Int}{x:α}
theorem AEO(h:HF a i=D x)(pre b:E Af):(pre++fq n e a++b).length=θ pre+n*e.sz+θ b∧θ pre+i.toNat*e.sz+e.sz≤(pre++fq n e a++b).length∧
  ((pre++fq n e a++b).drop (θ pre+i.toNat*e.sz)).take e.sz=(e.f x).cells/\∀v,XS (pre++fq n e a++b) (θ pre+i.toNat*e.sz) (e.f v).cells=pre++fq n e (W6 a i v)++b:=by
 obtain⟨r,k,rfl,rfl⟩:=pn h;obtain⟨c,d,j,l,m⟩:=th e a k;have o:((k.val:Int)).toNat=k.val:=k!
 have g:=AEN n e a;have q:=e.len (a k);refine⟨q!,?_,?_,λv=>?_⟩;grind;grind;have p:=e.len v;rw[m v,j,o,<-l];have:(pre++(c++(e.f (a k)).cells++d)++b)=(pre++c)++((e.f (a k)).cells++(d++b)):=k!
 rw[this];unfold XS;rw[<-AV,Yl,p,<-q,YT,lj o!];simp
theorem AEJ{off m:Nat}(pre b:E Af)(h:HF a i=D x)(c:off+m<=e.sz):θ pre+i.toNat*e.sz+off+m<=(pre++fq n e a++b).length/\((pre++fq n e a++b).drop (θ pre+i.toNat*e.sz+off)).take m=((e.f x).cells.drop off).take m:=by obtain⟨_,d,g,_⟩:=AEO e h pre b;grind[List.drop_take,List.drop_drop]
end
def sapp(a b:Bc):Ω Bc:=if θ a+θ b<=9223372036854775807 then D (a++b)else ε
theorem AJH{a b r:Bc}(h:sapp a b=D r):(if θ a+θ b<=9223372036854775807 then D (Af.str (a++b))else ε)=D (.str r):=by grind[sapp]
def SH(s:Bc)(lo hi:Int):Ω Bc:=if 0<=lo/\lo<=hi/\hi<=θ s then D ((s.drop lo.toNat).take (hi.toNat-lo.toNat))else ε
def Wp(s:E R)(lo hi:Int):Ω (E R):=if 0<=lo/\lo<=hi/\hi<=θ s then D ((s.drop lo.toNat).take (hi.toNat-lo.toNat))else ε
def Ew(l:E Int):Bc:=l.map λn=>UInt8.ofNat n.toNat
theorem yV:∀l:E Int,u8s (l.map (xd .u8).f)=D (Ew l)
 |[]=>rfl
 |n::l=>by have:=yV l;simp;simp only[xd]at this⊢;simp only[u8s,this];rfl
def AI0(k:IntKind)(l:E Int):(xd k).cl l=l.map (xd k).f:=by
 unfold S1.cl;induction l with
 |nil=>rfl
 |cons x l a=>simp only[Bs,H8,a];rfl
theorem AFM(l:E Int)(c:kd P I=.str)(d:kd P b=.bytes):
  Xy P q b I (.vs 1 (l.map (xd .u8).f))=D (.str (Ew l)):=by
 simp only[Xy,rowsOf];have:(l.map (xd .u8).f).flatMap Af.cells=l.map (xd .u8).f:=AI0 .u8 l;grind[yV]
def AAz{body:e->Ω (Step e R)}{C:e->R->Prop}(h:∀s q,body s=D q->match q with|.next d=>∀o,C d o->C s o|.done o=>C s o){s:e}{o:R}(b:Ak body s=D o):C s o:=ADK C (λs _ r a c=>h s _ a r c) (λs _ a=>h s _ a) b
def mk(x:R)(l c:Int):Option (List R):=if 0<=l/\l<=c/\c<=16777216 then δ (ς l.toNat x)else ε
theorem AK8(e:S1 R)(x:R){c:Int}{r:List R}(h:mk x i c=δ r):(0<=i/\i<=c/\c<=16777216)/\i.toNat=θ r/\(ς i.toNat (e.f x).cells).flatten=e.cl r:=by unfold mk at h;split at h;rename_i b;injection h with h;subst h;unfold S1.cl;induction i.toNat<;>grind;cases h
def Tn(s:Bc):E Int:=s.map λb=>(b.toNat:Int)
def AKM(s:Bc):θ s=(Tn s).length/\mu s=(xd .u8).cl (Tn s):=by
 refine⟨by simp[Tn],?_⟩;unfold S1.cl Tn mu;induction s with
 |nil=>rfl
 |cons b r a=>simp only[Bs,a];rfl
def six(s:Bc)(i:Int):Option Int:=if 0<=i then(s[i.toNat]?).map λb=>(b.toNat:Int)else ε
theorem AKL{s}{x:Int}(h:six s i=D x)(a:kd P b=.str):lC P b (.str s) (.int B i)=D (.int .u8 x):=by grind[six,lC]
def uD(e:S1 R){l}{x:R}(h:ix l i=D x):∃d j,e.cl l=d++(e.f x).cells++j/\θ d=i.toNat*e.sz/\0<=i/\i.toNat<θ l/\l[i.toNat]?=D x/\∀v,e.cl (l.set i.toNat v)=d++(e.f v).cells++j:=by
 unfold ix at h;split at h
 case isFalse=>cases h
 rename_i k;obtain⟨c,n⟩:=Gb.1 h;have m:l=l.take i.toNat++x::l.drop (i.toNat+1):=by rw[<-n,<-KH c,C4]
 have b:∀v,l.set i.toNat v=l.take i.toNat++v::l.drop (i.toNat+1):=λv=>by rw[List.set_eq_take_append_cons_drop,C! c]
 have a:∀v,e.cl (l.take i.toNat++v::l.drop (i.toNat+1))=e.cl (l.take i.toNat)++(e.f v).cells++e.cl (l.drop (i.toNat+1)):=λv=>by simp[S1.cl]
 refine⟨e.cl (l.take i.toNat),e.cl (l.drop (i.toNat+1)),?_,?_,k,c,h,λv=>by rw[b,a]⟩;conv=>lhs;rw[m]
 exact a x;rw[e.clen,BU,RQ (Nat.le_of_lt c)]
def Es{α:Type}(l:List α)(i:Int)(v:α):List α:=l.set i.toNat v
def pT{l:E R}{v:R}(h:θ l=n):(Es l i v).length=n:=by rw[<-h];exact Yj
section
variable {α:Type} (e:S1 α) {l:E α}{i:Int}{x:α}
theorem AIr(h:ix l i=D x)(d:N+n<=e.sz):i.toNat*e.sz+N+n<=(e.cl l).length/\((e.cl l).drop (i.toNat*e.sz+N)).take n=((e.f x).cells.drop N).take n:=by obtain⟨j,k,b,c,_⟩:=uD e h;have g:=e.len x;rw[b,<-c];refine⟨q!,?_⟩;rw[A2,YT,lj o!,Bt,Tr,YT,fb,DO,g,show n-(e.sz-N)=0 by omega];simp
end
mutual
def Af.beq:Af->Af->Bool
 |.bool a,.bool b=>a==b
 |.int k n,.int k' n'=>decide (k=k')&&τ (n=n')
 |.str s,.str t=>decide (s=t)
 |.nilp,.nilp=>ζ
 |.nils,.nils=>ζ
 |.nilf,.nilf=>ζ
 |.ptr a b c,.ptr a' b' c'=>decide (a=a')&&(τ (b=b')&&τ (c=c'))
 |.vptr cs,.vptr ds=>Af.beqL cs ds
 |.vs a cs,.vs b ds=>decide (a=b)&&Af.beqL cs ds
 |.sl a b c d e,.sl a' b' c' d' e'=>decide (a=a')&&(τ (b=b')&&(τ (c=c')&&(τ (d=d')&&τ (e=e'))))
 |.agg cs,.agg ds=>Af.beqL cs ds
 |.tup cs,.tup ds=>Af.beqL cs ds
 |_,_=>η
def Af.beqL:E Af->E Af->Bool
 |[],[]=>ζ
 |a::r,b::s=>Af.beq a b&&Af.beqL r s
 |_,_=>η
end
mutual
theorem beq_eq:∀a b,Af.beq a b=ζ->a=b
 |.bool a,b,h=>by cases b<;>simp[Af.beq]at h;rw[h]
 |.int k n,b,h=>by cases b<;>simp[Af.beq]at h;rw[h.1,h.2]
 |.str s,b,h=>by cases b<;>simp[Af.beq]at h;rw[h]
 |.nilp,b,h=>by cases b<;>simp[Af.beq]at h;rfl
 |.nils,b,h=>by cases b<;>simp[Af.beq]at h;rfl
 |.nilf,b,h=>by cases b<;>simp[Af.beq]at h;rfl
 |.ptr _ _ _,b,h=>by cases b<;>simp[Af.beq]at h;rw[h.1,h.2.1,h.2.2]
 |.vptr cs,b,h=>by cases b<;>simp[Af.beq]at h;rw[lz cs _ h]
 |.vs a cs,b,h=>by cases b<;>simp[Af.beq]at h;rw[h.1,lz cs _ h.2]
 |.sl _ _ _ _ _,b,h=>by cases b<;>simp[Af.beq]at h;rw[h.1,h.2.1,h.2.2.1,h.2.2.2.1,h.2.2.2.2]
 |.agg cs,b,h=>by cases b<;>simp[Af.beq]at h;rw[lz cs _ h]
 |.tup cs,b,h=>by cases b<;>simp[Af.beq]at h;rw[lz cs _ h]
 |.fn _ _ _,b,h=>by cases b<;>simp[Af.beq]at h
 |.yf _,b,h=>by cases b<;>simp[Af.beq]at h
 |.mp _,b,h=>by cases b<;>simp[Af.beq]at h
 |.itp _ _,b,h=>by cases b<;>simp[Af.beq]at h
 |.any,b,h=>by cases b<;>simp[Af.beq]at h
theorem lz:∀a b,Af.beqL a b=ζ->a=b
 |[],b,h=>by cases b<;>simp[Af.beqL]at h;rfl
 |x::r,b,h=>by
  cases b with
  |nil=>simp[Af.beqL]at h
  |cons y s=>simp only[Af.beqL,BQ]at h;rw[beq_eq x y h.1,lz r s h.2]
end
mutual
inductive Ty where
 |bool
 |int (k:IntKind)
 |str
 |list (t:Ty)
 |arr (n:Nat) (t:Ty)
 |prod (ts:Sz)
inductive Sz where
 |one (t:Ty)
 |cons (t:Ty) (ts:Sz)
end
mutual
@[reducible] def Ty.D:Ty->Type
 |.bool=>Bool
 |.int _=>Int
 |.str=>E UInt8
 |.list t=>E t.D
 |.arr n t=>Ge (n+1) t.D
 |.prod ts=>ts.D
@[reducible] def Sz.D:Sz->Type
 |.one t=>t.D
 |.cons t ts=>t.D×ts.D
end
mutual
def Ty.sz:Ty->Nat
 |.bool=>1
 |.int _=>1
 |.str=>1
 |.list _=>1
 |.arr n t=>(n+1)*t.sz
 |.prod ts=>ts.sz
def Sz.sz:Sz->Nat
 |.one t=>t.sz
 |.cons t ts=>t.sz+ts.sz
end
mutual
def Ty.enc:(t:Ty)->t.D->Af
 |.bool,b=>.bool b
 |.int k,n=>.int k n
 |.str,s=>.str s
 |.list t,l=>.vs t.sz (l.map t.enc)
 |.arr n t,a=>.agg ((List.finRange (n+1)).flatMap λi=>(t.enc (a i)).cells)
 |.prod ts,x=>.agg (ts.cells x)
def Sz.cells:(ts:Sz)->ts.D->E Af
 |.one t,x=>(t.enc x).cells
 |.cons t ts,x=>(t.enc x.1).cells++ts.cells x.2
end
mutual
theorem Ty.sz_pos:∀t:Ty,0<t.sz
 |.bool=>g!
 |.int _=>by simp[Ty.sz]
 |.str=>g!
 |.list _=>by simp[Ty.sz]
 |.arr n t=>by simp only[Ty.sz];exact Nat.mul_pos (Nat.succ_pos n) t.sz_pos
 |.prod a=>by simp only[Ty.sz];exact a.sz_pos
theorem Sz.sz_pos:∀a:Sz,0<a.sz
 |.one t=>by simp only[Sz.sz];exact t.sz_pos
 |.cons t a=>by simp only[Sz.sz];have:=t.sz_pos;omega
end
mutual
theorem Ty.enc_len:∀(t:Ty)x,(t.enc x).cells.length=t.sz
 |.bool,_=>rfl
 |.int _,_=>rfl
 |.str,_=>rfl
 |.list _,_=>rfl
 |.arr n t,a=>by
  show((List.finRange (n+1)).flatMap λi=>(t.enc (a i)).cells).length=(n+1)*t.sz;have:∀l:E (Fin (n+1)),(l.flatMap λi=>(t.enc (a i)).cells).length=θ l*t.sz:=by
   intro l;induction l with
   |nil=>simp
   |cons x l b=>rw[H8,AV,b,t.enc_len];simp[Ec,WT]
  rw[this,List.length_finRange]
 |.prod ts,x=>ts.cells_len x
theorem Sz.cells_len:∀(a:Sz)x,(a.cells x).length=a.sz
 |.one t,x=>by simp only[Sz.cells,Sz.sz];exact t.enc_len x
 |.cons t a,x=>by simp only[Sz.cells,Sz.sz,AV];rw[t.enc_len,a.cells_len]
end
mutual
theorem Ty.enc_pure:∀(t:Ty)x,Pure (t.enc x)
 |.bool,_=>rfl
 |.int _,_=>rfl
 |.str,_=>rfl
 |.list t,l=>by unfold Pure;show Af.idsAllL _ (l.map t.enc)=ζ;rw[D7];intro v b;obtain⟨x,_,rfl⟩:=BY.1 b;exact t.enc_pure x
 |.arr n t,a=>by unfold Pure;show Af.idsAllL _ ((List.finRange (n+1)).flatMap λi=>(t.enc (a i)).cells)=ζ;rw[D7];intro v b;obtain⟨i,_,b⟩:=En.1 b;exact Vl (t.enc_pure _) v b
 |.prod ts,x=>by unfold Pure;show Af.idsAllL _ (ts.cells x)=ζ;rw[D7];exact ts.cells_pure x
theorem Sz.cells_pure:∀(b:Sz)x,∀v∈b.cells x,Pure v
 |.one t,x,v,a=>Vl (t.enc_pure x) v a
 |.cons t b,x,v,a=>by simp only[Sz.cells,Ah]at a;rcases a with a|a;exact Vl (t.enc_pure _) v a;exact b.cells_pure _ v a
end
def Ty.E(t:Ty):S1 t.D:=⟨t.sz,t.enc,t.sz_pos,t.enc_len,t.enc_pure⟩
mutual
def Ty.beq:Ty->Ty->Bool
 |.bool,.bool=>ζ
 |.int k,.int k'=>decide (k=k')
 |.str,.str=>ζ
 |.list t,.list t'=>t.beq t'
 |.arr n t,.arr n' t'=>ξ n n'&&t.beq t'
 |.prod ts,.prod ts'=>ts.beq ts'
 |_,_=>η
def Sz.beq:Sz->Sz->Bool
 |.one t,.one t'=>t.beq t'
 |.cons t ts,.cons t' ts'=>t.beq t'&&ts.beq ts'
 |_,_=>η
end
mutual
theorem Ty.beq_eq:∀(t a:Ty),t.beq a=ζ->t=a
 |.bool,a,h=>by cases a<;>simp[Ty.beq]at h;rfl
 |.int k,a,h=>by cases a<;>simp[Ty.beq]at h;rw[h]
 |.str,a,h=>by cases a<;>simp[Ty.beq]at h;rfl
 |.list t,a,h=>by cases a<;>simp[Ty.beq]at h;rw[t.beq_eq _ h]
 |.arr n t,a,h=>by cases a<;>simp[Ty.beq]at h;rw[h.1,t.beq_eq _ h.2]
 |.prod ts,a,h=>by cases a<;>simp[Ty.beq]at h;rw[ts.beq_eq _ h]
theorem Sz.beq_eq:∀(t a:Sz),t.beq a=ζ->t=a
 |.one t,a,h=>by cases a<;>simp[Sz.beq]at h;rw[t.beq_eq _ h]
 |.cons t ts,a,h=>by cases a<;>simp[Sz.beq]at h;rw[t.beq_eq _ h.1,ts.beq_eq _ h.2]
end
def Ty.cast{t t':Ty}(h:t.beq t'=ζ)(x:t.D):t'.D:=Ty.beq_eq t t' h▸x
variable {t:Ty}
def eE{a:Ty}(h:t.beq a=ζ)(x:t.D):a.enc (Ty.cast h x)=t.enc x:=by have:=Ty.beq_eq t a h;subst this;rfl
mutual
def Ty.zero:(t:Ty)->t.D
 |.bool=>η
 |.int _=>(0:Int)
 |.str=>([]:E UInt8)
 |.list t=>([]:E t.D)
 |.arr n t=>(Ge.all t.zero:Ge (n+1) t.D)
 |.prod ts=>ts.zero
def Sz.zero:(ts:Sz)->ts.D
 |.one t=>t.zero
 |.cons t ts=>(t.zero,ts.zero)
end
inductive B0 where
 |bl (b:Bool)
 |it (k:IntKind) (n:Int)
 |st (s:List UInt8)
 |ls (t:Ty) (l:List t.D)
 |ar (n:Nat) (t:Ty) (a:Ge (n+1) t.D)
 |own (id ver:Nat) (t:Ty) (n:Nat)
 |nil
 |raw (v:Af)
def B0.w:B0->Nat
 |.ar n t _=>(n+1)*t.sz
 |_=>1
def B0.enc:B0->E Af
 |.bl b=>[.bool b]
 |.it k n=>[.int k n]
 |.st s=>[.str s]
 |.ls t l=>[.vs t.sz (l.map t.enc)]
 |.ar n t a=>((Ty.arr n t).enc a).cells
 |.own id _ t n=>[.sl id n t.sz 0 n]
 |.nil=>[.nils]
 |.raw v=>[v]
def B0.one:B0->Af
 |.bl b=>.bool b
 |.it k n=>.int k n
 |.st s=>.str s
 |.ls t l=>.vs t.sz (l.map t.enc)
 |.ar n t a=>(Ty.arr n t).enc a
 |.own id _ t n=>.sl id n t.sz 0 n
 |.nil=>.nils
 |.raw v=>v
def lvs(cs:E B0):E Af:=cs.flatMap B0.enc
def B0.enc_len(x:B0):θ x.enc=x.w:=by
 cases x with
 |ar n t a=>exact Ty.enc_len (.arr n t) a
 |_=>rfl
inductive TV where
 |c (x:B0)
 |g (cs:List B0)
 |aptr (id base n:Nat) (t:Ty) (i:Int) (off:Nat)
 |bptr (id ver:Nat) (t:Ty) (n:Nat) (i:Int) (off:Nat)
 |vw (id ver:Nat) (t:Ty) (n lo m:Nat)
 |vptr (cs:List B0) (post:List Af)
 |tup (vs:List TV)
def vwE(id n sz lo m:Nat):Af:=
 if min m (n-lo)=0 then(if lo=0 then .sl id n sz 0 0 else .vs sz [])else .sl id n sz (lo*sz) (min m (n-lo))
mutual
def TV.enc:TV->Af
 |.c x=>x.one
 |.g cs=>.agg (lvs cs)
 |.aptr id base _ t i off=>.ptr id 0 (base+i.toNat*t.sz+off)
 |.bptr id _ t n i off=>.ptr id n (i.toNat*t.sz+off)
 |.vw id _ t n lo m=>vwE id n t.sz lo m
 |.vptr cs post=>.vptr (lvs cs++post)
 |.tup vs=>.tup (TV.encL vs)
def TV.encL:E TV->E Af
 |[]=>[]
 |v::r=>v.enc::TV.encL r
end
def uL:∀l:E TV,TV.encL l=l.map TV.enc
 |[]=>rfl
 |v::r=>by simp only[TV.encL,Bs,uL r]
abbrev Bi:=E (Nat×TV)
inductive LS where
 |ready
 |busy
 |ret
 |exit (x:Nat)
def LS.st:LS->LoopState
 |.ready=>.ready
 |.busy=>.busy
 |_=>.done
def LS.pend:LS->Ω Code
 |.ret=>D .ret
 |.exit x=>D (.exit x)
 |_=>ε
def LS.beq:LS->LS->Bool
 |.ready,.ready=>ζ
 |.busy,.busy=>ζ
 |.ret,.ret=>ζ
 |.exit x,.exit y=>ξ x y
 |_,_=>η
def LS.beq_eq{a b:LS}(h:a.beq b=ζ):a=b:=by cases a<;>cases b<;>simp only[LS.beq]at h<;>first|rfl|cases h|rw[DQ h]
inductive D9 where
 |dead
 |live (ro:Bool) (cs:List B0)
 |buf (ro:Bool) (t:Ty) (l:List t.D) (n ver:Nat)
 |lp (ro:Bool) (F:FuncId) (n:Nat) (env:Bi) (ps:Array Tmp) (a b:Code) (s:LS)
 |mp (ro:Bool) (k:IntKind) (t:Ty) (es:List (Int×t.D))
abbrev Aw:=E D9
def B6(env:Bi):Env:=env.map λp=>(p.1,p.2.enc)
def D9.enc:D9->Fv
 |.dead=>.dead
 |.live _ cs=>.live 0 (lvs cs)
 |.buf _ t l n _=>.live n (t.E.cl l)
 |.lp _ _ n env ps a b s=>.lp ⟨n,B6 env,ps,a,b,s.st,s.pend⟩
 |.mp _ k t es=>.mp k (es.map λp=>(p.1,t.enc p.2))
def BH(H:Aw):Ay:=H.map D9.enc
def Vy:TV:=.c (.raw .any)
def Bi.get:Bi->Nat->TV
 |[],_=>Vy
 |(k,v)::r,t=>match ξ k t with|true=>v|false=>Bi.get r t
def Bi.del(t:Nat):Bi->Bi
 |[]=>[]
 |(k,v)::r=>match ξ k t with|true=>Bi.del t r|false=>(k,v)::Bi.del t r
def Bi.put(env:Bi)(t:Nat)(v:TV):Bi:=(t,v)::Bi.del t env
def Bi.putO(env:Bi):Ω Nat->TV->Bi
 |some t,v=>env.put t v
 |none,_=>env
theorem beq_false(h:N≠n):ξ N n=η:=by grind[Nat.eq_of_beq_eq_true]
theorem VM(env:Bi)(t:Nat):(B6 env).get t=(env.get t).enc:=by
 induction env with
 |nil=>simp[B6,Env.get,Bi.get,Vy,TV.enc,B0.one]
 |cons p r a=>grind[B6,Env.get,Bi.get,Nat.beq_refl,beq_false]
theorem AEl(env:Bi)(t:Nat):B6 (Bi.del t env)=(B6 env).filter λp=>decide (p.1≠t):=by induction env<;>grind[Bi.del,B6,Nat.beq_refl,beq_false]
def kU(env:Bi)(t:Nat)(v:TV):B6 (env.put t v)=(B6 env).put t v.enc:=by simp only[Env.put,<-AEl];rfl
def YW(env:Bi)(t:Ω Nat)(v:TV):B6 (env.putO t v)=(B6 env).putO t v.enc:=by
 cases t with
 |none=>rfl
 |some t=>exact kU env t v
def AEh:Value->B0
 |.bool b=>.bl b
 |.int k n=>.it k n
 |.string s=>.st s.data.toList
 |.pointer ε=>.raw .nilp
 |.slice ε 0 0=>.nil
 |.nilFunc=>.raw .nilf
 |_=>.raw .any
def cvT:Value->TV
 |.agg cs=>match cs.toList.all (·.oneCell')with|true=>.g (cs.toList.map AEh)|false=>Vy
 |v=>.c (AEh v)
def y0(v:Value):(AEh v).one=rZ v:=by
 cases v with
 |pointer p=>cases p<;>rfl
 |slice a l c=>
  cases a with
  |some _=>rfl
  |none=>
   match l,c with
   |0,0=>rfl
   |0,_+1=>rfl
   |_+1,_=>rfl
 |_=>rfl
theorem AEi(v:Value):(AEh v).enc=[rZ v]:=by
 cases v with
 |pointer p=>cases p<;>rfl
 |slice a l c=>
  cases a with
  |some _=>rfl
  |none=>
   match l,c with
   |0,0=>rfl
   |0,_+1=>rfl
   |_+1,_=>rfl
 |_=>rfl
theorem AGw(v:Value):(cvT v).enc=AC6 v:=by
 cases v with
 |agg b=>
  simp only[cvT,AC6];cases h:b.toList.all (·.oneCell')with
  |false=>simp[Vy,TV.enc,B0.one]
  |true=>simp only[TV.enc,lvs];induction b.toList<;>grind[AEi]
 |pointer p=>exact y0 (.pointer p)
 |slice a l c=>exact y0 (.slice a l c)
 |_=>rfl
def Jz(env:Bi):Operand->TV
 |.tmp t=>env.get t
 |.const v=>cvT v
 |.global _=>Vy
 |.func f=>.c (.raw (.fn (.func f) [] []))
theorem MH(env:Bi)(x:Operand):BR (B6 env) x=(Jz env x).enc:=by
 cases x with
 |tmp t=>exact VM env t
 |const v=>exact(AGw v).symm
 |global _=>rfl
 |func f=>rfl
def Xt:E B0->Nat->Ω (E B0×E B0)
 |ls,0=>D ([],ls)
 |[],_+1=>ε
 |x::r,n+1=>
  match Nat.ble x.w (n+1)with
  |true=>match Xt r (n+1-x.w)with|some (a,b)=>D (x::a,b)|none=>ε
  |false=>ε
mutual
def Ty.lvs:(t:Ty)->t.D->E B0
 |.bool,b=>[.bl b]
 |.int k,n=>[.it k n]
 |.str,s=>[.st s]
 |.list t,l=>[.ls t l]
 |.arr n t,a=>[.ar n t a]
 |.prod ts,x=>ts.lvs x
def Sz.lvs:(ts:Sz)->ts.D->E B0
 |.one t,x=>t.lvs x
 |.cons t ts,x=>t.lvs x.1++ts.lvs x.2
end
def B0.scalar:B0->Bool
 |.ar .. =>η
 |.raw (.agg _)=>η
 |_=>ζ
def part(P:Program)(t:TypeId)(cs:E B0)(off:Nat):Ω TV:=
 match Xt cs off with
 |some (_,r)=>
  match tI P t with
  |some (ζ,n)=>match Xt r n with|some (a,_)=>D (.g a)|none=>ε
  |some (η,_)=>match r with|x::_=>(match x.scalar with|true=>D (.c x)|false=>ε)|[]=>ε
  |none=>ε
 |none=>ε
section
variable {R:Type}
def okT(o:Ω TV)(k:TV->Ω R):Ω R:=
 match o with
 |some v=>k v
 |none=>ε
def AEM(cs:List B0)(base n:Nat)(t:Ty):Option (Ge (n+1) t.D):=
 match Xt cs base with
 |some (_,.ar n' t' a::_)=>if h:(Ty.arr n' t').beq (Ty.arr n t)=ζ then δ (Ty.cast h a)else ε
 |_=>ε
def Yq(H:Aw)(id ver:Nat)(t:Ty):Option (List t.D):=
 match H[id]? with
 |some (.buf _ t' l _ ver')=>match ξ ver ver' with|true=>(if h:(Ty.list t').beq (Ty.list t)=ζ then δ (Ty.cast h l)else ε)|false=>ε
 |_=>ε
def Xr(H:Aw)(id:Nat):Ω (E B0):=
 match H[id]? with
 |some (.live _ cs)=>D cs
 |_=>ε
def loadT(P:Program)(H:Aw)(t:TypeId)(v:TV)(k:TV->Ω R):Ω R:=
 match v with
 |.c (.raw (.ptr id 0 off))=>match Xr H id with|some cs=>okT (part P t cs off) k|none=>ε
 |.vptr cs _=>okT (part P t cs 0) k
 |.aptr id base n te i off=>
  match Xr H id with
  |some cs=>match AEM cs base n te with|some a=>(HF a i).bind λe=>okT (part P t (te.lvs e) off) k|none=>ε
  |none=>ε
 |.bptr id ver te _ i off=>match Yq H id ver te with|some l=>(ix l i).bind λe=>okT (part P t (te.lvs e) off) k|none=>ε
 |_=>ε
def tvA:Af->TV
 |.bool b=>.c (.bl b)
 |.int k n=>.c (.it k n)
 |.str s=>.c (.st s)
 |v=>.c (.raw v)
def okA(o:Ω Af)(k:TV->Ω R):Ω R:=
 match o with
 |some v=>k (tvA v)
 |none=>ε
def eqT(as bs:E B0):Bool:=vk (lvs as) (lvs bs)
def AIs(P:Program)(op:BinOp)(t:TypeId)(x y:TV)(k:TV->Ω R):Ω R:=
 match x,y with
 |.c (.it kx a),.c (.it ky b)=>
  match op with
  |.shl=>cond (τ (b<0)) ε (k (.c (.it kx (kx.wrap (a*2^min b.toNat kx.bits)))))
  |.shr=>cond (τ (b<0)) ε (k (.c (.it kx (a.fdiv (2^min b.toNat kx.bits)))))
  |.quo=>if kx=ky then cond (b==0) ε (k (.c (.it kx (kx.wrap (a.tdiv b)))))else ε
  |.rem=>if kx=ky then cond (b==0) ε (k (.c (.it kx (a.tmod b))))else ε
  |op=>if kx=ky then okA (qC op kx a b) k else ε
 |.c (.bl a),.c (.bl b)=>
  match op with
  |.eql=>if kd P t=.bool then k (.c (.bl (a==b)))else ε
  |.neq=>if kd P t=.bool then k (.c (.bl (!(a==b))))else ε
  |_=>ε
 |.c (.st a),.c (.st b)=>
  match op with
  |.add=>(sapp a b).bind λs=>k (.c (.st s))
  |op=>okA (xS op a b) k
 |.g as,.g bs=>
  match AEY P t with
  |some ks=>
   if typed ks (lvs as)=ζ/\typed ks (lvs bs)=ζ then
    match op with
    |.eql=>k (.c (.bl (eqT as bs)))
    |.neq=>k (.c (.bl (!eqT as bs)))
    |_=>ε
   else ε
  |none=>ε
 |_,_=>ε
def unT(op:UnOp)(v:TV)(k:TV->Ω R):Ω R:=
 match v with
 |.c x=>okA (unV op x.one) k
 |_=>ε
def AEe(P:Program)(H:Aw)(src dst:TypeId)(v:TV)(k:TV->Ω R):Ω R:=
 match v with
 |.c (.ls (.int .u8) l)=>if kd P dst=.str/\kd P src=.bytes then k (.c (.st (Ew l)))else ε
 |.c (.own id ver (.int .u8) _)=>if kd P dst=.str/\kd P src=.bytes then(match Yq H id ver (.int .u8)with|some l=>k (.c (.st (Ew l)))|none=>ε)else ε
 |.c (.it kk n)=>okA (Xy P [] src dst (.int kk n)) k
 |.c (.st s)=>okA (Xy P [] src dst (.str s)) k
 |_=>ε
def nr(P:Program)(H:Aw)(s f:Nat)(v:TV)(k:TV->Ω R):Ω R:=
 match fI P s f with
 |some (off,_,n)=>
  match ξ n 0 with
  |true=>ε
  |false=>
   match v with
   |.c (.raw (.ptr id 0 o))=>match Xr H id with|some _=>k (.c (.raw (.ptr id 0 (o+off))))|none=>ε
   |.vptr cs post=>match Xt cs off with|some (_,r)=>k (.vptr r post)|none=>ε
   |.aptr id base n te i o=>match Xr H id with|some _=>k (.aptr id base n te i (o+off))|none=>ε
   |.bptr id ver te n i o=>match Yq H id ver te with|some _=>k (.bptr id ver te n i (o+off))|none=>ε
   |_=>ε
 |none=>ε
def AAm(P:Program)(s f:Nat)(v:TV)(k:TV->Ω R):Ω R:=
 match fI P s f,v with
 |some (off,t,_),.g cs=>okT (part P t cs off) k
 |_,_=>ε
def ny(P:Program)(H:Aw)(t:TypeId)(v i:TV)(k:TV->Ω R):Ω R:=
 match i with
 |.c (.it _ i)=>
  match eI P t with
  |some (D len,_,sz)=>
   match v with
   |.c (.raw (.ptr id 0 off))=>
    match Xr H id with
    |some cs=>
     match Xt cs off with
     |some (_,.ar n te a::_)=>if len=n+1/\sz=te.sz then(HF a i).bind λ_=>k (.aptr id off n te i 0)else ε
     |_=>ε
    |none=>ε
   |.vptr (.ar n te a::r) post=>if len=n+1/\sz=te.sz then(HF a i).bind λe=>k (.vptr (te.lvs e) ((((Ty.arr n te).enc a).cells.drop (i.toNat*te.sz+te.sz))++(lvs r++post)))else ε
   |_=>ε
  |some (ε,_,sz)=>
   match v with
   |.c (.ls te l)=>if sz=te.sz then(ix l i).bind λe=>k (.vptr (te.lvs e) [])else ε
   |.c (.own id ver te n)=>match Yq H id ver te with|some l=>(if sz=te.sz then(ix l i).bind λ_=>k (.bptr id ver te n i 0)else ε)|none=>ε
   |.vw id ver te n lo m=>match Yq H id ver te with|some l=>(if sz=te.sz then(ix ((l.drop lo).take m) i).bind λ_=>k (.bptr id ver te n ((lo:Int)+i) 0)else ε)|none=>ε
   |_=>ε
  |none=>ε
 |_=>ε
def xW(P:Program)(e:TypeId)(sz:Nat)(cs:E B0)(i:Int)(k:TV->Ω R):Nat->Nat->Ω R
 |0,_=>ε
 |m+1,j=>cond (τ (i=Int.ofNat j)) (okT (part P e cs (j*sz)) k) (xW P e sz cs i k m (j+1))
def AAr(P:Program)(t:TypeId)(v i:TV)(k:TV->Ω R):Ω R:=
 match i with
 |.c (.it _ i)=>
  match v with
  |.g [.ar n te a]=>
   match eI P t with
   |some (D len,e,sz)=>if len=n+1/\sz=te.sz then(HF a i).bind λx=>okT (part P e (te.lvs x) 0) k else ε
   |_=>ε
  |.g cs=>
   match eI P t with
   |some (D len,e,sz)=>match Nat.ble len 16 with|true=>xW P e sz cs i k len 0|false=>ε
   |_=>ε
  |.c (.st s)=>if kd P t=.str then(six s i).bind λb=>k (.c (.it .u8 b))else ε
  |_=>ε
 |_=>ε
def yq(d:Int):Ω TV->Ω Int
 |none=>D d
 |some (.c (.it _ n))=>D n
 |_=>ε
def ABY(P:Program)(H:Aw)(t:TypeId)(v:TV)(lo hi mx:Ω TV)(k:TV->Ω R):Ω R:=
 match mx with
 |some _=>ε
 |none=>
  match v with
  |.c (.st s)=>
   match yq 0 lo,yq (θ s) hi with
   |some l,D h=>if kd P t=.str then(SH s l h).bind λx=>k (.c (.st x))else ε
   |_,_=>ε
  |.c (.ls te xs)=>
   match yq 0 lo,yq (θ xs) hi,eI P t with
   |some l,D h,D (ε,_,sz)=>if sz=te.sz then(Wp xs l h).bind λx=>k (.c (.ls te x))else ε
   |_,_,_=>ε
  |.c (.own id ver te n)=>
   match Yq H id ver te with
   |some xs=>
    match yq 0 lo,yq (θ xs) hi,eI P t with
    |some l,D h,D (ε,_,sz)=>if sz=te.sz then(Wp xs l h).bind λ_=>k (.vw id ver te n l.toNat (h.toNat-l.toNat))else ε
    |_,_,_=>ε
   |none=>ε
  |_=>ε
def AJC(P:Program)(H:Aw)(t:TypeId)(v:TV)(k:TV->Ω R):Ω R:=
 match P.underlying t,v with
 |some .string,.c (.st s)=>k (.c (.it .i64 (θ s)))
 |some (.array n _),_=>k (.c (.it .i64 n))
 |some (.slice _),.c (.ls _ l)=>k (.c (.it .i64 (θ l)))
 |some (.slice _),.c (.own id ver te n)=>match Yq H id ver te with|some _=>k (.c (.it .i64 n))|none=>ε
 |some (.slice _),.c .nil=>k (.c (.it .i64 0))
 |some (.slice _),.vw id ver te _ lo m=>match Yq H id ver te with|some l=>k (.c (.it .i64 ((l.drop lo).take m).length))|none=>ε
 |_,_=>ε
def mmT(mx:Bool)(x y:TV)(k:TV->Ω R):Ω R:=
 match x,y with
 |.c (.it kx a),.c (.it _ b)=>k (.c (.it kx (if mx then(if b>a then b else a)else(if b<a then b else a))))
 |_,_=>ε
def AJD(x y z:TV)(k:TV->Ω R):Ω R:=
 match x,y,z with
 |.c (.it kx a),.c (.it _ b),.c (.it _ c)=>k (.c (.it kx (if c<(if b<a then b else a)then c else(if b<a then b else a))))
 |_,_,_=>ε
def TV.words:TV->Ω (E B0)
 |.c x=>match x.scalar&&x.one.solid with|true=>D [x]|false=>ε
 |.g cs=>D cs
 |_=>ε
mutual
def Ty.zlvs:(t:Ty)->E B0
 |.bool=>[.bl η]
 |.int k=>[.it k 0]
 |.str=>[.st []]
 |.list _=>[.nil]
 |.arr n t=>[.ar n t (Ge.all t.zero)]
 |.prod ts=>ts.zlvs
def Sz.zlvs:Sz->E B0
 |.one t=>t.zlvs
 |.cons t ts=>t.zlvs++ts.zlvs
end
mutual
def ABf(P:Program):Nat->TypeId->Ω Ty
 |0,_=>ε
 |d+1,t=>
  match P.underlying t with
  |some .bool=>D .bool
  |some (.int k)=>D (.int k)
  |some .string=>D .str
  |some (.slice e)=>(ABf P d e).map Ty.list
  |some (.array (n+1) e)=>(ABf P d e).map (Ty.arr n)
  |some (.struct fs)=>(AIR P d fs.toList).map Ty.prod
  |_=>ε
def AIR(P:Program):Nat->E Field->Ω Sz
 |0,_=>ε
 |_+1,[]=>ε
 |d+1,[f]=>(ABf P d f.type).map Sz.one
 |d+1,f::r=>match ABf P d f.type,AIR P d r with|some t,D ts=>D (.cons t ts)|_,_=>ε
end
def wg:Af->B0
 |.bool b=>.bl b
 |.int k n=>.it k n
 |.str s=>.st s
 |v=>.raw v
def vX(P:Program)(t:TypeId):Ω (E B0):=
 match Za P t with
 |some z=>
  match ABf P 1000 t with
  |some ty=>match Af.beqL z (lvs ty.zlvs)with|true=>D ty.zlvs|false=>D (z.map wg)
  |none=>D (z.map wg)
 |none=>ε
def ADj(cs:E B0)(off:Nat)(vs:E B0)(n:Nat):Ω (E B0):=
 match Xt cs off with
 |some (a,r)=>match Xt r n with|some (_,b)=>D (a++(vs++b))|none=>ε
 |none=>ε
def AGB:E B0->Nat
 |[]=>0
 |x::r=>x.w+AGB r
def zF(p:aY):E B0->E (Nat×TV)->Ω (E B0)
 |cs,[]=>D cs
 |cs,(i,v)::r=>
  match p.at_ i,v.words with
  |some (off,size),D ws=>
   match ξ (AGB ws) size with
   |true=>match ADj cs off ws size with|some cs'=>zF p cs' r|none=>ε
   |false=>ε
  |_,_=>ε
def AAg(P:Program)(t:TypeId)(parts:E (Nat×TV)):Ω TV:=
 match vX P t,placesOf P t with
 |some z,D p=>(zF p z parts).map TV.g
 |_,_=>ε
def su:E TV->Ω (E Af)
 |[]=>D []
 |.c x::r=>match x.scalar,su r with|true,D l=>D (x.one::l)|_,_=>ε
 |_=>ε
def quT(P:Program)(env:Bi)(H:Aw)(op:Op)(k:TV->Ω R):Ω R:=
 match op with
 |.move x|.assign x=>k (Jz env x)
 |.pick c a b=>match Jz env c with|.c (.bl t)=>cond t (k (Jz env a)) (k (Jz env b))|_=>ε
 |.load t a=>loadT P H t (Jz env a) k
 |.nilCheck x=>
  match Jz env x with
  |.c (.raw (.ptr id 0 off))=>match Xr H id with|some _=>k (.c (.raw (.ptr id 0 off)))|none=>ε
  |.c (.raw (.fn (.func f) a b))=>k (.c (.raw (.fn (.func f) a b)))
  |.vptr cs post=>k (.vptr cs post)
  |.aptr id base n te i off=>match Xr H id with|some _=>k (.aptr id base n te i off)|none=>ε
  |.bptr id ver te n i off=>match Yq H id ver te with|some _=>k (.bptr id ver te n i off)|none=>ε
  |_=>ε
 |.binOp op t x y _=>AIs P op t (Jz env x) (Jz env y) k
 |.unOp op _ x=>unT op (Jz env x) k
 |.convert s d x=>AEe P H s d (Jz env x) k
 |.fieldAddr s x f=>nr P H s f (Jz env x) k
 |.field s x f=>AAm P s f (Jz env x) k
 |.indexAddr t x i=>ny P H t (Jz env x) (Jz env i) k
 |.index t x i=>AAr P t (Jz env x) (Jz env i) k
 |.slice t x lo hi mx=>ABY P H t (Jz env x) (lo.map (Jz env)) (hi.map (Jz env)) (mx.map (Jz env)) k
 |.extract x i=>match Jz env x with|.tup vs=>(match vs[i]? with|some v=>k v|none=>ε)|_=>ε
 |.makeFunc f a b=>match su (a.toList.map (Jz env)),su (b.toList.map (Jz env))with|some l,D m=>k (.c (.raw (.fn f l m)))|_,_=>ε
 |.build t parts=>okT (AAg P t (parts.toList.map λp=>(p.1,Jz env p.2))) k
 |.call {callee:=.builtin .len,args:=⟨[x]⟩,argTypes:=⟨[t]⟩}=>AJC P H t (Jz env x) k
 |.call {callee:=.builtin .max,args:=⟨[x,y]⟩,.. }=>mmT ζ (Jz env x) (Jz env y) k
 |.call {callee:=.builtin .min,args:=⟨[x,y]⟩,.. }=>mmT η (Jz env x) (Jz env y) k
 |.call {callee:=.builtin .min,args:=⟨[x,y,z]⟩,.. }=>AJD (Jz env x) (Jz env y) (Jz env z) k
 |_=>ε
end
def Sp(H:Aw)(id ver:Nat)(t:Ty)(n:Nat):Prop:=
 id<θ H/\∀ro t' l n' ver',H[id]?=D (.buf ro t' l n' ver')->ver<=ver'/\(ver=ver'->t'=t/\n'=n)
def B0.ok(H:Aw):B0->Prop
 |.own id ver t n=>Sp H id ver t n
 |_=>True
def lok(H:Aw)(cs:E B0):Prop:=∀x∈cs,x.ok H
mutual
def TV.refs:TV->E B0
 |.c x=>[x]
 |.g cs=>cs
 |.aptr .. =>[]
 |.bptr id ver t n _ _=>[.own id ver t n]
 |.vw id ver t n _ _=>[.own id ver t n]
 |.vptr cs _=>cs
 |.tup vs=>TV.refsL vs
def TV.refsL:E TV->E B0
 |[]=>[]
 |v::r=>v.refs++TV.refsL r
end
def TV.ok(H:Aw)(v:TV):Prop:=lok H v.refs
def D9.ok(H:Aw):D9->Prop
 |.live _ cs=>lok H cs
 |.buf _ _ l n _=>n=θ l
 |.dead=>True
 |.lp _ _ _ env _ _ _ _=>∀p∈env,∀id ver t n,B0.own id ver t n∉p.2.refs
 |.mp .. =>True
structure Ob(env:Bi)(H:Aw):Prop where
 env:∀p∈env,p.2.ok H
 heap:∀e∈H,e.ok H
variable {j:List B0}{m l:Aw}{p:TV}{G:List TV}{J:B0}{M:Option TV}{O:D9}{F:Bi}
theorem Jh{b:E B0}:lok m (j++b)↔lok m j/\lok m b:=by grind[lok]
theorem AHH:lok m []:=λ_ h=>by cases h
def w8{v:TV}:∀{l:E TV},v∈l->∀x∈v.refs,x∈TV.refsL l
 |w::r,a,x,hx=>by simp only[TV.refsL,Ah];rcases As.1 a with rfl|a;exact .inl hx;exact .inr (w8 a x hx)
def qz(h:(TV.tup G).ok m)(b:p∈G):p.ok m:=λx c=>h x (by simp only[TV.refs];exact w8 b x c)
def SC{H}:∀{vs:E TV},(∀v∈vs,v.ok H)->(TV.tup vs).ok H
 |[],_=>λx a=>by simp[TV.refs,TV.refsL]at a
 |v::r,h=>by have:=SC (vs:=r) λw b=>h w (by simp[b]);intro x a;simp only[TV.refs,TV.refsL,Ah]at a;rcases a with a|a;exact h v k! x a;exact this x a
theorem kw(h:∀p∈F,p.2.ok m)(t:Nat):(F.get t).ok m:=by
 induction F with
 |nil=>intro x a;simp only[Bi.get,Vy,TV.refs,Ax]at a;subst a;trivial
 |cons p r b=>grind[Bi.get]
theorem AB2(v:Value):(AEh v).ok m:=by
 cases v with
 |pointer p=>cases p<;>trivial
 |slice a l c=>
  cases a with
  |some _=>trivial
  |none=>
   match l,c with
   |0,0=>trivial
   |0,_+1=>trivial
   |_+1,_=>trivial
 |_=>trivial
def jF:Vy.ok m:=λx a=>by simp only[Vy,TV.refs,Ax]at a;subst a;trivial
theorem KF{H}(h:J.ok H):(TV.c J).ok H:=λy a=>by grind[TV.refs]
theorem AI2(v:Value):(cvT v).ok m:=by
 cases v with
 |agg a=>
  simp only[cvT];cases h:a.toList.all (·.oneCell')with
  |false=>exact jF
  |true=>intro x b;grind[TV.refs,AB2]
 |_=>exact KF (AB2 _)
theorem gu{H:Aw}(h:∀p∈F,p.2.ok H)(x:Operand):(Jz F x).ok H:=by
 cases x with
 |tmp t=>exact kw h t
 |const v=>exact AI2 v
 |global _=>exact jF
 |func f=>exact KF trivial
theorem HK(a b:E B0):lvs (a++b)=lvs a++lvs b:=WY
theorem IQ(x:B0)(b:E B0):lvs (x::b)=x.enc++lvs b:=H8
theorem fS:∀a:E B0,(lvs a).length=AGB a
 |[]=>rfl
 |x::r=>by rw[IQ,AV,x.enc_len,fS r];rfl
def PX:∀{c}{n}{a b:E B0},Xt c n=D (a,b)->c=a++b/\(lvs a).length=n
 |c,0,a,b,h=>by cases c<;>simp only[Xt]at h<;>obtain⟨rfl,rfl⟩:=h<;>exact⟨rfl,rfl⟩
 |x::r,n+1,a,b,h=>by simp only[Xt]at h;split at h;rename_i e;split at h;rename_i g i f;obtain⟨rfl,rfl⟩:=h;obtain⟨j,d⟩:=PX f;rw[IQ,AV,d,x.enc_len];simp_all;cases h;cases h
mutual
theorem Ty.lvs_enc:∀(t:Ty)x,lvs (t.lvs x)=(t.enc x).cells
 |.bool,_=>rfl
 |.int _,_=>rfl
 |.str,_=>rfl
 |.list _,_=>rfl
 |.arr n t,a=>by simp only[Ty.lvs,lvs,H8,qA,DR,B0.enc]
 |.prod ts,x=>by simp only[Ty.lvs,Ty.enc,Af.cells];exact ts.lvs_cells x
theorem Sz.lvs_cells:∀(a:Sz)x,Go.Ab.lvs (a.lvs x)=a.cells x
 |.one t,x=>by simp only[Sz.lvs,Sz.cells];exact t.lvs_enc x
 |.cons t a,x=>by simp only[Sz.lvs,Sz.cells];rw[HK,t.lvs_enc,a.lvs_cells]
end
mutual
theorem Ty.lvs_ok{H:Aw}:∀(t:Ty)x,lok H (t.lvs x)
 |.bool,_=>λy b=>by simp only[Ty.lvs,Ax]at b;subst b;trivial
 |.int _,_=>λy b=>by simp only[Ty.lvs,Ax]at b;subst b;trivial
 |.str,_=>λy b=>by simp only[Ty.lvs,Ax]at b;subst b;trivial
 |.list _,_=>λy b=>by simp only[Ty.lvs,Ax]at b;subst b;trivial
 |.arr n t,a=>λy b=>by simp only[Ty.lvs,Ax]at b;subst b;trivial
 |.prod ts,x=>by simp only[Ty.lvs];exact ts.lvs_ok x
theorem Sz.lvs_ok{H:Aw}:∀(a:Sz)x,lok H (a.lvs x)
 |.one t,x=>by simp only[Sz.lvs];exact t.lvs_ok x
 |.cons t a,x=>by simp only[Sz.lvs];exact Jh.2 ⟨t.lvs_ok _,a.lvs_ok _⟩
end
def NF(h:J.scalar=ζ):J.enc=[J.one]:=by
 cases J with
 |ar n t a=>cases h
 |_=>rfl
def B0.scalar_cells(h:J.scalar=ζ):J.one.cells=[J.one]:=by
 cases J with
 |ar n t a=>cases h
 |raw v=>cases v<;>first|rfl|cases h
 |_=>rfl
theorem SE(h:part P b j N=D p):
  (∃n,tI P b=D (ζ,n)/\N+n<=(lvs j).length/\p.enc=.agg (((lvs j).drop N).take n)\/tI P b=D (η,n)/\(lvs j)[N]?=D p.enc)/\∀H,lok H j->p.ok H:=by
 unfold part at h;split at h;rename_i a r l;obtain⟨rfl,t⟩:=PX l;split at h;rename_i n i;split at h;rename_i e c g;obtain⟨rfl,k⟩:=PX g;injection h with h;subst h;refine⟨⟨n,.inl ⟨i,?_,?_⟩⟩,λH f=>?_⟩;simp only[HK,AV];omega;simp only[TV.enc,HK,Af.agg.injEq];rw[<-t,Rz,<-k,Yl];exact(Jh.1 (Jh.1 f).2).1;cases h;rename_i n i;split at h;rename_i x r;split at h;rename_i m;injection h with h;subst h;refine⟨⟨n,.inr ⟨i,?_⟩⟩,λH f=>KF ((Jh.1 f).2 x k!)⟩;rw[HK,IQ,NF m,Cu o!];simp[t,TV.enc];cases h;cases h;cases h;cases h
def mM(h:part P b j N=D p)
  (hr:∀n,N+n<=(lvs j).length->Qt q v n=D (((lvs j).drop N).take n)):jL P b q v=D p.enc:=by
 obtain⟨⟨n,e|e⟩,_⟩:=SE h;obtain⟨i,g,d⟩:=e;simp only[jL,i,hr n g,Bw,d];obtain⟨i,d⟩:=e;have k:N<(lvs j).length:=by rcases A1 N (lvs j).length with f|f;exact f;rw[Cz f]at d;cases d
 simp only[jL,i,hr 1 o!,AD];rw[List.head?_take,List.head?_drop,d];rfl
theorem sH(h:Xr m N=D j):∃ro,m[N]?=D (.live ro j):=by grind[Xr]
theorem EV(H:Aw)(id:Nat):(BH H)[id]?=(H[id]?).map D9.enc:=CO
theorem uu(h:Xr m N=D j):(BH m)[N]?=D (.live 0 (lvs j)):=by obtain⟨ro,b⟩:=sH h;rw[EV,b];rfl
def AHF(b:∀e∈m,e.ok m)(h:Xr m N=D j):lok m j:=by obtain⟨ro,c⟩:=sH h;exact b _ (BP c)
def AAf{l:E t.D}(h:Yq m N n t=D l):∃ro H,m[N]?=D (.buf ro t l H n):=by unfold Yq at h;split at h;rename_i ro i j H d e;split at h;rename_i g;have c:=DQ g;subst c;split at h;rename_i f;have b:=f;have:=Ty.beq_eq i t b;subst this;injection h with h;refine⟨ro,H,?_⟩;rw[e,<-h];rfl;cases h;cases h;cases h
def X3{a}{l:E t.D}(d:∀e∈m,e.ok m)(hr:Sp m N a t n)(h:Yq m N a t=D l):(BH m)[N]?=D (.live n (t.E.cl l))/\θ l=n:=by obtain⟨ro,f,b⟩:=AAf h;obtain⟨_,c⟩:=hr.2 _ _ _ _ _ b;obtain⟨_,rfl⟩:=c rfl;have:f=θ l:=d _ (BP b);refine⟨?_,this.symm⟩;rw[EV,b];rfl
def AAa{a:Ge (n+1) t.D}(h:AEM j N n t=D a):∃pre b,j=pre++(.ar n t a::b)/\(lvs pre).length=N:=by unfold AEM at h;split at h;rename_i pre k l f b g;split at h;rename_i i;have:=Ty.beq_eq _ _ i;injection this with d e;subst d e;injection h with h;obtain⟨d,e⟩:=PX g;refine⟨pre,b,?_,e⟩;rw[d,<-h];rfl;cases h;cases h
theorem co(n:Nat)(t:Ty)(a:Ge (n+1) t.D):(B0.ar n t a).enc=fq (n+1) t.E a:=rfl
section
variable {P:Program}{R:Type}{H:Aw}{k:TV->Ω R}{r:R}
theorem XP(h:okT M k=D r):∃v,M=D v/\k v=D r:=by unfold okT at h;grind
theorem jG(v:Af):(tvA v).enc=v:=by cases v<;>rfl
theorem lP(v:Af):(tvA v).ok H:=by cases v<;>exact KF trivial
theorem lG{o}(h:okA o k=D r):∃v,o=D v/\k (tvA v)=D r:=by unfold okA at h;grind
theorem mF{o}(h:cond S ε o=D r):S=η/\o=D r:=q!
theorem sI(B:∀e∈H,e.ok H)(C:p.ok H)(h:loadT P H b p k=δ r):∃u,jL P b (BH H) p.enc=δ u.enc/\k u=δ r/\u.ok H:=by
 unfold loadT at h;split at h;rename_i id g;split at h;rename_i A v;obtain⟨u,f,j⟩:=XP h;refine⟨u,mM f λn c=>?_,j,(SE f).2 H (AHF B v)⟩;grind[TV.enc,B0.one,Qt,uu];cases h;rename_i A d;obtain⟨u,f,j⟩:=XP h;refine⟨u,mM f λn c=>?_,j,(SE f).2 H C⟩;simp only[TV.enc,Qt];grind;rename_i id o n t i g;split at h;rename_i A v;split at h;rename_i a F;obtain⟨e,y,h⟩:=Dh.1 h;obtain⟨u,f,j⟩:=XP h;obtain⟨pre,d,rfl,q⟩:=AAa F;refine⟨u,mM f λm c=>?_,j,(SE f).2 H (t.lvs_ok e)⟩;rw[t.lvs_enc,t.enc_len]at c;obtain⟨s,w⟩:=AEJ t.E (lvs pre) (lvs d) y c;have D:lvs (pre++(.ar n t a::d))=lvs pre++fq (n+1) t.E a++lvs d:=by rw[HK,IQ,co,A2]
 simp only[TV.enc,Qt,uu v,D];have x:o+i.toNat*t.sz+g=(lvs pre).length+i.toNat*t.E.sz+g:=by rw[q];rfl
 rw[x,C! ⟨P!,s⟩,w,t.lvs_enc];rfl;cases h;cases h;rename_i id z t n i g;split at h;rename_i l v;obtain⟨e,y,h⟩:=Dh.1 h;obtain⟨u,f,j⟩:=XP h;obtain⟨x,_⟩:=X3 B (C (.own id z t n) (by simp[TV.refs])) v;refine⟨u,mM f λm c=>?_,j,(SE f).2 H (t.lvs_ok e)⟩;rw[t.lvs_enc,t.enc_len]at c;obtain⟨s,w⟩:=AIr t.E y c;simp only[TV.enc,Qt,x];rw[C! ⟨P!,s⟩];show δ (List.take m (List.drop (i.toNat*t.E.sz+g) (t.E.cl l)))=_;rw[w,t.lvs_enc];rfl;cases h;cases h
theorem AAc{i}{y}(h:AIs P i b p y k=D r):∃u,yp P i b p.enc y.enc=D u.enc/\k u=D r/\u.ok H:=by
 unfold AIs at h;split at h;rename_i n a o t;simp only[TV.enc,B0.one,yp];split at h;obtain⟨c,h⟩:=mF h;have d:¬t<0:=by simpa using c
 refine⟨_,?_,h,KF trivial⟩;grind[lM,TV.enc,B0.one];obtain⟨c,h⟩:=mF h;have d:¬t<0:=by simpa using c
 refine⟨_,?_,h,KF trivial⟩;grind[lM,TV.enc,B0.one];split at h;rename_i e;obtain⟨c,h⟩:=mF h;have d:¬t=0:=by simpa using c
 refine⟨_,?_,h,KF trivial⟩;grind[qC,TV.enc,B0.one];cases h;split at h;rename_i e;obtain⟨c,h⟩:=mF h;have d:¬t=0:=by simpa using c
 refine⟨_,?_,h,KF trivial⟩;grind[qC,TV.enc,B0.one];cases h;grind[lG,lP,jG];rename_i a t;simp only[TV.enc,B0.one,yp];split at h;split at h;rename_i e;exact⟨_,by simp only[C! e,TV.enc,B0.one],h,KF trivial⟩;cases h;split at h;rename_i e;exact⟨_,by simp only[C! e,TV.enc,B0.one],h,KF trivial⟩;cases h;cases h;rename_i a t;simp only[TV.enc,B0.one,yp];split at h;obtain⟨s,j,h⟩:=Dh.1 h;exact⟨_,by simp only[xS,TV.enc,B0.one];exact AJH j,h,KF trivial⟩;grind[lG,jG,lP];rename_i l bs;split at h;rename_i m f;split at h;rename_i g;simp only[TV.enc,yp,f,C! g];split at h;exact⟨_,by simp only[TV.enc,B0.one,eqT],h,KF trivial⟩;exact⟨_,by simp only[TV.enc,B0.one,eqT],h,KF trivial⟩;cases h;cases h;cases h;cases h
def ADp{a}(h:unT a p k=D r):∃u,unV a p.enc=D u.enc/\k u=D r/\u.ok H:=by unfold unT at h;split at h;obtain⟨p,b,h⟩:=lG h;exact⟨_,by rw[jG];exact b,h,lP p⟩;cases h
def AJ3(l:E Int):(Ty.int .u8).E.cl l=l.map (xd .u8).f:=by
 unfold S1.cl;induction l with
 |nil=>rfl
 |cons n l a=>simp only[Bs,H8,a];rfl
def AC2:Xy P q b I (.int B i)=Xy P [] b I (.int B i):=by unfold Xy;cases kd P I<;>rfl
def AC3:Xy P q b I (.str L)=Xy P [] b I (.str L):=by unfold Xy;cases kd P I<;>rfl
def yy(g:∀e∈H,e.ok H)(c:p.ok H)(h:AEe P H b I p k=D r):∃u,Xy P (BH H) b I p.enc=D u.enc/\k u=D r/\u.ok H:=by
 unfold AEe at h;split at h;rename_i l;split at h;rename_i d;exact⟨_,AFM l d.1 d.2,h,KF trivial⟩;cases h;rename_i id f n;split at h;rename_i d;split at h;rename_i l j;obtain⟨i,hn⟩:=X3 g (c (.own id f (.int .u8) n) (by simp[TV.refs])) j;refine⟨_,?_,h,KF trivial⟩;simp only[TV.enc,B0.one,Xy,d.1,d.2,if_true,rowsOf,i];rw[C! ⟨P!,rfl,by rw[(Ty.int .u8).E.clen,hn];show 0+n<=n*1;omega⟩];have:((Ty.int .u8).E.cl l).length=n:=by rw[(Ty.int .u8).E.clen,hn];exact Nat.mul_one n
 rw[ln,<-this,If,AJ3];exact E! (Option.map Af.str) (yV l);cases h;cases h;obtain⟨p,c,h⟩:=lG h;exact⟨_,by rw[jG];exact AC2.trans c,h,lP p⟩;obtain⟨p,c,h⟩:=lG h;exact⟨_,by rw[jG];exact AC3.trans c,h,lP p⟩;cases h
end
section
variable {P:Program}{R:Type}{H:Aw}{k:TV->Ω R}{r:R}
theorem kQ(h:Xr H N=D j):UD (BH H) N 0=ζ:=by simp[UD,uu h]
def o0{a}{l:E t.D}(b:∀e∈H,e.ok H)(hr:Sp H N a t n)(h:Yq H N a t=D l):UD (BH H) N n=ζ:=by simp[UD,(X3 b hr h).1]
theorem qT(x:∀e∈H,e.ok H)(g:p.ok H)(h:nr P H N n p k=D r):∃u,Wf P (BH H) N n p.enc=D u.enc/\k u=D r/\u.ok H:=by
 unfold nr at h;split at h;rename_i B t f z;split at h;cases h;rename_i hn;have d:f≠0:=λe=>t!
 unfold Wf;simp only[z,D! d];split at h;rename_i id o;split at h;rename_i s c;exact⟨_,by simp only[TV.enc,B0.one,shift,kQ c,if_true],h,KF trivial⟩;cases h;rename_i s q;split at h;rename_i a b A;obtain⟨rfl,y⟩:=PX A;refine⟨_,?_,h,(Jh.1 g).2⟩;simp only[TV.enc,shift];rw[C! (by simp only[AV,HK];omega),HK,A2,<-y,Rz];cases h;rename_i id m f w i o;split at h;rename_i s c;refine⟨_,?_,h,λ_ h=>by cases h⟩;grind[TV.enc,shift,kQ];cases h;rename_i id j w f i o;split at h;rename_i l c;refine⟨_,?_,h,g⟩;simp only[TV.enc,shift,o0 x (g (.own id j w f) (by simp[TV.refs])) c,if_true,fh];cases h;cases h;cases h
theorem yG(h:part P b j N=D p)(c:∀t,N+t<=(lvs j).length->n+t<=θ g/\(g.drop n).take t=((lvs j).drop N).take t):vF P b g n=D p.enc:=by grind[SE,vF,List.head?_take,List.head?_drop]
theorem xf(d:p.ok H)(h:AAm P N n p k=D r):∃u,uO P N n p.enc=D u.enc/\k u=D r/\u.ok H:=by unfold AAm at h;split at h;rename_i e t s g a;obtain⟨u,c,b⟩:=XP h;refine⟨u,?_,b,(SE c).2 H d⟩;simp only[uO,a,TV.enc];grind[yG];cases h
theorem tU{a:Ge n R}{x:R}(h:HF a i=δ x):0<=i/\i<n:=by obtain⟨c,j,rfl,_⟩:=pn h;grind
theorem qj{i:TV}(q:∀e∈H,e.ok H)(C:p.ok H)(h:ny P H b p i k=δ r):∃u,Wm P (BH H) b p.enc i.enc=δ u.enc/\k u=δ r/\u.ok H:=by
 unfold ny at h;split at h;rename_i Q i;simp only[TV.enc,B0.one,Wm];split at h;rename_i len F sz y;simp only[y];split at h;rename_i id J;split at h;rename_i M j;split at h;rename_i pre n t a v O;split at h;rename_i g;obtain⟨rfl,rfl⟩:=g;obtain⟨e,c,h⟩:=Dh.1 h;refine⟨_,?_,h,λ_ h=>by cases h⟩;rw[C! (tU c)];simp only[TV.enc,B0.one,shift,kQ j,if_true,No];cases h;cases h;cases h;rename_i n t a R v;split at h;rename_i g;obtain⟨rfl,rfl⟩:=g;obtain⟨e,c,h⟩:=Dh.1 h;refine⟨_,?_,h,t.lvs_ok e⟩;rw[C! (tU c)];obtain⟨_,w,B,_⟩:=AEO t.E c [] [];simp only[Bt,DR,Be,Dg]at w B;have G:i.toNat*t.sz+t.sz<=(fq (n+1) t.E a).length:=w;simp only[TV.enc,shift,IQ,co];rw[C! q!];rw[t.lvs_enc,A2,pz o!];have D:(fq (n+1) t.E a).drop (i.toNat*t.sz)=(t.enc e).cells++(fq (n+1) t.E a).drop (i.toNat*t.sz+t.sz):=by rw[<-Od];have N:((fq (n+1) t.E a).drop (i.toNat*t.sz)).take t.sz=(t.enc e).cells:=B;grind[List.take_append_drop]
 rw[D,A2];rfl;cases h;cases h;rename_i F sz y;simp only[y];split at h;rename_i t l;split at h;rename_i g;subst g;obtain⟨e,c,h⟩:=Dh.1 h;obtain⟨K,L⟩:=AK7 (f:=t.enc) c;refine⟨_,?_,h,t.lvs_ok e⟩;simp only[TV.enc,B0.one];rw[C! ⟨K,P!⟩,L,t.lvs_enc,DR];rfl;cases h;rename_i id d t n;split at h;rename_i l j;split at h;rename_i g;subst g;obtain⟨e,c,h⟩:=Dh.1 h;have hr:=C (.own id d t n) (by simp[TV.refs]);obtain⟨I,hn⟩:=X3 q hr j;refine⟨.bptr id d t n i 0,?_,h,λx o=>by simp only[TV.refs,Ax]at o;subst o;exact hr⟩;obtain⟨_,_,_,_,s,w,_,_⟩:=uD t.E c;simp only[TV.enc,B0.one];rw[C! ⟨s,o!,P!,o0 q hr j⟩,Dg,No];cases h;cases h;rename_i id d t n A m;split at h;rename_i l j;split at h;rename_i g;subst g;obtain⟨e,c,h⟩:=Dh.1 h;have hr:=C (.own id d t n) (by simp[TV.refs]);obtain⟨I,hn⟩:=X3 q hr j;refine⟨.bptr id d t n ((A:Int)+i) 0,?_,h,λx o=>by simp only[TV.refs,Ax]at o;subst o;exact hr⟩;unfold ix at c;split at c;rename_i s;have z:=(Gb.1 c).1;rw[BU,DO]at z;simp only[TV.enc,vwE];rw[D! o!];dsimp only;rw[C! ⟨s,o!,rfl,o0 q hr j⟩,No,show((A:Int)+i).toNat=A+i.toNat by omega,Ec];cases c;cases h;cases h;cases h;cases h;cases h
theorem ot{e:TypeId}{sz}{cs}{i}(b:lok H cs):∀{m j},xW P e sz cs i k m j=D r->∃u,(0<=i/\i<((j+m:Nat):Int))/\vF P e (lvs cs) (i.toNat*sz)=D u.enc/\k u=D r/\u.ok H
 |m+1,j,h=>by
  simp only[xW]at h;cases a:τ (i=Int.ofNat j)with
  |true=>
   rw[a]at h;have f:i=(j:Int):=q!
   obtain⟨u,d,c⟩:=XP h;refine⟨u,o!,?_,c,(SE d).2 H b⟩;grind[yG]
  |false=>rw[a]at h;obtain⟨u,g,l⟩:=ot b (m:=m) (j:=j+1) h;grind
theorem xo{i:TV}(A:p.ok H)(h:AAr P b p i k=δ r):∃u,lC P b p.enc i.enc=δ u.enc/\k u=δ r/\u.ok H:=by
 unfold AAr at h;split at h;rename_i B i;split at h;rename_i n c a;split at h;rename_i len x sz o;split at h;rename_i z;obtain⟨rfl,rfl⟩:=z;obtain⟨e,v,h⟩:=Dh.1 h;obtain⟨u,q,f⟩:=XP h;refine⟨u,?_,f,(SE q).2 H (c.lvs_ok e)⟩;simp only[TV.enc,B0.one,lC,o];rw[C! (tU v)];refine yG q λm d=>?_;rw[c.lvs_enc,c.enc_len,Dg]at d;obtain⟨j,l⟩:=AEJ c.E (off:=0) [] [] v (m:=m) (by rw[Dg];exact d);simp at j l;have w:lvs [B0.ar n c a]=fq (n+1) c.E a:=by grind[co,lvs]
 rw[w,c.lvs_enc,ln];exact⟨j,l⟩;cases h;cases h;rename_i g _;split at h;rename_i len x sz o;split at h;obtain⟨u,C,D,F⟩:=ot (cs:=g) (H:=H) A h;grind[TV.enc,B0.one,lC];cases h;cases h;rename_i s;split at h;rename_i f;obtain⟨t,y,h⟩:=Dh.1 h;exact⟨_,by simp only[TV.enc];exact AKL y f,h,KF trivial⟩;cases h;cases h;cases h
theorem cr{d:Nat}(h:yq d M=δ i)(a:0<=i):XZ d (M.map TV.enc)=δ i.toNat:=by unfold yq at h;grind[XZ,TV.enc,B0.one,u6]
theorem yR{L J:Option TV}(G:∀e∈H,e.ok H)(Q:p.ok H)(h:ABY P H b p L J M k=δ r):∃u,jC P (BH H) b p.enc (L.map TV.enc) (J.map TV.enc) (M.map TV.enc)=δ u.enc/\k u=δ r/\u.ok H:=by
 unfold ABY at h;split at h;cases h;split at h;rename_i s;split at h;rename_i l f i t;split at h;rename_i E;obtain⟨x,c,h⟩:=Dh.1 h;refine⟨_,?_,h,KF trivial⟩;unfold SH at c;split at c;rename_i a;simp only[TV.enc,B0.one,jC,cr (d:=0) i a.1,cr t (lY a.1 a.2.1)];grind;cases c;cases h;cases h;rename_i A o;split at h;rename_i l f O sz i t D;split at h;rename_i E;obtain⟨x,c,h⟩:=Dh.1 h;refine⟨_,?_,h,KF trivial⟩;unfold Wp at c;split at c;rename_i a;have j:(o.map A.enc).length=θ o:=BX _;have B:=cr (d:=0) i a.1;have v:=cr t (lY a.1 a.2.1);have C:XZ (θ o) ε=δ (θ o):=rfl;simp only[TV.enc,B0.one,jC,j,B,v,C,D];grind[List.map_take,List.map_drop];cases c;cases h;cases h;rename_i id F A n;split at h;rename_i o I;split at h;rename_i l f O sz i t D;split at h;rename_i E;obtain⟨x,c,h⟩:=Dh.1 h;have hr:=Q (.own id F A n) (by simp[TV.refs]);obtain⟨R,N⟩:=X3 G hr I;have g:=o0 G hr I;refine⟨_,?_,h,λz K=>by simp only[TV.refs,Ax]at K;subst K;exact hr⟩;unfold Wp at c;split at c;rename_i a;have B:=cr (d:=0) i a.1;have v:=cr t (lY a.1 a.2.1);rw[N]at v;have C:XZ n ε=δ n:=rfl;simp only[TV.enc,B0.one,jC,nW,B,v,C,D];rw[C! ⟨E.symm,A.sz_pos,o!,o!,Ao _,g,λq=>by cases q⟩];have m:min (f.toNat-l.toNat) (n-l.toNat)=f.toNat-l.toNat:=o!
 unfold vwE;rw[m];by_cases w:l.toNat=0;rw[C! w,w];by_cases y:f.toNat=0;rw[y];rfl;rw[D! o!,Yn,nU];rw[D! w];by_cases y:l.toNat=f.toNat
 rw[C! y,C! o!,D! w];rw[D! y,D! o!,Dg];cases c;cases h;cases h;cases h;cases h
def AAx(f:∀e∈H,e.ok H)(g:p.ok H)(h:AJC P H b p k=D r):∃u,ql P (BH H) b p.enc=D u.enc/\k u=D r/\u.ok H:=by unfold AJC at h;split at h;rename_i s a;exact⟨_,by simp only[ql,a,TV.enc,B0.one],h,KF trivial⟩;rename_i n e a;exact⟨_,by simp only[ql,a,TV.enc,B0.one],h,KF trivial⟩;rename_i c l e a;exact⟨_,by simp only[ql,a,TV.enc,B0.one,BX],h,KF trivial⟩;rename_i e id t c n a;split at h;rename_i l d;refine⟨_,?_,h,KF trivial⟩;simp only[ql,a,TV.enc,B0.one];cases h;rename_i e a;exact⟨_,by simp only[ql,a,TV.enc,B0.one],h,KF trivial⟩;rename_i e id t c n i m a;split at h;rename_i l d;obtain⟨_,hn⟩:=X3 f (g (.own id t c n) (by simp[TV.refs])) d;refine⟨_,?_,h,KF trivial⟩;simp only[TV.enc,vwE,B0.one,BU,DO,hn];split;rename_i q;rw[q];split<;>simp only[ql,a]<;>rfl;simp only[ql,a];cases h;cases h
end
def ZZ(h:p.words=D j):p.enc.solid=ζ/\p.enc.cells=lvs j/\∀H,p.ok H->lok H j:=by unfold TV.words at h;split at h;rename_i x;split at h;rename_i a;simp at a;injection h with h;subst h;refine⟨a.2,?_,λH b=>b⟩;rw[IQ,NF a.1];exact B0.scalar_cells a.1;cases h;injection h with h;subst h;exact⟨rfl,rfl,λH b=>b⟩;cases h
theorem mO{f c:E B0}{d n}(h:ADj j d f n=D c)(hn:(lvs f).length=n):lvs c=XS (lvs j) d (lvs f)/\d+n<=(lvs j).length/\∀H,lok H j->lok H f->lok H c:=by unfold ADj at h;split at h;rename_i a r i;obtain⟨rfl,l⟩:=PX i;split at h;rename_i m b g;obtain⟨rfl,o⟩:=PX g;refine⟨?_,by simp only[HK,AV];omega,λH e k=>?_⟩;grind[XS,HK];grind[Jh];cases h;cases h
mutual
theorem Ty.zlvs_ok{H:Aw}:∀t:Ty,lok H t.zlvs
 |.bool=>λy a=>by simp only[Ty.zlvs,Ax]at a;subst a;trivial
 |.int _=>λy a=>by simp only[Ty.zlvs,Ax]at a;subst a;trivial
 |.str=>λy a=>by simp only[Ty.zlvs,Ax]at a;subst a;trivial
 |.list _=>λy a=>by simp only[Ty.zlvs,Ax]at a;subst a;trivial
 |.arr n t=>λy a=>by simp only[Ty.zlvs,Ax]at a;subst a;trivial
 |.prod b=>by simp only[Ty.zlvs];exact b.zlvs_ok
theorem Sz.zlvs_ok{H:Aw}:∀a:Sz,lok H a.zlvs
 |.one t=>by simp only[Sz.zlvs];exact t.zlvs_ok
 |.cons t a=>by simp only[Sz.zlvs];exact Jh.2 ⟨t.zlvs_ok,a.zlvs_ok⟩
end
def ADH(v:Af):(wg v).enc=[v]:=by cases v<;>rfl
theorem AE3(v:Af):(wg v).ok m:=by cases v<;>trivial
theorem qp:∀z:E Af,lvs (z.map wg)=z
 |[]=>rfl
 |v::r=>by rw[Bs,IQ,qp r,ADH];rfl
theorem ACP(z:E Af):lok m (z.map wg):=λx a=>by grind[AE3]
theorem Zc(h:vX P b=D j):Za P b=D (lvs j)/\∀H,lok H j:=by unfold vX at h;split at h;rename_i a t;split at h;rename_i e d;split at h;rename_i c;injection h with h;subst h;exact⟨by rw[t,lz _ _ c],λH=>e.zlvs_ok⟩;grind[qp,ACP];grind[qp,ACP];cases h
theorem uP{p}:∀{a}{c b:E B0},zF p c a=D b->rl p (lvs c) (a.map λq=>(q.1,q.2.enc))=D (lvs b)/\∀H,lok H c->(∀q∈a,q.2.ok H)->lok H b
 |[],c,b,h=>by simp only[zF,Av]at h;subst h;exact⟨rfl,λH h _=>h⟩
 |(i,v)::r,c,b,h=>by simp only[zF]at h;split at h;rename_i m size B u l;split at h;rename_i k;have e:=DQ k;split at h;rename_i t d;obtain⟨z,A,s⟩:=ZZ l;obtain⟨x,y,o⟩:=mO d (by rw[fS,e]);obtain⟨w,n⟩:=uP h;refine⟨?_,λH g f=>n H (o H g (s H (f (i,v) k!))) λq j=>f q (by simp[j])⟩;grind[rl,fS];cases h;cases h;cases h
section
variable {P:Program}{R:Type}{env:Bi}{H:Aw}{k:TV->Ω R}{r:R}
theorem yr{a}(h:AAg P b a=D p):ti P b (a.map λq=>(q.1,q.2.enc))=D p.enc/\((∀q∈a,q.2.ok H)->p.ok H):=by unfold AAg at h;split at h;rename_i z v e j;obtain⟨k,f⟩:=Zc e;rw[Tt]at h;obtain⟨g,c,rfl⟩:=h;obtain⟨i,t⟩:=uP c;refine⟨?_,λd=>t H (f H) d⟩;grind[ti,TV.enc];cases h
def rD:∀{l}{m:E Af},su l=D m->m=l.map TV.enc
 |[],m,h=>by simp only[su,Av]at h;subst h;rfl
 |.c x::r,m,h=>by simp only[su]at h;split at h;rename_i b _ a;injection h with h;subst h;rw[Bs,<-rD a];rfl;cases h
 |.g _::_,m,h=>by simp[su]at h
 |.aptr .. ::_,m,h=>by simp[su]at h
 |.bptr .. ::_,m,h=>by simp[su]at h
 |.vw .. ::_,m,h=>by simp[su]at h
 |.vptr .. ::_,m,h=>by simp[su]at h
 |.tup _::_,m,h=>by simp[su]at h
def wn{y}(h:mmT S p y k=D r):∃u,mmV S [p.enc,y.enc]=D u.enc/\k u=D r/\u.ok H:=by unfold mmT at h;split at h;exact⟨_,by simp only[TV.enc,B0.one,mmV],h,KF trivial⟩;cases h
def AA5{y z}(h:AJD p y z k=D r):∃u,mm3 p.enc y.enc z.enc=D u.enc/\k u=D r/\u.ok H:=by unfold AJD at h;split at h;exact⟨_,by simp only[TV.enc,B0.one,mm3],h,KF trivial⟩;cases h
theorem w7{F}(ok:Ob env H)(h:quT P env H F k=D r):∃v,Cp P (B6 env) (BH H) F=D v.enc/\k v=D r/\v.ok H:=by
 have j:∀x,(Jz env x).ok H:=gu ok.env;have g:=MH env;unfold quT at h;split at h;grind[Cp];grind[Cp];rename_i c a b;split at h;rename_i t K;have w:BR (B6 env) c=.bool t:=by rw[g,K];rfl
 grind[Cp,Bool.false_eq_true];cases h;obtain⟨u,d,e⟩:=sI ok.heap (j _) h;grind[Cp];rename_i x;split at h;grind[BR,B6,Cp,kQ,TV.enc,B0.one,KF];grind[BR,B6,Cp,TV.enc,B0.one,KF];grind[BR,B6,lvs,Cp,TV.enc];grind[BR,B6,Cp,kQ,TV.enc];rename_i id D_ G n i B s;split at h;rename_i l A;have w:BR (B6 env) x=.ptr id n (i.toNat*G.sz+B):=by rw[g,s];rfl
 have:=j x;rw[s]at this;exact⟨_,by simp only[Cp,w,o0 ok.heap (this (.own id D_ G n) (by simp[TV.refs])) A,if_true,TV.enc],h,this⟩;cases h;cases h;simp_all[AAc,Cp];obtain⟨u,d,e⟩:=ADp (H:=H) h;exact⟨u,by simp only[Cp,g,d],e⟩;obtain⟨u,d,e⟩:=yy ok.heap (j _) h;exact⟨u,by simp only[Cp,g,d],e⟩;obtain⟨u,d,e⟩:=qT ok.heap (j _) h;exact⟨u,by simp only[Cp,g,d],e⟩;obtain⟨u,d,e⟩:=xf (j _) h;exact⟨u,by simp only[Cp,g,d],e⟩;obtain⟨u,d,e⟩:=qj ok.heap (j _) h;exact⟨u,by simp only[Cp,g,d],e⟩;obtain⟨u,d,e⟩:=xo (H:=H) (j _) h;exact⟨u,by simp only[Cp,g,d],e⟩;rename_i t x Q O R;obtain⟨u,d,e⟩:=yR ok.heap (j _) h;have q:∀o:Ω Operand,o.map (BR (B6 env))=(o.map (Jz env)).map TV.enc:=by
  intro o;cases o with
  |none=>rfl
  |some y=>simp only[Bw,g]
 exact⟨u,by simp only[Cp,g,q,d],e⟩;rename_i x i;split at h;rename_i N s;split at h;rename_i v z;have w:BR (B6 env) x=.tup (N.map TV.enc):=by rw[g,s];simp only[TV.enc,uL]
 have E:=j x;rw[s]at E;exact⟨v,by simp only[Cp,w,CO,z,Bw],h,qz E (BP z)⟩;cases h;cases h;rename_i f a b;split at h;rename_i l m A L;refine⟨_,?_,h,KF trivial⟩;have q:∀o:Ψ Operand,o.map (BR (B6 env))=(o.map (Jz env)).map TV.enc:=by intro o;rw[Lh];exact Lg λy _=>g y
 simp only[Cp,q,<-rD A,<-rD L,TV.enc,B0.one];cases h;rename_i t C;obtain⟨v,z,h⟩:=XP h;obtain⟨I,J⟩:=yr (H:=H) z;refine⟨v,?_,h,J λq M=>?_⟩;simp only[Cp];rw[<-I,Lh];congr 1;exact Lg λp _=>by simp only[Function.comp,g]
 obtain⟨p,_,rfl⟩:=BY.1 M;exact j _;obtain⟨u,d,e⟩:=AAx ok.heap (j _) h;exact⟨u,by simp only[Cp,g,d],e⟩;obtain⟨u,d,e⟩:=wn (H:=H) h;exact⟨u,by simp only[Cp,g,d],e⟩;obtain⟨u,d,e⟩:=wn (H:=H) h;exact⟨u,by simp only[Cp,g,d],e⟩;obtain⟨u,d,e⟩:=AA5 (H:=H) h;exact⟨u,by simp only[Cp,g,d],e⟩;cases h
end
def Conv(x y:Cx)(v v':Af):Prop:=∀c,B3 x v c->B3 y v' c
def To(x y:Cx)(H H2:Ay):Prop:=
 θ H2=θ H/\∀(j:Nat)(e':Fv),H2[j]?=D e'->e'=.dead\/
  (∃g cs cs',H[j]?=D (.live g cs)/\e'=.live g cs'/\θ cs'=θ cs/\∀(i:Nat)(v':Af),cs'[i]?=D v'->∃v,cs[i]?=D v/\Conv x y v v')\/
  (H[j]?=D e'/\∀g cs,e'≠.live g cs)
theorem To.refl(x:Cx)(H:Ay):To x x H H:=by
 refine⟨rfl,λj a d=>?_⟩;cases a with
 |live g c=>exact .inr (.inl ⟨g,c,c,d,rfl,rfl,λi v b=>⟨v,b,λ_ r=>r⟩⟩)
 |_=>grind
theorem To.own{H d}{h}(hr:To k y H d):∀B,owned h d B->owned h H B:=by rintro B ⟨j,f,i,c,a⟩;rcases hr.2 j f i with b|⟨g,x,e,b,_⟩|⟨b,_⟩;grind;exact⟨j,_,b,k!,a⟩;exact⟨j,_,b,c,a⟩
def To.later{h}{H a}{w}{x y}(hr:To x y H a):(cx X h H w).Later (cx X h a w):={size:=Ao _,keep:=λ_ _ _ _=>rfl,own:=λB _ b=>b.imp _root_.id (hr.own B),n:=by simp[cx,hr.1],gen:=λ_ _=>Ao _,same:=λ_ _ _=>⟨rfl,rfl⟩}
theorem I6.rel{X:Nat->Prop}{h}{n}(w:I6 X h q s)(hr:To (cx X h q s) (cx X h n s) q n):I6 X h n s:=by
 have y:=hr.own (h:=h);have M:(cx X h q s).Later (cx X h n s):=hr.later;have back:∀{j:Nat}{e:Fv},n[j]?=D e->e≠.dead->∃N,q[j]?=D N/\N≠.dead:=by intro j e l al;rcases hr.2 j e l with a|⟨g,z,C,a,_⟩|⟨a,_⟩;grind;grind;grind
 refine⟨λB p=>⟨(w.out B p).1,λho=>(w.out B p).2 (y B ho)⟩,λj R C l=>?_,λj L l=>?_,λi j e e' B a c J K O D_=>?_,w.bldKeep λj e l p=>?_⟩;rcases hr.2 j _ l with a|⟨g,z,o,a,c,O,D_⟩|⟨_,a⟩;cases a;injection c with S U;subst S U;obtain⟨I,Y⟩:=w.live j R z a;refine⟨I,?_⟩;rcases Y with⟨k,h0⟩|⟨B,A,T,Q,f,k,W,H,ad,G,b⟩;refine .inl ⟨k,?_⟩;grind;refine .inr ⟨B,A,T,Q,f,k,W,H,o!,G,λi v' Z=>?_⟩;obtain⟨v,hv,V⟩:=D_ i v' Z;obtain⟨p1,p2,p3⟩:=b i v hv;exact⟨p1,p2,V _ p3⟩;grind;rcases hr.2 j _ l with a|⟨g,z,o,_,c,_⟩|⟨a,_⟩;cases a;cases c;obtain⟨I,B,r,q1,q2,q3,q4,q5,q6,q7,q8,P⟩:=w.lp j L a;exact⟨I,B,r,q1,q2,q3,q4,q5,q6,q7,q8,λt v m=>⟨(P t v m).1,(P t v m).2.later M⟩⟩;obtain⟨d,E,F⟩:=back a J;obtain⟨d',u,x⟩:=back c K;exact w.inj i j _ _ B E u F x O D_;refine⟨?_,rfl,rfl,rfl,λ_ _ _ _ _=>rfl⟩;rcases hr.2 j _ l with a|⟨g,z,o,_,c,_⟩|⟨a,_⟩;subst a;cases p;subst c;cases p;exact a
theorem To.onto{a}(hr:To (cx X h q s) (cx X h q s) q a):To (cx X h q s) (cx X h a s) q a:=by have e:(cx X h q s).Later (cx X h a s):=hr.later;refine⟨hr.1,λj k p=>?_⟩;rcases hr.2 j k p with d|⟨g,f,b,d,l,m,n⟩|d;grind;refine .inr (.inl ⟨g,f,b,d,l,m,λi t o=>?_⟩);obtain⟨v,H,w⟩:=n i t o;exact⟨v,H,λc r=>(w c r).later e⟩;grind
def Wy{env2:Env}{b:Ay}(i:θ b=θ q)(hr:∀X h w,I6 X h q w→To (cx X h q w) (cx X h b w) q b∧ ∀t c,(t,c)∈env2→ ∃v,(t,v)∈A∧Conv (cx X h q w) (cx X h b w) v c):
  Fp N (θ q) A q env2 b:=by
 refine⟨o!,λX h a w s=>?_⟩;obtain⟨e,g⟩:=hr X h w s.sim;refine⟨h,⟨s.sim.rel e,λt c m=>?_,s.size⟩,λ_ _=>⟨rfl,rfl,rfl⟩,e.own⟩;obtain⟨v,d,f⟩:=g t c m;exact⟨(s.env t v d).1,f _ (s.env t v d).2⟩
def To.ext{X:Nat->Prop}{c}{H a b}{d}(hr:To k y H b)(e:HT c a d h H s):HT c a d h b s where
 os:=e.os
 tape:=e.tape
 output:=e.output
 size:=e.size
 keep:=e.keep
 n:=by rw[hr.1];exact e.n
 gen:=e.gen
 same:=e.same
 fresh B hB:=e.fresh B (hr.own B hB)
 loops:=e.loops
def Jy.after{N:Nat}{H:Ay}{v g:Af}{H1 b:Ay}(h:Jy P N o A H (DN v H1))
  (hr:∀X h w,I6 X h H1 w->To (cx X h H1 w) (cx X h b w) H1 b/\Conv (cx X h H1 w) (cx X h b w) v g):Jy P N o A H (DN g b):=by
 intro r X i a w s Q;apply Ws (h r X i a w s Q);rintro q n ⟨c,u,d,p,j,⟨rfl,rfl⟩,k,e,l⟩;obtain⟨f,m⟩:=hr X d n e;exact⟨c,_,d,_,j,⟨rfl,rfl⟩,m _ k,e.rel f,To.ext (X:=X) f l⟩
def Jy.before{N}{env2}{H H2:Ay}{K:Af->Ay->Prop}(b:Fp N (θ H) A H env2 H2)(h:Jy P N o env2 H2 K):Jy P N o A H K:=by intro r X g a w s Q;obtain⟨f,q,j,l⟩:=b.2 X g a w s;apply Ws (h r X f a w q Q);rintro t u ⟨c,v,e,d,i,k,n,m,p⟩;exact⟨c,v,e,d,i,k,n,m,(Fp.ext rfl b.1 j l (HT.refl g H w)).trans p⟩
def E8.before{args args2:E Af}{H H2:Ay}(hn:θ args2=θ args)
  (hr:∀X h w,I6 X h H w->To (cx X h H w) (cx X h H2 w) H H2/\∀(j:Nat)(b:Af),args2[j]?=D b->∃v,args[j]?=D v/\Conv (cx X h H w) (cx X h H2 w) v b)
  (h:E8 P z args2 H2 W):E8 P z args H W:=by
 intro X g w a s o l;obtain⟨f,r⟩:=hr X g w s;refine(h X g w a (s.rel f) o! λj b c n m=>?_).mono ?_;obtain⟨v,p,d⟩:=r j b n;exact d _ (l j v c p m);rintro e y ⟨c,v,k,i,rfl,q,u,t,x⟩;exact⟨c,v,k,i,rfl,q,u,t,(To.ext (X:=X) f (HT.refl g H w)).trans x⟩
def XX(v v':Af):Prop:=∀x c,B3 x v c->B3 x v' c
def XX.refl(v:Af):XX v v:=λ_ _ h=>h
def XX.nil{sz:Nat}(h:0<sz):XX .nils (.vs sz []):=λ_ _ r=>r.nil_vs h
def D0(cs cs':E Af):Prop:=θ cs'=θ cs/\∀(i:Nat)(v':Af),cs'[i]?=D v'->∃v,cs[i]?=D v/\XX v v'
theorem D0.refl(a:E Af):D0 a a:=⟨rfl,λ_ v h=>⟨v,h,.refl v⟩⟩
theorem D0.append{b f}(c:D0 g U)(a:D0 b f):D0 (g++b) (U++f):=by refine⟨by simp[c.1,a.1],λi l h=>?_⟩;rcases A1 i (θ U)with d|d;rw[Cb d]at h;obtain⟨v,j,k⟩:=c.2 i l h;grind;rw[Cu d]at h;obtain⟨v,j,k⟩:=a.2 _ l h;exact⟨v,by rw[Cu (by rw[<-c.1];exact d),<-c.1];exact j,k⟩
theorem D0.one{b}(h:XX v b):D0 [v] [b]:=⟨rfl,λi u a=>by
 match i,a with
 |0,a=>grind
 |i+1,a=>simp at a⟩
def D0.agg{b a}(h:D0 b a):XX (.agg b) (.agg a):=by
 intro x c r;cases r with
 |agg i e hr=>refine .agg (by rw[i,h.1]) e λj m d g f=>?_;obtain⟨v,k,l⟩:=h.2 j m g;exact l _ _ (hr j v d k f)
mutual
def Ty.mk:(t:Ty)->List B0->Option (t.D×List B0)
 |.bool,.bl b::r=>δ (b,r)
 |.int k,.it k' n::r=>if k=k' then δ (n,r)else ε
 |.str,.st s::r=>δ (s,r)
 |.list t,.ls t' l::r=>if h:(Ty.list t').beq (Ty.list t)=ζ then δ (Ty.cast h l,r)else ε
 |.list _,.nil::r=>δ ([],r)
 |.arr n t,.ar n' t' a::r=>if h:(Ty.arr n' t').beq (Ty.arr n t)=ζ then δ (Ty.cast h a,r)else ε
 |.prod ts,ls=>ts.mk ls
 |_,_=>ε
def Sz.mk:(ts:Sz)->E B0->Ω (ts.D×E B0)
 |.one t,ls=>t.mk ls
 |.cons t ts,ls=>
  match t.mk ls with
  |some (x,r)=>match ts.mk r with|some (y,r')=>D ((x,y),r')|none=>ε
  |none=>ε
end
mutual
theorem Ty.mk_spec:∀(t:Ty)(b:List B0)(x:t.D)(r:List B0),t.mk b=δ (x,r)->∃a,b=a++r/\D0 (lvs a) (t.enc x).cells
 |.bool,b,x,r,h=>by
  cases b with
  |nil=>simp[Ty.mk]at h
  |cons y b=>
   cases y<;>simp only[Ty.mk]at h<;>try (cases h;done)
   simp only[Av,Ep]at h;obtain⟨rfl,rfl⟩:=h;exact⟨[_],rfl,D0.refl _⟩
 |.int k,b,x,r,h=>by
  cases b with
  |nil=>simp[Ty.mk]at h
  |cons y b=>
   cases y<;>simp only[Ty.mk]at h<;>try (cases h;done)
   split at h;rename_i f;subst f;simp only[Av,Ep]at h;obtain⟨rfl,rfl⟩:=h;exact⟨[_],rfl,D0.refl _⟩;cases h
 |.str,b,x,r,h=>by
  cases b with
  |nil=>simp[Ty.mk]at h
  |cons y b=>
   cases y<;>simp only[Ty.mk]at h<;>try (cases h;done)
   simp only[Av,Ep]at h;obtain⟨rfl,rfl⟩:=h;exact⟨[_],rfl,D0.refl _⟩
 |.list t,b,x,r,h=>by
  cases b with
  |nil=>simp[Ty.mk]at h
  |cons y b=>
   cases y<;>simp only[Ty.mk]at h<;>try (cases h;done)
   split at h;rename_i c;simp only[Av,Ep]at h;obtain⟨rfl,rfl⟩:=h;refine⟨[_],rfl,?_⟩;have d:((Ty.list t).enc (Ty.cast c ‹_›))=_:=eE c _;rw[d];exact D0.refl _;cases h;simp only[Av,Ep]at h;obtain⟨rfl,rfl⟩:=h;exact⟨[_],rfl,D0.one (XX.nil t.sz_pos)⟩
 |.arr n t,b,x,r,h=>by
  cases b with
  |nil=>simp[Ty.mk]at h
  |cons y b=>
   cases y<;>simp only[Ty.mk]at h<;>try (cases h;done)
   split at h;rename_i c;simp only[Av,Ep]at h;obtain⟨rfl,rfl⟩:=h;refine⟨[_],rfl,?_⟩;have d:((Ty.arr n t).enc (Ty.cast c ‹_›))=_:=eE c _;rw[d];have e:∀y:B0,lvs [y]=y.enc:=λy=>by rw[IQ];simp[lvs]
   rw[e];exact D0.refl _;cases h
 |.prod ts,b,x,r,h=>ts.mk_spec b x r (by simpa only[Ty.mk]using h)
theorem Sz.mk_spec:∀(d:Sz)c(x:d.D)(r:E B0),d.mk c=D (x,r)->∃a,c=a++r/\D0 (lvs a) (d.cells x)
 |.one t,c,x,r,h=>t.mk_spec c x r (by simpa only[Sz.mk]using h)
 |.cons t d,c,x,r,h=>by simp only[Sz.mk]at h;split at h;rename_i y e f;split at h;rename_i z k g;simp only[Av,Ep]at h;obtain⟨rfl,rfl⟩:=h;obtain⟨a,rfl,i⟩:=t.mk_spec c y e f;obtain⟨b,rfl,j⟩:=d.mk_spec e z k g;exact⟨a++b,by rw[A2],by rw[HK];exact i.append j⟩;cases h;cases h
end
def Ty.isAgg:Ty->Bool
 |.arr .. =>ζ
 |.prod _=>ζ
 |_=>η
def Ty.all(t:Ty)(ls:List B0):Option t.D:=
 match t.mk ls with
 |some (x,[])=>δ x
 |_=>ε
theorem GL{t:Ty}{b:List B0}{x:t.D}(h:t.all b=some x):D0 (Go.Ab.lvs b) (t.enc x).cells:=by
 unfold Ty.all at h;split at h
 ·rename_i y c;obtain⟨a,rfl,d⟩:=t.mk_spec b y [] c;grind
 ·cases h
def Ty.data(t:Ty)(v:TV):Option t.D:=
 match v with
 |.c x=>match t.isAgg|| !x.scalar with|true=>ε|false=>t.all [x]
 |.g cs=>match t.isAgg with|true=>t.all cs|false=>ε
 |_=>ε
def Ty.scalar_cells(h:t.isAgg=η)(x:t.D):(t.enc x).cells=[t.enc x]:=by cases t<;>first|rfl|cases h
def Ty.agg_enc(h:t.isAgg=ζ)(x:t.D):t.enc x=.agg (t.enc x).cells:=by cases t<;>first|rfl|cases h
theorem KV{t:Ty}{v:TV}{x:t.D}(h:t.data v=some x):XX v.enc (t.enc x):=by
 unfold Ty.data at h;split at h
 ·rename_i y;split at h
  ·cases h
  ·rename_i a;simp at a;have:=GL h;rw[t.scalar_cells a.1,IQ,NF a.2]at this;obtain⟨u,b,c⟩:=this.2 0 _ rfl;simp at b;subst b;exact c
 ·rename_i d;split at h
  ·rename_i a;have:=(GL h).agg;rw[<-t.agg_enc a]at this;exact this
  ·cases h
 ·cases h
def Ty.tv(t:Ty)(x:t.D):TV:=
 match t,x with
 |.bool,b=>.c (.bl b)
 |.int k,n=>.c (.it k n)
 |.str,s=>.c (.st s)
 |.list t,l=>.c (.ls t l)
 |.arr n t,a=>.g [.ar n t a]
 |.prod ts,x=>.g (ts.lvs x)
def Ty.tv_enc(t:Ty)(x:t.D):(t.tv x).enc=t.enc x:=by
 cases t with
 |arr n t=>
  have a:∀y:B0,Go.Ab.lvs [y]=y.enc:=λy=>by rw[IQ];simp[Go.Ab.lvs]
  simp only[Ty.tv,TV.enc,a];rfl
 |prod b=>simp only[Ty.tv,TV.enc,b.lvs_cells];rfl
 |_=>rfl
def Ty.tv_ok(t:Ty)(x:t.D):(t.tv x).ok m:=by
 cases t with
 |prod a=>exact a.lvs_ok x
 |_=>exact KF trivial
def D9.ro:D9->Bool
 |.dead=>η
 |.live b _=>b
 |.buf b _ _ _ _=>b
 |.lp b _ _ _ _ _ _ _=>b
 |.mp b _ _ _=>b
def D9.isLp:D9->Bool
 |.lp .. =>ζ
 |_=>η
def LpS(H H':Aw):Prop:=∀(id:Nat),id<θ H->∀ro F n env ps a b s,H'[id]?=D (.lp ro F n env ps a b s)->∃ro0 s0,H[id]?=D (.lp ro0 F n env ps a b s0)
def LpS.refl(H:Aw):LpS H H:=λ_ _ _ _ _ _ _ _ _ _ h=>⟨_,_,h⟩
def D9.lock:D9->D9
 |.dead=>.dead
 |.live _ cs=>.live ζ cs
 |.buf _ t l n ver=>.buf ζ t l n ver
 |.lp _ F n env ps a b s=>.lp ζ F n env ps a b s
 |.mp _ k t es=>.mp ζ k t es
theorem pS(e:D9):e.lock.enc=e.enc:=by cases e<;>rfl
structure CN(H H':Aw):Prop where
 len:H.length<=H'.length
 refs:∀id ver t n,Sp H id ver t n->Sp H' id ver t n
 ro:∀(id:Nat)(e:D9),H[id]?=some e->e.ro=true->H'[id]?=some e
 nb:∀id,id<H.length->(∀t l n ver,H[id]? ≠some (.buf false t l n ver))->∀t l n ver,H'[id]? ≠some (.buf false t l n ver)
 lp:LpS H H'
theorem CN.refl(H:Aw):CN H H:=⟨Ao _,λ_ _ _ _ h=>h,λ_ _ h _=>h,λ_ _ h=>h,.refl H⟩
def CN.trans{a b c}(h:CN a b)(k:CN b c):CN a c:=⟨C5 h.len k.len,λid d t n q=>k.refs id d t n (h.refs id d t n q),λid e q r=>k.ro id e (h.ro id e q r) r,λid q r=>k.nb id (DX q h.len) (h.nb id q r),λid q _ _ _ _ _ _ _ _ r=>by obtain⟨g,i,f⟩:=k.lp id (DX q h.len) _ _ _ _ _ _ _ _ r;exact h.lp id q _ _ _ _ _ _ _ _ f⟩
def CN.leaf(h:CN m l)(k:J.ok m):J.ok l:=by
 cases J with
 |own id a t n=>exact h.refs id a t n k
 |_=>trivial
def CN.lok(h:CN m l)(k:lok m j):lok l j:=λx c=>h.leaf (k x c)
def CN.tv(h:CN m l)(k:p.ok m):p.ok l:=h.lok k
def CN.ent(h:CN m l)(k:O.ok m):O.ok l:=by
 cases O with
 |live b d=>exact h.lok k
 |buf b t H n c=>exact k
 |dead=>trivial
 |lp=>exact k
 |mp=>exact k
def CN.env{H a}(h:CN H a){env:Bi}(k:∀p∈env,p.2.ok H):∀p∈env,p.2.ok a:=λp b=>h.tv (k p b)
theorem CN.push(H:Aw)(e:D9):CN H (H++[e]):=by refine⟨k!,λid g t n h=>⟨by have:=h.1;simp;omega,λro f l d a b=>?_⟩,λid i b hr=>?_,λid c h=>q!,λid c _ _ _ _ _ _ _ _ h=>q!⟩;rw[Cb h.1]at b;exact h.2 ro f l d a b;grind
def CN.set{H:Aw}{id:Nat}{r:D9}(o:H[id]?=D O)(hr:O.ro=η)
  (z:∀ro t l n k,r=.buf ro t l n k->∃d v p f,O=.buf d t v p f/\(f<k\/(f=k/\p=n)))
  (D_:∀ro F n env A a b s,r=.lp ro F n env A a b s->∃d x,O=.lp d F n env A a b x:=by intro _ _ _ _ _ _ _ _ h;cases h):CN H (H.set id r):=by
 have m:id<θ H:=by rcases A1 id (θ H)with u|u;exact u;rw[Cz u]at o;cases o
 refine⟨k!,λj k t n h=>⟨by simpa using h.1,λro K l J C g=>?_⟩,λj I g y=>?_,λj g h t l n k i=>?_,λj g _ _ _ _ _ _ _ _ i=>?_⟩;by_cases c:j=id;subst c;rw[HU m]at g;injection g with g;obtain⟨d,v,p,f,w,B⟩:=z _ _ _ _ _ g;subst w;obtain⟨E,G⟩:=h.2 _ _ _ _ _ o;rcases B with B|⟨rfl,rfl⟩;exact⟨o!,λO=>o!⟩;exact⟨E,G⟩;rw[Dl (c ·.symm)]at g;exact h.2 _ _ _ _ _ g;have c:j≠id:=by rintro rfl;rw[o]at g;injection g with g;subst g;rw[hr]at y;cases y
 rw[Dl (c ·.symm)];exact g;by_cases c:j=id;subst c;rw[HU m]at i;injection i with i;obtain⟨d,v,p,f,w,_⟩:=z _ _ _ _ _ i;subst w;have:d=η:=hr;subst this;exact h _ _ _ _ o;rw[Dl (c ·.symm)]at i;exact h _ _ _ _ i;by_cases c:j=id;subst c;rw[HU m]at i;injection i with i;obtain⟨d,x,q⟩:=D_ _ _ _ _ _ _ _ _ i;exact⟨d,x,by rw[o,q]⟩;rw[Dl (c ·.symm)]at i;exact⟨_,_,i⟩
theorem Qa{H:Aw}(h:∀x∈H,x.ok H)(b:O.ok (H++[O])):∀x∈H++[O],x.ok (H++[O]):=by intro x a;rcases Ah.1 a with a|a;exact(CN.push H O).ent (h x a);grind
def SD{H}{id}(d:CN H (H.set id O))(h:∀x∈H,x.ok H)(c:O.ok (H.set id O)):∀x∈H.set id O,x.ok (H.set id O):=by intro x b;rcases Ph b with b|rfl;exact d.ent (h x b);exact c
def Frame(F:E Nat)(H H':Aw):Prop:=∀j,j<θ H->j∉F->H'[j]?=H[j]?
def Frame.refl(F:E Nat)(H:Aw):Frame F H H:=λ_ _ _=>rfl
def Frame.push(F:E Nat)(H:Aw)(e:D9):Frame F H (H++[e]):=λ_ a _=>Cb a
theorem Frame.set{F:E Nat}{H}{id:Nat}(h:id∈F):Frame F H (H.set id O):=λj _ hn=>Dl λq:id=j=>hn q!
def idT:TV->E Nat
 |.c (.raw a)=>qf a
 |.c (.own id _ _ _)=>[id]
 |.aptr id .. =>[id]
 |.bptr id .. =>[id]
 |.vw id .. =>[id]
 |_=>[]
def AHB(v:TV):∀id∈qf v.enc,id∈idT v:=by
 cases v with
 |c x=>
  cases x with
  |_=>exact λ_ h=>h
 |vw id a t n b m=>intro i h;simp only[TV.enc,vwE]at h;split at h;split at h;exact h;cases h;exact h
 |_=>exact λ_ h=>h
def R6(H:Aw)(e:D9):BH (H++[e])=BH H++[e.enc]:=by simp[BH]
theorem Lo(H:Aw)(id:Nat)(e:D9):BH (H.set id e)=(BH H).set id e.enc:=by simp[BH]
theorem Cf(H:Aw):(BH H).length=θ H:=BX _
section
variable {R:Type}
def storeT(P:Program)(H:Aw)(t:TypeId)(p v:TV)(k:TV->Aw->Option R):Option R:=
 match v.words,tI P t with
 |some ws,some (_,n)=>
  match Nat.beq (AGB ws) n with
  |false=>none
  |true=>
   match p with
   | .c (.raw (.ptr id 0 off))=>
    match H[id]? with
    |some (.live false cs)=>match ADj cs off ws n with|some cs'=>k Vy (H.set id (.live false cs'))|none=>none
    |_=>none
   | .aptr id base m te i off=>
    match H[id]? with
    |some (.live false cs)=>
     match Xt cs base with
     |some (pre,.ar m' te' a::post)=>
      if h:(Ty.arr m' te').beq (Ty.arr m te)=true then
       (HF (n:=m+1) (Ty.cast h a) i).bind λe=>
        match ADj (te.lvs e) off ws n with
        |some ls=>match te.all ls with|some e'=>k Vy (H.set id (.live false (pre++(.ar m te (W6 (n:=m+1) (Ty.cast h a) i e')::post))))|none=>none
        |none=>none
      else none
     |_=>none
    |_=>none
   | .bptr id ver te _ i off=>
    match H[id]? with
    |some (.buf false te' l n' ver')=>
     match Nat.beq ver ver' with
     |true=>
      if h:(Ty.list te').beq (Ty.list te)=true then
       (ix (α:=te.D) (Ty.cast h l) i).bind λe=>
        match ADj (te.lvs e) off ws n with
        |some ls=>match te.all ls with|some e'=>k Vy (H.set id (.buf false te (Es (α:=te.D) (Ty.cast h l) i e') n' ver'))|none=>none
        |none=>none
      else none
     |false=>none
    |_=>none
   |_=>none
 |_,_=>none
theorem AAC{b d:E Af}(h:N+θ d<=θ U):XS (g++U++b) (θ g+N) d=g++XS U N d++b:=by
 unfold XS;have e:(g++U++b).take (θ g+N)=g++U.take N:=by rw[A2,fb,BN o!,Tr,fe o!]
 have f:(g++U++b).drop (θ g+N+θ d)=U.drop (N+θ d)++b:=by grind[List.drop_drop,List.drop_left]
 grind
theorem To.set_less{H m n:Ay}{g:Nat}{f cs':E Af}(x:N<θ H)(s:m=H.set N (.live g f))(t:n=H.set N (.live g cs'))(o:D0 f cs')(d:k.Later y):To k y m n:=by
 subst s t;refine⟨k!,λj p a=>?_⟩;by_cases b:j=N;subst b;rw[HU x]at a;injection a with a;subst a;refine .inr (.inl ⟨g,f,cs',q!,rfl,o.1,λi l h=>?_⟩);obtain⟨v,u,w⟩:=o.2 i l h;exact⟨v,u,λc r=>w _ _ (r.later d)⟩;rw[Dl (b ·.symm)]at a;cases p with
 |live q c0=>exact .inr (.inl ⟨q,c0,c0,q!,rfl,rfl,λi l h=>⟨l,h,λc r=>r.later d⟩⟩)
 |_=>grind
theorem il{b:Ay}(l:θ b=θ q)(i:∀(j:Nat)(e:Fv),b[j]?=D e->e≠.dead->∃a,q[j]?=D a/\a≠.dead):(cx X h q s).Later (cx X h b s):={size:=Ao _,keep:=λ_ _ _ _=>rfl,gen:=λ_ _=>Ao _,same:=λ_ _ _=>⟨rfl,rfl⟩,n:=by simp[cx,l],own:=λB _ m=>m.imp _root_.id (λ⟨j,e,k,d,c⟩=>by obtain⟨a,f,g⟩:=i j e k d;exact⟨j,a,f,g,c⟩)}
theorem Jy.set_less{N}{g:Nat}{b cs':E Af}(d:n<θ q)(h:Jy P N o A q (DN v (q.set n (.live g b))))(f:D0 b cs'):Jy P N o A q (DN v (q.set n (.live g cs'))):=by
 refine Jy.after h λX e w _=>?_;have a:(cx X e (q.set n (.live g b)) w).Later (cx X e (q.set n (.live g cs')) w):=by grind[il]
 exact⟨To.set_less d rfl rfl f a,λc r=>r.later a⟩
theorem Hg{l:E R}{x:R}(h:l[N]?=D x):N<θ l:=q!
variable {P:Program}{N:Nat}{o:Oper}{env:Bi}{H:Aw}{k:TV->Aw->Ω R}{r:R}
def nM(P:Program)(N:Nat)(o:Oper)(env:Bi)(H:Aw)(F:E Nat)(k:TV->Aw->Ω R)(r:R):Prop:=
 ∃v H',Jy P N o (B6 env) (BH H) (DN v.enc (BH H'))/\k v H'=D r/\v.ok H'/\(∀e∈H',e.ok H')/\CN H H'/\Frame F H H'
theorem yS(ok:Ob env H)(ho:o.op=.store b d T)(h:storeT P H b (Jz env d) (Jz env T) k=D r):nM P N o env H (idT (Jz env d)) k r:=by
 have V:=MH env;have a1:(Jz env T).ok H:=gu ok.env T;have ao:(Jz env d).ok H:=gu ok.env d;unfold storeT at h;split at h;rename_i ws t n hw ht;obtain⟨w1,Y,w3⟩:=ZZ hw;split at h;cases h;rename_i hn;have f:(lvs ws).length=n:=by grind[fS,Nat.eq_of_beq_eq_true]
 have R:tI P b=D (t,(Jz env T).enc.cells.length):=q!
 split at h;rename_i id y F;split at h;rename_i cs u;split at h;rename_i L hs;obtain⟨s1,s2,s3⟩:=mO hs f;have B:(BH H)[id]?=D (.live 0 (lvs cs)):=by rw[EV,u];rfl
 have j:CN H (H.set id (.live η L)):=CN.set u rfl λ_ _ _ _ _ h=>by cases h
 refine⟨Vy,_,Jy.store ho (id:=id) (g:=0) (off:=y) (v:=(Jz env T).enc) (by rw[V,F];rfl) (V T) w1 B R (by rw[Y,f];exact s2) ⟨rfl,?_⟩,h,jF,SD j ok.heap (j.lok (s3 H (ok.heap _ (BP u)) (w3 H a1))),j,Frame.set (by rw[F];exact Ax.2 rfl)⟩;rw[Lo,Y,<-s1];rfl;cases h;cases h;rename_i id w m te i y F;split at h;rename_i cs u;split at h;rename_i pre W c a p hs;split at h;rename_i hb;have x:=Ty.beq_eq _ _ hb;injection x with hm S;subst hm S;obtain⟨e,hg,h⟩:=Dh.1 h;split at h;rename_i ls Q;split at h;rename_i M A;obtain⟨ad,I⟩:=PX hs;obtain⟨s1,s2,_⟩:=mO Q f;have s:=GL A;have q:(Ty.cast hb a:Ge (W+1) c.D)=a:=rfl;rw[q]at hg h;obtain⟨h0,G,rfl,rfl⟩:=pn hg;obtain⟨J,Z,q1,q2,q3⟩:=th c.E a G;have B:(BH H)[id]?=D (.live 0 (lvs pre++J++(c.enc (a G)).cells++(Z++lvs p))):=by rw[EV,u,ad];show D (Fv.live 0 (lvs (pre++(.ar W c a::p))))=_;rw[HK,IQ,co,q1];simp only[A2];rfl
 have j:CN H (H.set id (.live η (pre++(.ar W c (W6 (n:=W+1) a (G.val:Int) M)::p)))):=CN.set u rfl λ_ _ _ _ _ h=>by cases h
 have al:lok H cs:=ok.heap _ (BP u);rw[ad]at al;obtain⟨o1,o2⟩:=Jh.1 al;refine⟨Vy,_,?_,h,jF,SD j ok.heap (j.lok (Jh.2 ⟨o1,λz hz=>?_⟩)),j,Frame.set (by rw[F];exact Ax.2 rfl)⟩;have C:y+(lvs ws).length<=(c.enc (a G)).cells.length:=by rw[f,<-c.lvs_enc];exact s2
 have st:=Jy.store (P:=P) (N:=N) (K:=DN .any ((BH H).set id (.live 0 (XS (lvs pre++J++(c.enc (a G)).cells++(Z++lvs p)) (w+(G.val:Int).toNat*c.sz+y) (Jz env T).enc.cells)))) ho (id:=id) (g:=0)
  (off:=w+(G.val:Int).toNat*c.sz+y) (v:=(Jz env T).enc) (by rw[V,F];rfl) (V T) w1 B R (by rw[Y,f];simp only[AV,q2,I];have:c.E.sz=c.sz:=rfl;rw[f]at C;simp only[DF,this];omega) ⟨rfl,rfl⟩
 have ea:w+(G.val:Int).toNat*c.sz+y=(lvs pre++J).length+y:=by rw[AV,I,q2,DF];rfl
 rw[Y,ea,AAC C]at st;have O:=Jy.set_less (cs':=lvs (pre++(.ar W c (W6 (n:=W+1) a (G.val:Int) M)::p))) (by rw[Cf];exact Hg u) st (by rw[HK,IQ,co,q3 M];simp only[A2];refine(D0.refl _).append ((D0.refl _).append (D0.append ?_ (D0.refl _)));rw[<-c.lvs_enc,<-s1];exact s);rw[Lo];exact O;rcases As.1 hz with rfl|hz;trivial;exact o2 z (by simp[hz]);cases h;cases h;cases h;cases h;cases h;rename_i id U te nn i y F;split at h;rename_i c l X a2 u;split at h;rename_i hv;have a0:=DQ hv;subst a0;split at h;rename_i hb;have x:=Ty.beq_eq _ _ hb;injection x with S;subst S;obtain⟨e,hg,h⟩:=Dh.1 h;split at h;rename_i ls Q;split at h;rename_i M A;obtain⟨s1,s2,_⟩:=mO Q f;have s:=GL A;have q:(Ty.cast hb l:E c.D)=l:=rfl;rw[q]at hg h;obtain⟨J,Z,q1,q2,q3,q4,_,q5⟩:=uD c.E hg;have hr:Sp H id U c nn:=by rw[F]at ao;exact ao (.own id U c nn) (by simp[TV.refs])
 obtain⟨_,ax⟩:=hr.2 _ _ _ _ _ u;obtain⟨_,rfl⟩:=ax rfl;have ap:X=θ l:=ok.heap _ (BP u);have B:(BH H)[id]?=D (.live X (J++(c.enc e).cells++Z)):=by rw[EV,u];show D (Fv.live X (c.E.cl l))=_;rw[q1];rfl
 have j:CN H (H.set id (.buf η c (Es l i M) X U)):=CN.set u rfl λ_ _ _ _ _ h=>by cases h;exact⟨_,_,_,_,rfl,.inr ⟨rfl,rfl⟩⟩
 refine⟨Vy,_,?_,h,jF,SD j ok.heap ((pT ap.symm).symm),j,Frame.set (by rw[F];exact Ax.2 rfl)⟩;have C:y+(lvs ws).length<=(c.enc e).cells.length:=by rw[f,<-c.lvs_enc];exact s2
 have st:=Jy.store (P:=P) (N:=N) (K:=DN .any ((BH H).set id (.live X (XS (J++(c.enc e).cells++Z) (i.toNat*c.sz+y) (Jz env T).enc.cells)))) ho (id:=id) (g:=X)
  (off:=i.toNat*c.sz+y) (v:=(Jz env T).enc) (by rw[V,F];rfl) (V T) w1 B R (by rw[Y,f];simp only[AV,q2];have:c.E.sz=c.sz:=rfl;rw[f]at C;rw[this];omega) ⟨rfl,rfl⟩
 have ea:i.toNat*c.sz+y=θ J+y:=by rw[q2];rfl
 rw[Y,ea,AAC C]at st;have O:=Jy.set_less (cs':=c.E.cl (Es l i M)) (by rw[Cf];exact Hg u) st (by unfold Es;rw[q5 M];refine D0.append (D0.append (D0.refl _) ?_) (D0.refl _);rw[<-c.lvs_enc,<-s1];exact s);rw[Lo];exact O;cases h;cases h;cases h;cases h;cases h;cases h;cases h
end
section
variable {R:Type}
def AAX(P:Program)(H:Aw)(t:TypeId)(k:TV->Aw->Ω R):Ω R:=
 match vX P t with
 |some z=>k (.c (.raw (.ptr (θ H) 0 0))) (H++[.live η z])
 |none=>ε
def AGf(H:Aw)(v:TV)(k:TV->Aw->Ω R):Ω R:=
 match v.words with
 |some ws=>k (.c (.raw (.ptr (θ H) 0 0))) (H++[.live η ws])
 |none=>ε
def nC(t:Ty):List TV->Option (List t.D)
 |[]=>some []
 |v::r=>match t.data v,nC t r with|some x,some xs=>some (x::xs)|_,_=>none
def elT(P:Program)(t:TypeId):Ω Ty:=
 match eI P t with
 |some (ε,e,sz)=>
  match ABf P 1000 e with
  |some te=>if sz=te.sz/\Sy P e=ζ then D te else ε
  |none=>ε
 |_=>ε
def iw(len:Nat)(te:Ty)(parts:Array (Nat×Operand))(vs:E TV):Bool:=
 τ (parts.toList.map (·.1)=List.range len)&&(vs.all λv=>match v.words with|some ws=>ξ (AGB ws) te.sz|none=>η)&&Nat.ble len 4096&&Nat.ble te.sz 4096
def aB(P:Program)(env:Bi)(H:Aw)(t:TypeId)(len:Nat)(parts:Array (Nat×Operand))(k:TV->Aw->Ω R):Ω R:=
 match elT P t with
 |some te=>
  match iw len te parts (parts.toList.map λp=>Jz env p.2)with
  |true=>match nC te (parts.toList.map λp=>Jz env p.2)with|some xs=>k (.c (.own (θ H) 0 te (θ xs))) (H++[.buf η te xs (θ xs) 0])|none=>ε
  |false=>ε
 |none=>ε
def rS(P:Program)(env:Bi)(t:TypeId)(len:Nat)(parts:Array (Nat×Operand))(k:TV->Ω R):Ω R:=
 match elT P t with
 |some te=>
  match iw len te parts (parts.toList.map λp=>Jz env p.2)with
  |true=>match nC te (parts.toList.map λp=>Jz env p.2)with|some xs=>k (.c (.ls te xs))|none=>ε
  |false=>ε
 |none=>ε
def im(P:Program)(H:Aw)(t:TypeId)(x y:TV)(k:TV->Aw->Option R):Option R:=
 match eI P t,x,y with
 |some (none,e,_),.c (.it _ l),.c (.it _ c)=>
  match elT P t,vX P e with
  |some te,some z=>match te.all z with|some zd=>(mk zd l c).bind λr=>k (.c (.own H.length 0 te r.length)) (H++[.buf false te r r.length 0])|none=>none
  |_,_=>none
 |_,_,_=>none
def vU(P:Program)(H:Aw)(src dst:TypeId)(x:TV)(k:TV->Aw->Ω R):Ω R:=
 match P.underlying src,P.underlying dst,x with
 |some _,D (.slice e),.c (.st s)=>
  match P.underlying e with
  |some (.int .u8)=>k (.c (.own (θ H) 0 (.int .u8) (Tn s).length)) (H++[.buf η (.int .u8) (Tn s) (Tn s).length 0])
  |_=>ε
 |_,_,_=>ε
def AFm(H:Aw)(te:Ty)(v:TV):Option (List te.D):=
 match v with
 |.c (.ls te' l)=>if h:(Ty.list te').beq (Ty.list te)=ζ then δ (Ty.cast h l)else ε
 |.c (.own id ver te' _)=>if h:(Ty.list te').beq (Ty.list te)=ζ then(match Yq H id ver te' with|some l=>δ (Ty.cast (t:=.list te') (t':=.list te) h l)|none=>ε)else ε
 |.vw id ver te' _ lo m=>if h:(Ty.list te').beq (Ty.list te)=ζ then(match Yq H id ver te' with|some l=>δ (Ty.cast (t:=.list te') (t':=.list te) h ((l.drop lo).take m))|none=>ε)else ε
 |.c .nil=>δ []
 |_=>ε
def tA(P:Program)(H:Aw)(t:TypeId)(s x:TV)(k:TV->Aw->Option R):Option R:=
 match elT P t with
 |some te=>
  match AFm H te x with
  |some xs=>
   match s with
   |.c .nil=>(app [] xs).bind λr=>k (.c (.own (θ H) 0 te (θ r))) (H++[.buf η te r (θ r) 0])
   |.c (.own id ver te' _)=>
    match H[id]? with
    |some (.buf η t2 l _ ver')=>
     match ξ ver ver' with
     |true=>
      if h:(Ty.list t2).beq (Ty.list te)=ζ/\(Ty.list te').beq (Ty.list te)=ζ then
       (app (α:=te.D) (Ty.cast h.1 l) xs).bind λr=>k (.c (.own id (ver+1) te (θ r))) (H.set id (.buf η te r (θ r) (ver+1)))
      else ε
     |false=>ε
    |_=>ε
   |_=>ε
  |none=>ε
 |none=>ε
variable {P:Program}{N:Nat}{o:Oper}{env:Bi}{H:Aw}{k:TV->Aw->Ω R}{r:R}
theorem vA{H:Aw}{l:E t.D}:(TV.c (.own (θ H) N t (θ l))).ok (H++[.buf S t l (θ l) N]):=by refine KF ⟨k!,λd h f g b e=>?_⟩;grind
def tH(H:Aw)(b:Ty)(n a:Nat):(TV.c (.own (θ H) a b n)).enc=.sl (BH H).length n b.sz 0 n:=by rw[Cf];rfl
def xQ(ok:Ob env H)(t:o.op=.alloc b)(h:AAX P H b k=D r):nM P N o env H [] k r:=by
 unfold AAX at h;split at h;rename_i z d;obtain⟨e,f⟩:=Zc d;refine⟨_,_,?_,h,KF trivial,Qa ok.heap (f _),CN.push _ _,Frame.push _ _ _⟩;have a:(TV.c (.raw (.ptr (θ H) 0 0))).enc=.ptr (BH H).length 0 0:=by rw[Cf];rfl
 rw[a,R6];exact Jy.alloc t e ⟨rfl,rfl⟩;cases h
def AAe(ok:Ob env H)(t:o.op=.box b d)(h:AGf H (Jz env d) k=D r):nM P N o env H [] k r:=by
 unfold AGf at h;split at h;rename_i i x;obtain⟨e,f,g⟩:=ZZ x;refine⟨_,_,?_,h,KF trivial,Qa ok.heap ((CN.push _ _).lok (g H (gu ok.env d))),CN.push _ _,Frame.push _ _ _⟩;have a:(TV.c (.raw (.ptr (θ H) 0 0))).enc=.ptr (BH H).length 0 0:=by rw[Cf];rfl
 rw[a,R6];exact Jy.box t (MH env d) e ⟨rfl,by rw[f];rfl⟩;cases h
def nq{t:Ty}:∀{b}{a:E t.D},nC t b=D a->D0 (b.map TV.enc) (a.map t.enc)
 |[],a,h=>by simp only[nC,Av]at h;subst h;exact D0.refl _
 |v::r,a,h=>by simp only[nC]at h;split at h;rename_i x e c d;injection h with h;subst h;have:=nq d;exact(D0.one (KV c)).append this;cases h
theorem kR{t:Ty}: ∀{e:List TV} {b:List t.D},nC t e=some b->D0 ((e.map TV.enc).flatMap Af.cells) (t.E.cl b)
 |[],b,h=>by simp only[nC,Av]at h;subst h;exact D0.refl _
 |v::r,b,h=>by
  simp only[nC]at h;split at h
  ·rename_i x k a g;injection h with h;subst h;have i:=kR g;refine D0.append ?_ i;unfold Ty.data at a;split at a
   ·rename_i y;split at a
    ·cases a
    ·rename_i d;simp at d;have c:=GL a;rw[IQ,NF d.2,<-B0.scalar_cells d.2]at c;have f:lvs ([]:List B0)=[]:=rfl;rw[f,DR]at c;exact c
   ·rename_i j;split at a
    ·exact GL a
    ·cases a
   ·cases a
  ·cases h
theorem kS(h:elT P b=D t):∃e,eI P b=D (ε,e,t.sz)/\Sy P e=ζ:=by grind[elT]
theorem vG{a}(h:elT P b=D t)(c:iw N t a (a.toList.map λp=>Jz env p.2)=ζ):
  Tf P (B6 env) b N a=D (t.sz,(a.toList.map λp=>Jz env p.2).map TV.enc):=by
 obtain⟨e,k,l⟩:=kS h;unfold iw at c;simp only[BQ,K!]at c;obtain⟨⟨⟨f,g⟩,i⟩,j⟩:=c;have d:(a.toList.map λp=>BR (B6 env) p.2)=(a.toList.map λp=>Jz env p.2).map TV.enc:=by grind[List.map_congr_left,MH]
 unfold Tf;simp only[k,d];refine C! ⟨t.sz_pos,l,f,?_,Pk i,Pk j⟩;rw[Ga];intro v n;obtain⟨u,m,rfl⟩:=BY.1 n;have:=Ga.1 g u m;split at this<;>simp_all[ZZ,fS]
theorem AC7{b:E t.D}(h:nC t G=D b):θ b=θ G:=by have:=(nq h).1;grind
theorem To.push_less{x:Cx}{H:Ay}(n:D0 g U)(d:x.Later y):To x y (H++[.live N g]) (H++[.live N U]):=by
 refine⟨k!,λj o e=>?_⟩;rcases A1 j (θ H)with b|b;rw[Cb b]at e;cases o with
 |live p c0=>exact .inr (.inl ⟨p,c0,c0,q!,rfl,rfl,λi m h=>⟨m,h,λc r=>r.later d⟩⟩)
 |_=>grind
 have k:=Hg e;simp at k;have l:j=θ H:=o!
 subst l;simp at e;subst e;refine .inr (.inl ⟨N,g,U,k!,rfl,n.1,λi m h=>?_⟩);obtain⟨v,q,s⟩:=n.2 i m h;exact⟨v,q,λc r=>s _ _ (r.later d)⟩
theorem Jy.push_less(h:Jy P N o A q (DN v (q++[.live n g])))(i:D0 g U):Jy P N o A q (DN v (q++[.live n U])):=by
 refine Jy.after h λX f w _=>?_;have b:(cx X f (q++[.live n g]) w).Later (cx X f (q++[.live n U]) w):=by refine il k! λj e l k=>?_;grind
 exact⟨To.push_less i b,λc r=>r.later b⟩
def oS(ok:Ob env H)(f:o.op=.buildSlice b n u)(h:aB P env H b n u k=D r):nM P N o env H [] k r:=by unfold aB at h;split at h;rename_i i d;split at h;rename_i g;split at h;rename_i j c;have e:=vG d g;have t:=AC7 c;refine⟨_,_,?_,h,vA,Qa ok.heap rfl,CN.push _ _,Frame.push _ _ _⟩;rw[tH,R6];have:=UX (N:=N) (H:=BH H) (K:=DN _ _) f e ⟨rfl,rfl⟩;rw[BX,<-t]at this;exact Jy.push_less this (kR c);cases h;cases h;cases h
theorem AHy{a:Ty}{vs:List Af}{l:List a.D}(h:D0 vs (l.map a.enc))(J:D0 (vs.flatMap Af.cells) (a.E.cl l))(A: ∀v∈vs,v.cells.length=a.sz):XX (.vs a.sz vs) (.vs a.sz (l.map a.enc)):=by
 intro x c O;cases O with
 |vs f w p z F q=>
  have hn:(l.map a.enc).length=vs.length:=h.1;rw[<-hn];have key: ∀(j:Nat) (e:Af) (i:Nat) (v:Af),(l.map a.enc)[j]? =some e->e.cells[i]? =some v-> ∃b k,vs[j]? =some b/\b.cells[i]? =some k/\XX k v:=by
   intro j e i v d m;obtain⟨b,n,_⟩:=h.2 j e d;have g: ∀u∈l.map a.enc,u.cells.length=a.sz:=λu K=>by obtain⟨y,_,rfl⟩:=BY.1 K;exact a.enc_len y
   have C:=pD g j e i v d m;obtain⟨k,s,t⟩:=J.2 _ v C;have I:i<a.sz:=by grind
   have G:=A b (BP n);have H:b.cells[i]? =some (b.cells[i]'(by omega)):=Au (by omega);have P:=pD A j b i _ n H;grind
  refine B3.vs f (by grind) p (λj e d=>?_) (λo=>?_) λj e i v d m=>?_
  ·obtain⟨y,_,rfl⟩:=BY.1 (BP d);exact a.enc_len y
  ·obtain⟨B,r,n,M,N,Q⟩:=F (λe=>o (Eu (by grind)));refine⟨B,r,n,M,N,λj e i v d m=>?_⟩;obtain⟨b,k,s,t,_⟩:=key j e i v d m;grind
  ·obtain⟨b,k,s,t,L⟩:=key j e i v d m;exact L _ _ (q j b i k s t)
def qq(ok:Ob env H)(s:o.op=.makeSlice b d T)(h:im P H b (Jz env d) (Jz env T) k=D r):nM P N o env H [] k r:=by
 have i:=MH env;unfold im at h;split at h;rename_i e sz Q l O c j v w;split at h;rename_i t z x A;split at h;rename_i L f;obtain⟨I,q,h⟩:=Dh.1 h;obtain⟨M,m,u⟩:=kS x;rw[j]at m;obtain⟨rfl,rfl⟩:=m;obtain⟨J,R⟩:=Zc A;have a:=GL f;obtain⟨⟨C,D_,F⟩,p,G⟩:=AK8 t.E L q;refine⟨_,_,?_,h,vA,Qa ok.heap rfl,CN.push _ _,Frame.push _ _ _⟩;rw[tH,R6];have g:(lvs z).length=t.sz:=by rw[<-a.1,t.enc_len]
 have:=Jy.makeSlice (N:=N) (H:=BH H) (K:=DN _ _) s j t.sz_pos u J g (by rw[i,v];rfl) (by rw[i,w];rfl) C D_ F ⟨rfl,rfl⟩;rw[p]at this;apply Jy.push_less this;rw[<-G,p];induction θ I with
 |zero=>exact D0.refl _
 |succ n B=>exact D0.append a B
 cases h;cases h;cases h
def vV(ok:Ob env H)(j:o.op=.convert b I d)(h:vU P H b I (Jz env d) k=D r):nM P N o env H [] k r:=by have f:=MH env;unfold vU at h;split at h;rename_i u e s l g m;split at h;rename_i i;refine⟨_,_,?_,h,vA,Qa ok.heap rfl,CN.push _ _,Frame.push _ _ _⟩;rw[tH,R6];obtain⟨c,a⟩:=AKM s;have:=qW (N:=N) (H:=BH H) (K:=DN _ _) j l g i (by rw[f,m];rfl) ⟨rfl,rfl⟩;rw[a,c]at this;exact this;cases h;cases h
def ABw(a:Ty):∀l(k:Nat),(a.E.cl l).drop (k*a.sz)=a.E.cl (l.drop k)
 |l,0=>by rw[Yn];rfl
 |[],k+1=>by simp[S1.cl]
 |x::r,k+1=>by have e:a.E.cl (x::r)=(a.enc x).cells++a.E.cl r:=rfl;have b:=a.enc_len x;rw[e,show(k+1)*a.sz=(a.enc x).cells.length+k*a.sz by rw[b,Ec,Nat.one_mul,WT],YT,LZ o!,Bt,Tr];exact ABw a r k
def ABx(a:Ty):∀l(k:Nat),(a.E.cl l).take (k*a.sz)=a.E.cl (l.take k)
 |l,0=>by rw[Yn];rfl
 |[],k+1=>by simp[S1.cl]
 |x::r,k+1=>by have e:a.E.cl (x::r)=(a.enc x).cells++a.E.cl r:=rfl;have b:a.E.cl (List.take (k+1) (x::r))=(a.enc x).cells++a.E.cl (r.take k):=rfl;have c:=a.enc_len x;rw[e,b,show(k+1)*a.sz=(a.enc x).cells.length+k*a.sz by rw[c,Ec,Nat.one_mul,WT],fb,BN o!,Tr,ABx a r k]
theorem ABQ{f:E t.D}(x:∀e∈H,e.ok H)(z:p.ok H)(h:AFm H t p=D f):Ko (BH H) t.sz p.enc=D (θ f,t.E.cl f):=by
 unfold AFm at h;split at h;rename_i a l;split at h;rename_i j;have c:=Ty.beq_eq _ _ j;injection c with b;subst b;injection h with h;have i:=h;subst i;simp only[TV.enc,B0.one,Ko,BX];rfl;cases h;rename_i id g a n;split at h;rename_i j;have c:=Ty.beq_eq _ _ j;injection c with b;subst b;split at h;rename_i l v;injection h with h;have i:l=f:=h;obtain⟨s,r⟩:=X3 x (z (.own id g a n) (by simp[TV.refs])) v;have y:=a.E.clen l;have B:a.E.sz=a.sz:=rfl;grind[TV.enc,B0.one,Ko];cases h;cases h;rename_i id g a n d m;split at h;rename_i j;have c:=Ty.beq_eq _ _ j;injection c with b;subst b;split at h;rename_i l v;injection h with h;have i:(l.drop d).take m=f:=h;obtain⟨s,r⟩:=X3 x (z (.own id g a n) (by simp[TV.refs])) v;have o:θ f=min m (n-d):=by rw[<-i,BU,DO,r]
 have w:f=(l.drop d).take (min m (n-d)):=by rw[<-i,<-r,<-DO,List.take_eq_take_min]
 have y:(a.E.cl l).length=n*a.sz:=by rw[<-r];exact a.E.clen l
 show Ko (BH H) a.sz (vwE id n a.sz d m)=_;unfold vwE;by_cases q:min m (n-d)=0;have u:f=[]:=fX.1 o!;rw[C! q,u];by_cases A:d=0;rw[C! A];simp only[Ko,s];rw[C! ⟨P!,P!,k!⟩,Yn];rfl;rw[D! A];simp[Ko,S1.cl];rw[D! q];simp only[Ko,s];have k:(d+min m (n-d))*a.sz<=n*a.sz:=Lj _ o!;rw[Ec]at k;rw[C! ⟨P!,P!,by rw[y];exact k⟩,o,ABw,ABx,<-w];cases h;cases h;injection h with h;subst h;rfl;cases h
theorem vc(ok:Ob env H)(R:o.op=.call {callee:=.builtin .append,args:= #[d,T],argTypes:= #[b,I]})(Y:b=I)(h:tA P H b (Jz env d) (Jz env T) k=D r):nM P N o env H (idT (Jz env d)) k r:=by
 subst Y;have x:=MH env;unfold tA at h;split at h;rename_i te C;obtain⟨e,Q,S⟩:=kS C;split at h;rename_i w t;have a:=ABQ ok.heap (gu ok.env T) t;rw[<-x]at a;split at h;rename_i L;obtain⟨l,u,X⟩:=Dh.1 h;obtain⟨W,j⟩:=oR u;rw[Bt]at j;subst j;refine⟨_,_,?_,X,vA,Qa ok.heap rfl,CN.push _ _,Frame.push _ _ _⟩;rw[tH,R6];have:=eC (N:=N) (H:=BH H) (K:=DN _ _) R Q te.sz_pos S (by rw[x,L];rfl) a q! ⟨rfl,rfl⟩;exact this;rename_i id g al n L;split at h;rename_i M l J v c;split at h;rename_i Z;have G:=DQ Z;subst G;split at h;rename_i y;have F:=Ty.beq_eq _ _ y.1;injection F with p;have s:=Ty.beq_eq _ _ y.2;injection s with q;subst q;subst p;obtain⟨l2,u,h⟩:=Dh.1 h;have f:(Ty.cast y.1 l:E M.D)=l:=rfl;rw[f]at u;obtain⟨W,rfl⟩:=oR u;have hr:Sp H id g M n:=by have:=gu ok.env d;rw[L]at this;exact this (.own id g M n) (by simp[TV.refs])
 obtain⟨_,A⟩:=hr.2 _ _ _ _ _ c;obtain⟨_,rfl⟩:=A rfl;have z:J=θ l:=ok.heap _ (BP c);have i:(BH H)[id]?=D (.live J (M.E.cl l)):=by rw[EV,c];rfl
 have m:CN H (H.set id (.buf η M (l++w) (l++w).length (g+1))):=CN.set c rfl λ_ _ _ _ _ h=>by cases h;exact⟨_,_,_,_,rfl,.inl (Nat.lt_succ_self _)⟩
 refine⟨_,_,?_,h,KF ⟨q!,λad I l' n2 U hg=>?_⟩,SD m ok.heap rfl,m,Frame.set (by rw[L];exact Ax.2 rfl)⟩;have O:=M.E.clen l;have B:M.E.sz=M.sz:=rfl;rw[B]at O;have:=Su (N:=N) (H:=BH H) (g':=J+θ w) (K:=DN _ _) R Q M.sz_pos S (by rw[x,L];rfl) i (by rw[O,z]) a q! (by rcases WU (θ w) with V|V;grind;exact .inl o!) ⟨rfl,rfl⟩;grind[Lo,n?,S1.cl,TV.enc,B0.one,D9.enc];grind;cases h;cases h;cases h;cases h;cases h;cases h
end
def OR(id ver:Nat)(t:Ty)(l:E t.D):B0->B0
 |.own id' ver' t' n=>match ξ id id'&&ξ ver ver' with|true=>.ls t l|false=>.own id' ver' t' n
 |x=>x
mutual
def pI(id ver:Nat)(t:Ty)(l:E t.D):TV->TV
 |.c x=>.c (OR id ver t l x)
 |.g cs=>.g (cs.map (OR id ver t l))
 |.tup vs=>.tup (gz id ver t l vs)
 |.aptr a b n te i o=>.aptr a b n te i o
 |.bptr a v te n i o=>.bptr a v te n i o
 |.vw a v te n i m=>.vw a v te n i m
 |.vptr cs post=>.vptr cs post
def gz(id ver:Nat)(t:Ty)(l:E t.D):E TV->E TV
 |[]=>[]
 |v::r=>pI id ver t l v::gz id ver t l r
end
def RW(id ver:Nat)(t:Ty)(l:E t.D):D9->D9
 |.live η cs=>.live η (cs.map (OR id ver t l))
 |e=>e
def frz(id:Nat)(env:Bi)(H:Aw):Ω (Bi×Aw):=
 match H[id]? with
 |some (.buf η t l _ ver)=>D (env.map λp=>(p.1,pI id ver t l p.2),(H.map (RW id ver t l)).set id .dead)
 |_=>ε
def QI(x y:Cx)(a b:E Af):Prop:=θ b=θ a/\∀(i:Nat)(v':Af),b[i]?=D v'->∃v,a[i]?=D v/\Conv x y v v'
theorem QI.append{b f}(c:QI k y g U)(x:QI k y b f):QI k y (g++b) (U++f):=by refine⟨by simp[c.1,x.1],λi l h=>?_⟩;rcases A1 i (θ U)with d|d;rw[Cb d]at h;obtain⟨v,j,a⟩:=c.2 i l h;grind;rw[Cu d]at h;obtain⟨v,j,a⟩:=x.2 _ l h;exact⟨v,by rw[Cu (by rw[<-c.1];exact d),<-c.1];exact j,a⟩
def QI.later{x y:Cx}(l:x.Later y)(a:E Af):QI x y a a:=⟨rfl,λ_ v h=>⟨v,h,λ_ r=>r.later l⟩⟩
theorem QI.one{b}(h:Conv k y v b):QI k y [v] [b]:=⟨rfl,λi u a=>by
 match i,a with
 |0,a=>grind
 |i+1,a=>simp at a⟩
def QI.agg{x y}{b a}(h:QI x y b a):Conv x y (.agg b) (.agg a):=by
 intro c r;cases r with
 |agg i e hr=>refine .agg (by rw[i,h.1]) e λj m d g f=>?_;obtain⟨v,k,l⟩:=h.2 j m g;exact l _ (hr j v d k f)
def QI.tup{x y}{b a}(h:QI x y b a):Conv x y (.tup b) (.tup a):=by
 intro c r;cases r with
 |tup g hr=>refine .tup (by rw[g,h.1]) λj l d f e=>?_;obtain⟨v,i,k⟩:=h.2 j l f;exact k _ (hr j v d i e)
section
variable {x y:Cx}{H:Aw}{id n ver:Nat}{t:Ty}{l:E t.D} (lat:x.Later y) (hid:H[id]?=D (.buf η t l n ver)) (hc:Conv x y (.sl id n t.sz 0 n) (.vs t.sz (l.map t.enc)))
include lat hid hc
theorem pG(e:J.ok H):QI x y J.enc (OR id ver t l J).enc/\Conv x y J.one (OR id ver t l J).one:=by
 have same:∀w:B0,QI x y w.enc w.enc/\Conv x y w.one w.one:=λw=>⟨.later lat _,λ_ r=>r.later lat⟩
 cases J with
 |own f b h g=>simp only[OR];split;rename_i a;simp only[BQ]at a;have c:=DQ a.1;have d:=DQ a.2;subst c d;obtain⟨_,q⟩:=e.2 _ _ _ _ _ hid;obtain⟨rfl,rfl⟩:=q rfl;exact⟨.one hc,hc⟩;grind
 |_=>exact same _
def qZ:∀{a},lok H a->QI x y (lvs a) (lvs (a.map (OR id ver t l)))
 |[],_=>.later lat _
 |z::r,h=>by rw[Bs,IQ,IQ];exact(pG lat hid hc (h z k!)).1.append (qZ λw b=>h w (by simp[b]))
mutual
theorem uX:∀{v:TV},v.ok H->Conv x y v.enc (pI id ver t l v).enc
 |.c z,h=>(pG lat hid hc (h z (by simp[TV.refs]))).2
 |.g cs,h=>(qZ lat hid hc h).agg
 |.tup vs,h=>QI.tup (sA (vs:=vs) h)
 |.aptr ..,_=>λ_ r=>r.later lat
 |.bptr ..,_=>λ_ r=>r.later lat
 |.vw ..,_=>λ_ r=>r.later lat
 |.vptr ..,_=>λ_ r=>r.later lat
theorem sA:∀{vs},(TV.tup vs).ok H->QI x y (TV.encL vs) (TV.encL (gz id ver t l vs))
 |[],_=>.later lat _
 |v::r,h=>by simp only[TV.encL,gz];have a:v.ok H:=qz h k!;have b:(TV.tup r).ok H:=SC λw c=>qz h (by simp[c]);exact(QI.one (uX a)).append (sA b)
end
end
def uW{H}(c:CN m l)(d:J.ok m):(OR N n t H J).ok l:=by
 cases J with
 |own f e h g=>simp only[OR];split;trivial;exact c.leaf d
 |_=>exact c.leaf d
def AB8{H}(d:CN m l)(h:lok m j):lok l (j.map (OR N n t H)):=λz f=>by obtain⟨w,e,rfl⟩:=BY.1 f;exact uW d (h w e)
mutual
theorem zH{H d:Aw}{id b:Nat}{t:Ty}{l:E t.D}(a:CN H d):∀{v:TV},v.ok H->(pI id b t l v).ok d
 |.c z,h=>KF (uW a (h z (by simp[TV.refs])))
 |.g cs,h=>AB8 a h
 |.tup vs,h=>wY a h
 |.aptr ..,h=>a.lok h
 |.bptr ..,h=>a.lok h
 |.vw ..,h=>a.lok h
 |.vptr ..,h=>a.lok h
theorem wY{H c}{id b}{t}{l}(d:CN H c):∀{e},(TV.tup e).ok H->(TV.tup (gz id b t l e)).ok c
 |[],_=>λz i=>by simp[gz,TV.refs,TV.refsL]at i
 |v::r,h=>by have f:v.ok H:=qz h k!;have g:(TV.tup r).ok H:=SC λw a=>qz h (by simp[a]);refine SC λw a=>?_;simp only[gz]at a;rcases As.1 a with rfl|a;exact zH d f;exact qz (wY d g) a
end
theorem AEt{i:Nat}{l:Ψ t.D}(f:m[N]?=D (.buf η t l n i)):CN m ((m.map (RW N i t l)).set N .dead):=by
 have s:=Hg f;refine⟨k!,λj F E v h=>⟨by simpa using h.1,λro Q L M u c=>?_⟩,λj e c hr=>?_,λj D_ h E l2 v F a=>?_,λj D_ _ _ _ _ _ _ _ _ a=>?_⟩;by_cases d:j=N;grind;rw[Dl (d ·.symm),CO]at c;cases a:m[j]? with
 |none=>grind
 |some e=>
  rw[a]at c;simp only[Bw,Av]at c;cases e with
  |live b k=>cases b<;>simp[RW]at c
  |dead=>cases c
  |lp=>cases c
  |mp=>cases c
  |buf b q o p r=>simp only[RW]at c;exact h.2 _ _ _ _ _ (by rw[a,c])
 have d:j≠N:=by rintro rfl;rw[f]at c;injection c with c;subst c;cases hr
 rw[Dl (d ·.symm),CO,c];cases e with
 |live b k=>cases b with|true=>rfl|false=>cases hr
 |dead=>cases hr
 |buf b q o p r=>rfl
 |lp=>rfl
 |mp=>rfl
 by_cases d:j=N;grind;rw[Dl (d ·.symm),CO]at a;cases g:m[j]? with
 |none=>rw[g]at a;cases a
 |some e=>
  rw[g]at a;simp only[Bw,Av]at a;cases e with
  |live b k=>cases b<;>simp[RW]at a
  |dead=>cases a
  |lp=>cases a
  |mp=>cases a
  |buf b q o p r=>grind[RW]
 by_cases d:j=N;grind[List.getElem?_set_self];rw[Dl (d ·.symm),CO]at a;cases g:m[j]? with
 |none=>rw[g]at a;cases a
 |some e=>
  rw[g]at a;simp only[Bw,Av]at a;cases e with
  |live b k=>cases b<;>simp[RW]at a
  |dead=>cases a
  |buf b q o p r=>cases a
  |mp=>cases a
  |lp C G H K O I J P=>injection a with _ w x y z A B _;subst w x y z A B;exact⟨_,_,rfl⟩
theorem AI8{id:Nat}{env env2:Bi}{H K:Aw}(ok:Ob env H)(h:frz id env H=some (env2,K)):Ob env2 K/\CN H K/\ ∀N,Fp N (BH H).length (B6 env) (BH H) (B6 env2) (BH K):=by
 unfold frz at h;split at h
 ·rename_i t l n i d;simp only[Av,Ep]at h;obtain⟨rfl,rfl⟩:=h;have G:=Hg d;have A:=AEt d;have hn:n=l.length:=ok.heap _ (BP d);refine⟨⟨λp M=>?_,λe R=>?_⟩,A,λN=>?_⟩
  ·obtain⟨q,z,rfl⟩:=BY.1 M;exact zH A (ok.env q z)
  ·rcases Ph R with R|rfl
   ·obtain⟨k,S,rfl⟩:=BY.1 R;have F:=ok.heap k S;cases k with
    |live b D_=>
     cases b with
     |true=>exact A.lok F
     |false=>exact AB8 A F
    |dead=>trivial
    |buf b Q P T U=>exact F
    |lp=>exact F
    |mp=>exact F
   ·trivial
  ·have u:(BH H)[id]? =some (.live n (t.E.cl l)):=by rw[EV,d];rfl
   refine Wy (by simp[BH]) λX g w s=>?_;have C: ∀j,(BH ((H.map (RW id i t l)).set id .dead))[j]? =if j=id then some .dead else(H[j]?).map λe=>(RW id i t l e).enc:=by
    intro j;rw[EV];by_cases v:j=id
    ·subst v;rw[if_pos rfl,HU (by simpa using G)];rfl
    ·grind
   have back: ∀(j:Nat) (e:Fv),(BH ((H.map (RW id i t l)).set id .dead))[j]? =some e->e≠ .dead->j≠id/\ ∃k,(BH H)[j]? =some k/\k≠ .dead:=by
    intro j e a f;rw[C]at a;split at a
    ·injection a with a;exact(f a.symm).elim
    ·rename_i v;refine⟨v,?_⟩;cases z:H[j]? with
     |none=>rw[z]at a;cases a
     |some k=>
      refine⟨k.enc,by rw[EV,z];rfl,λL=>f ?_⟩;rw[z]at a;simp only[Bw,Av]at a;cases k with
      |live b D_=>simp[D9.enc]at L
      |dead=>exact a.symm
      |buf b Q P T U=>simp[D9.enc]at L
      |lp=>simp[D9.enc]at L
      |mp=>simp[D9.enc]at L
   have y:(cx X g (BH H) w).Later (cx X g (BH ((H.map (RW id i t l)).set id .dead)) w):=il (by simp[BH]) λj e a f=>(back j e a f).2;have hO: ∀B,g.io id=some B-> ¬(cx X g (BH ((H.map (RW id i t l)).set id .dead)) w).O B:=by
    rintro B I (hX|⟨j,e,a,f,J⟩)
    ·exact(s.out B hX).2 ⟨id,_,u,by simp,I⟩
    ·obtain⟨v,k,Y,Z⟩:=back j e a f;exact v (s.inj j id _ _ B Y u Z (by simp) J I)
   have o:Conv (cx X g (BH H) w) (cx X g (BH ((H.map (RW id i t l)).set id .dead)) w) (.sl id n t.sz 0 n) (.vs t.sz (l.map t.enc)):=λc r=>B3.froze s u (AFN t.E l) (by rw[hn];exact BX _) y rfl hO r;refine⟨⟨by simp[BH],λj e' a=>?_⟩,λtt v' m=>?_⟩
   ·rw[C]at a;split at a
    ·injection a with a;exact .inl a.symm
    ·cases z:H[j]? with
     |none=>rw[z]at a;cases a
     |some k=>
      rw[z]at a;simp only[Bw,Av]at a;have x:(BH H)[j]? =some k.enc:=by rw[EV,z];rfl
      cases k with
      |live b D_=>
       refine .inr (.inl ?_);cases b with
       |true=>simp only[RW,D9.enc]at a;exact⟨0,lvs D_,lvs D_,x,a.symm,rfl,(QI.later y _).2⟩
       |false=>simp only[RW,D9.enc]at a;obtain⟨V,W⟩:=qZ y d o (ok.heap _ (BP z));exact⟨0,lvs D_,_,x,a.symm,V,W⟩
      |dead=>exact .inl a.symm
      |buf b Q P T U=>simp only[RW,D9.enc]at a;exact .inr (.inl ⟨T,Q.E.cl P,Q.E.cl P,x,a.symm,rfl,(QI.later y _).2⟩)
      |lp=>subst a;exact .inr (.inr ⟨x,λ_ _ h=>by cases h⟩)
      |mp=>subst a;exact .inr (.inr ⟨x,λ_ _ h=>by cases h⟩)
   ·simp only[B6,Lh,BY]at m;obtain⟨p,M,e⟩:=m;simp only[Function.comp,Ep]at e;obtain⟨rfl,rfl⟩:=e;exact⟨p.2.enc,BY.2 ⟨p,M,rfl⟩,uX y d o (ok.env p M)⟩
 ·cases h
@[reducible] def DL:E Ty->Type
 |[]=>Unit
 |[t]=>t.D
 |t::u::r=>t.D×DL (u::r)
def inp:(ts:List Ty)->List TV->Option (DL ts)
 |[],[]=>some ()
 |[t],[v]=>t.data v
 |t::u::r,v::vs=>
  match t.data v,inp (u::r) vs with
  |some x,some y=>some (x,y)
  |_,_=>none
 |_,_=>none
def xG:(ts:List Ty)->DL ts->List TV
 |[],_=>[]
 |[t],x=>[t.tv x]
 |t::u::r,x=>t.tv x.1::xG (u::r) x.2
def cp:(ts:E Ty)->DL ts->E Af
 |[],_=>[]
 |[t],x=>[t.enc x]
 |t::u::r,x=>t.enc x.1::cp (u::r) x.2
def one:E TV->TV
 |[v]=>v
 |vs=>.tup vs
def mq:E Af->Af
 |[v]=>v
 |vs=>.tup vs
def ME(bt:Ty):(rs:E Ty)->DL (rs++[bt])->DL rs×bt.D
 |[],y=>((),y)
 |[_],y=>(y.1,y.2)
 |_::u::r,y=>((y.1,(ME bt (u::r) y.2).1),(ME bt (u::r) y.2).2)
inductive RI where
 |c2 (f:FuncId) (te:Ty) (ds rs:List Ty) (post:List Af) (g:List te.D->DL ds->Option (DL (rs++[.list te])))
 |cl (f:FuncId) (t:Ty)
 |cg (f:FuncId) (ds rs:List Ty) (g:DL ds->Option (DL rs))
 |c0 (f:FuncId) (ds rs:List Ty) (g:DL ds->Option (DL rs))
 |c1 (f:FuncId) (pos:Nat) (bt:Ty) (ds rs:List Ty) (g:bt.D->DL ds->Option (DL (rs++[bt])))
def RI.f:RI->FuncId
 |.c0 f .. =>f
 |.c1 f .. =>f
 |.c2 f .. =>f
 |.cl f _=>f
 |.cg f .. =>f
def fnB:Af->Af->Bool
 |.fn (.func F) [] [],.fn (.func G) [] []=>ξ F G
 |_,_=>η
def AI6{w}(h:fnB v w=ζ):v=w:=by unfold fnB at h;split at h<;>simp_all
def wz:E TV->E Af->Bool
 |[],[]=>ζ
 |.c (.raw v)::r,w::s=>fnB v w&&wz r s
 |_,_=>η
def zq:∀{l}{p},wz l p=ζ->l.map TV.enc=p
 |[],[],_=>rfl
 |[],_::_,h=>by simp[wz]at h
 |v::r,[],h=>by cases v<;>simp[wz]at h
 |v::r,w::s,h=>by unfold wz at h;split at h;rename_i e;cases e;rename_i c d;injection c with a1 a2;injection d with a b;subst a1 a2 a b;simp only[BQ]at h;rw[Bs,zq h.2];exact E! (· ::_) (AI6 h.1);cases h
def WM:Nat->Af->E Af->E Af
 |0,v,l=>v::l
 |n+1,v,x::l=>x::WM n v l
 |_+1,v,[]=>[v]
def RI.Ok(P:Program):RI->Prop
 |.c2 f te ds rs post g=>∀l x y,g l x=D y->(ME (.list te) rs y).2.length=θ l->∀H id,H[id]?=D (.live (θ l) (te.E.cl l))->
  E8 P f (.sl id (θ l) te.sz 0 (θ l)::(cp ds x++post)) H (DN (mq (cp rs (ME (.list te) rs y).1)) (H.set id (.live (θ l) (te.E.cl (ME (.list te) rs y).2))))
 |.cl f t=>∀(l:E t.D)(H:Aw),(∀e∈H,e.ok H)->(l=[]->E8 P f [.vs t.sz []] (BH H) (DN (.vs t.sz []) (BH (H++[.dead]))))/\
  ∀r,l≠ []->app [] l=D r->E8 P f [.vs t.sz (l.map t.enc)] (BH H) (DN (.sl (θ H) (θ r) t.sz 0 (θ r)) (BH (H++[.buf η t r (θ r) 0])))
 |.c0 f ds rs g=>∀x y,g x=D y->∀H,E8 P f (cp ds x) H (DN (mq (cp rs y)) H)
 |.cg f ds rs g=>∀x y,g x=D y->∀H,E8 P f (cp ds x) H (DN (mq (cp rs y)) H)
 |.c1 f pos bt ds rs g=>∀b x y,g b x=D y->∀H id,H[id]?=D (.live 0 (bt.enc b).cells)->E8 P f (WM pos (.ptr id 0 0) (cp ds x)) H (DN (mq (cp rs (ME bt rs y).1)) (H.set id (.live 0 (bt.enc (ME bt rs y).2).cells)))
def xi:Ty->Bool
 |.bool=>ζ
 |.int _=>ζ
 |.str=>ζ
 |_=>η
def ACI(H:Aw)(t:Ty)(v:TV):Option t.D:=
 match v with
 |.c (.own id ver _ _)=>
  match H[id]? with
  |some (.buf η t' l _ ver')=>
   match ξ ver ver' with
   |true=>if h:(Ty.list t').beq t=ζ then δ (Ty.cast h l)else ε
   |false=>ε
  |_=>ε
 |v=>t.data v
def aU(H:Aw):(ts:E Ty)->E TV->Ω (DL ts)
 |[],[]=>D ()
 |[t],[v]=>ACI H t v
 |t::u::r,v::vs=>
  match ACI H t v,aU H (u::r) vs with
  |some x,D y=>D (x,y)
  |_,_=>ε
 |_,_=>ε
section
variable {R:Type}
def ABt(c:RI)(vs:List TV)(H:Aw)(k:TV->Aw->Option R):Option R:=
 match c with
 | .c0 _ ds rs g=>match inp ds vs with|some x=>(g x).bind λy=>k (one (xG rs y)) H|none=>none
 | .c1 _ pos bt ds rs g=>
  match vs[pos]? with
  |some (.c (.raw (.ptr id 0 0)))=>
   match H[id]? with
   |some (.live false cs)=>
    match bt.all cs,inp ds (vs.take pos++vs.drop (pos+1))with
    |some b,some x=>(g b x).bind λy=>k (one (xG rs (ME bt rs y).1)) (H.set id (.live false (bt.lvs (ME bt rs y).2)))
    |_,_=>none
   |_=>none
  |_=>none
 | .c2 _ te ds rs post g=>
  match vs with
  | .c (.own id ver _ _)::r=>
   match H[id]? with
   |some (.buf false t l n' ver')=>
    match Nat.beq ver ver' with
    |true=>
     if h:(Ty.list t).beq (Ty.list te)=true then
      match inp ds (r.take ds.length),wz (r.drop ds.length) post with
      |some x,true=>(g (Ty.cast h l) x).bind λy=>
       cond (Nat.beq (ME (.list te) rs y).2.length n') (k (one (xG rs (ME (.list te) rs y).1)) (H.set id (.buf false te (ME (.list te) rs y).2 n' ver'))) none
      |_,_=>none
     else none
    |false=>none
   |_=>none
  |_=>none
 | .cg _ ds rs g=>match rs.all xi,aU H ds vs with|true,some x=>(g x).bind λy=>k (one (xG rs y)) H|_,_=>none
 | .cl _ t=>
  match vs with
  |[.c (.ls te l)]=>
   if h:(Ty.list te).beq (Ty.list t)=true then
    cond (decide (((l.length:Nat):Int)=0)) (k (.c (.ls t [])) (H++[.dead])) ((app (α:=t.D) [] (Ty.cast h l)).bind λr=>k (.c (.own H.length 0 t r.length)) (H++[.buf false t r r.length 0]))
   else none
  |[.c .nil]=>k (.c (.ls t [])) (H++[.dead])
  |_=>none
def YP:∀(a:List Ty)(x:DL a),(xG a x).map TV.enc=cp a x
 |[],_=>rfl
 |[t],x=>by simp only[xG,cp,Bs,H5,t.tv_enc]
 |t::u::r,x=>by simp only[xG,cp,Bs,t.tv_enc,YP (u::r)]
theorem lQ{H:Aw}:∀(b:List Ty)(x:DL b),∀v∈xG b x,v.ok H
 |[],_,v,a=>by simp[xG]at a
 |[t],x,v,a=>by simp only[xG,Ax]at a;subst a;exact t.tv_ok x
 |t::u::r,x,v,a=>by simp only[xG,As]at a;rcases a with rfl|a;exact t.tv_ok _;exact lQ (u::r) x.2 v a
def pU(a:E TV):(one a).enc=mq (a.map TV.enc):=by
 match a with
 |[]=>rfl
 |[v]=>rfl
 |v::w::r=>simp only[one,mq,TV.enc,uL,Bs]
def u7(h:∀v∈G,v.ok m):(one G).ok m:=by
 match G,h with
 |[],h=>exact SC h
 |[v],h=>exact h v k!
 |v::w::r,h=>exact SC h
def ZQ:∀{a}{b}{x:DL a},inp a b=D x->D0 (b.map TV.enc) (cp a x)
 |[],[],x,h=>D0.refl _
 |[t],[v],x,h=>D0.one (KV h)
 |t::u::r,v::b,x,h=>by simp only[inp]at h;split at h;rename_i y z c d;injection h with h;subst h;exact(D0.one (KV c)).append (ZQ d);cases h
 |[],_::_,x,h=>by simp[inp]at h
 |[t],[],x,h=>by simp[inp]at h
 |[t],_::_::_,x,h=>by simp[inp]at h
 |_::_::_,[],x,h=>by simp[inp]at h
theorem ud:∀{n:Nat}{a:E Af}{v:Af}{b},a[n]?=D v->D0 (a.take n++a.drop (n+1)) b->D0 a (WM n v b)
 |0,u::a,v,b,h,hl=>by simp at h;subst h;exact(D0.one (XX.refl u)).append hl
 |n+1,u::a,v,b,h,hl=>by
  cases b with
  |nil=>have:=hl.1;simp at this
  |cons d b=>
   have c:XX u d:=by obtain⟨w,j,k⟩:=hl.2 0 d rfl;grind
   have e:D0 (a.take n++a.drop (n+1)) b:=⟨by have:=hl.1;simpa using this,λi g f=>hl.2 (i+1) g f⟩
   exact(D0.one c).append (ud h e)
def AGu(c:RI)(vs:E TV):E Nat:=
 match c with
 |.c0 .. =>[]
 |.c1 _ pos .. =>match vs[pos]? with|some v=>idT v|none=>[]
 |.c2 .. =>match vs[0]? with|some v=>idT v|none=>[]
 |.cl .. =>[]
 |.cg .. =>[]
def AK0(c:RI)(vs:E TV):E TV:=
 match c with
 |.c2 .. =>vs.drop 1
 |.cg .. =>[]
 |_=>vs
def qU(hn:θ U=θ g)
  (A:∀X h w,I6 X h q w->∀(j:Nat)(u:Af),U[j]?=D u->∃l,g[j]?=D l/\Conv (cx X h q w) (cx X h (q.map λ_=>.dead) w) l u)
  (E:∀x y:Cx,Conv x y v v) (h:E8 P z U (q.map λ_=>.dead) (DN v (q.map λ_=>.dead))):E8 P z g q (DN v q):=by
 intro X b w f s R hr;have H:∀m B,¬owned m (q.map λ_=>Fv.dead) B:=λm B ⟨id,e,a,d,_⟩=>by
  rw[CO]at a;cases k:q[id]? with
  |none=>rw[k]at a;cases a
  |some n=>rw[k]at a;injection a with a;exact d a.symm
 have nd:∀(id:Nat)(e:Fv),(q.map λ_=>Fv.dead)[id]?=D e->e=.dead:=λid e a=>by
  rw[CO]at a;cases k:q[id]? with
  |none=>rw[k]at a;cases a
  |some n=>rw[k]at a;injection a with a;exact a.symm
 have M:I6 X b (q.map λ_=>Fv.dead) w:=by refine⟨λB i=>⟨(s.out B i).1,H b B⟩,λid Q O a=>?_,λid L a=>?_,λid G e n B a _ d=>O! (nd id e a) d,λid e a C=>?_⟩;cases nd id _ a;cases nd id _ a;cases nd id e a;cases C
 refine(h X b w f M o! λj u c t F=>?_).mono ?_;obtain⟨l,I,J⟩:=A X b w s j u t;exact J c (hr j l c I F);rintro e r ⟨c,T,m,N,rfl,⟨rfl,rfl⟩,S,K,x⟩;have o:∀B,B<w.heap.size->r.heap[B]?=w.heap[B]? :=λB i=>x.keep B i (H b B);have p:HT b q w b q r:=⟨x.os,x.tape,x.output,x.size,λB i _=>o B i,Ao _,λ_ _=>Ao _,λ_ _ _=>⟨rfl,rfl⟩,λB D_=>.inl D_,x.loops⟩
 exact⟨c,_,b,q,rfl,⟨rfl,rfl⟩,s.of_ext p (λid e a d=>.inl ⟨a,rfl,rfl,rfl,λB i=>o B (s.io_at a d i)⟩) s.inj,E _ _ _ K,p⟩
def ur{x:t.D}(G:p.ok m)(k:∀e∈m,e.ok m)(v:ACI m t p=D x)(w:I6 C h (BH m) s):
  Conv (cx C h (BH m) s) (cx C h ((BH m).map λ_=>.dead) s) p.enc (t.enc x):=by
 have z:∀B,¬owned h ((BH m).map λ_=>Fv.dead) B:=λB ⟨id,e,a,o,_⟩=>by
  rw[CO]at a;cases k:(BH m)[id]? with
  |none=>rw[k]at a;cases a
  |some J=>rw[k]at a;injection a with a;exact o a.symm
 have i:(cx C h (BH m) s).Later (cx C h ((BH m).map λ_=>.dead) s):=⟨Ao _,λ_ _ _ _=>rfl,λB _ X=>X.elim .inl λq=>(z B q).elim,by simp[cx],λ_ _=>Ao _,λ_ _ _=>⟨rfl,rfl⟩⟩
 unfold ACI at v;split at v;rename_i id j A y;split at v;rename_i u l I g b;split at v;rename_i F;have f:=DQ F;subst f;split at v;rename_i H;have d:=Ty.beq_eq _ _ H;subst d;cases v;have hn:I=θ l:=k _ (BP b);have hr:Sp m id j A y:=G (.own id j A y) (by simp[TV.refs]);obtain⟨_,q⟩:=hr.2 _ _ _ _ _ b;obtain⟨rfl,rfl⟩:=q rfl;intro c r;have a:(BH m)[id]?=D (.live (θ l) (u.E.cl l)):=by rw[EV,b,<-hn];rfl
 exact B3.froze w a (AFN u.E l) (BX _) i rfl (λB n X=>X.elim (λq=>(w.out B q).2 ⟨id,_,a,k!,n⟩) (z B)) (show B3 _ (.sl id (θ l) u.sz 0 (θ l)) c from hn▸r);cases v;cases v;cases v;exact λc r=>KV v _ _ (r.later i)
def ut{H:Aw}(b:∀e∈H,e.ok H){X:Nat→Prop}{g:Gh}{w:World}(s:I6 X g (BH H) w):∀{c}{a:E TV}{x:DL c},(∀v∈a,v.ok H)→aU H c a=D x→
  QI (cx X g (BH H) w) (cx X g ((BH H).map λ_=>.dead) w) (a.map TV.enc) (cp c x)
 |[],[],x,_,h=>⟨rfl,λi l d=>by simp[cp]at d⟩
 |[t],[v],x,hv,h=>.one (ur (hv v k!) b h s)
 |t::u::r,v::a,x,hv,h=>by simp only[aU]at h;split at h;rename_i y z j k;injection h with h;subst h;exact(QI.one (ur (hv v k!) b j s)).append (ut b s (λw f=>hv w (by simp[f])) k);cases h
 |[],_::_,x,_,h=>by simp[aU]at h
 |[t],[],x,_,h=>by simp[aU]at h
 |[t],_::_::_,x,_,h=>by simp[aU]at h
 |_::_::_,[],x,_,h=>by simp[aU]at h
def wh{H:Aw}:∀{a}{b}{x:DL a},aU H a b=D x->(cp a x).length=(b.map TV.enc).length
 |[],[],x,h=>rfl
 |[t],[v],x,h=>rfl
 |t::u::r,v::b,x,h=>by simp only[aU]at h;split at h;rename_i y z d c;injection h with h;subst h;simpa[cp]using wh c;cases h
 |[],_::_,x,h=>by simp[aU]at h
 |[t],[],x,h=>by simp[aU]at h
 |[t],_::_::_,x,h=>by simp[aU]at h
 |_::_::_,[],x,h=>by simp[aU]at h
def sC(h:xi t=ζ)(x:t.D)(a b:Cx):Conv a b (t.enc x) (t.enc x):=by
 cases t with
 |bool=>intro c r;cases r;exact .bool _
 |int k=>intro c r;cases r;exact .int _ _
 |str=>intro c r;cases r with|str t h=>exact .str t h
 |_=>cases h
def pM{a b:Cx}:∀{rs}(_:rs.all xi=ζ)y,QI a b (cp rs y) (cp rs y)
 |[],_,_=>⟨rfl,λi d c=>by simp[cp]at c⟩
 |[t],h,y=>.one (sC (by simpa using h) y a b)
 |t::u::r,h,y=>by simp only[lg,BQ]at h;exact(QI.one (sC h.1 y.1 a b)).append (pM (rs:=u::r) (by simp[h.2]) y.2)
def ADO(h:QI y k g g):Conv y k (mq g) (mq g):=by
 match g,h with
 |[],h=>exact h.tup
 |[v],h=>obtain⟨u,c,d⟩:=h.2 0 v rfl;injection c with c;subst c;exact d
 |_::_::_,h=>exact h.tup
theorem yw{P:Program}{c:RI}(hc:c.Ok P){vs:List TV}{H:Aw}{k:TV→Aw→Option R}{r:R}(hv: ∀v∈vs,v.ok H)(G: ∀e∈H,e.ok H)(h:ABt c vs H k=some r):
  ∃v Y,E8 P c.f (vs.map TV.enc) (BH H) (DN v.enc (BH Y))/\k v Y=some r/\v.ok Y/\(∀e∈Y,e.ok Y)/\CN H Y/\Frame (AGu c vs) H Y:=by
 unfold ABt at h;split at h
 ·rename_i f N C g;split at h
  ·rename_i x U;obtain⟨y,V,h⟩:=Dh.1 h;refine⟨_,H,?_,h,u7 (lQ C y),G,CN.refl H,Frame.refl _ _⟩;rw[pU,YP];have S:=ZQ U;refine E8.before (args2:=cp N x) (H2:=BH H) S.1 (λX g0 w s=>⟨⟨rfl,λj e' p=>?_⟩,λj v' p=>?_⟩) (hc x y V _)
   ·cases e' with
    |dead=>exact .inl rfl
    |live g1 O=>exact .inr (.inl ⟨g1,O,O,p,rfl,rfl,λi v hi=>⟨v,hi,λ_ r=>r⟩⟩)
    |_=>exact .inr (.inr ⟨p,by simp⟩)
   ·obtain⟨v,q1,q2⟩:=S.2 j v' p;exact⟨v,q1,λd rr=>q2 _ _ rr⟩
  ·cases h
 ·rename_i f pos M N C g;split at h
  ·rename_i id hp;split at h
   ·rename_i cs z;split at h
    ·rename_i b x hb U;obtain⟨y,V,h⟩:=Dh.1 h;have K:CN H (H.set id (.live false (M.lvs (ME M C y).2))):=CN.set z rfl λ_ _ _ _ _ h=>by cases h
     refine⟨_,_,?_,h,u7 (lQ C _),SD K G (M.lvs_ok _),K,Frame.set (by simp only[AGu,hp];exact Ax.2 rfl)⟩;rw[pU,YP,Lo];have I:id<(BH H).length:=by rw[Cf];exact Hg z
     have S:=ZQ U;have ar:=GL hb;have m:D0 (vs.map TV.enc) (WM pos (.ptr id 0 0) (cp N x)):=by refine ud ?_ (by rw[<-List.map_take,<-nP,<-Kp];exact S);rw[CO,hp];rfl
     have n:=hc b x y V ((BH H).set id (.live 0 (M.enc b).cells)) id (by rw[HU I]);rw[Yk]at n;have e1:(D9.live false (M.lvs (ME M C y).2)).enc= .live 0 (M.enc (ME M C y).2).cells:=by simp only[D9.enc,M.lvs_enc]
     rw[e1];refine E8.before m.1 (λX g0 w s=>?_) n;have al:BH H=(BH H).set id (.live 0 (lvs cs)):=by
      have:(BH H)[id]? =some (.live 0 (lvs cs)):=by rw[EV,z];rfl
      apply Jc;intro j;by_cases J:j=id
      ·subst J;rw[HU I,this]
      ·rw[Dl (λe=>J e.symm)]
     have ap:(cx X g0 (BH H) w).Later (cx X g0 ((BH H).set id (.live 0 (M.enc b).cells)) w):=by
      refine il (by simp) λj e p ax=>?_;by_cases J:j=id
      ·subst J;exact⟨.live 0 (lvs cs),by rw[EV,z];rfl,by simp⟩
      ·rw[Dl (λe=>J e.symm)]at p;exact⟨e,p,ax⟩
     refine⟨To.set_less I al rfl ar ap,λj v' p=>?_⟩;obtain⟨v,q1,q2⟩:=m.2 j v' p;exact⟨v,q1,λd rr=>q2 _ _ (rr.later ap)⟩
    ·cases h
   ·cases h
  ·cases h
 ·rename_i f te N C W g;split at h
  ·rename_i id F t0 n0 r0;split at h
   ·rename_i t l n' a0 z;split at h
    ·rename_i hb;have ao:=DQ hb;subst ao;split at h
     ·rename_i L;have o:=Ty.beq_eq _ _ L;injection o with o;subst o;split at h
      ·rename_i x U hp;obtain⟨y,V,h⟩:=Dh.1 h;have B:(Ty.cast L l:List t.D)=l:=rfl;rw[B]at V;have hn:n'=l.length:=G _ (BP z);have hr:Sp H id F t0 n0:=hv _ Gj (.own id F t0 n0) (by simp[TV.refs]);obtain⟨_,q⟩:=hr.2 _ _ _ _ _ z;obtain⟨rfl,rfl⟩:=q rfl;cases Z:Nat.beq (ME (.list t) C y).2.length n' with
       |false=>rw[Z]at h;cases h
       |true=>
        rw[Z]at h;have T:(ME (.list t) C y).2.length=n':=DQ Z;have K:CN H (H.set id (.buf false t (ME (.list t) C y).2 n' F)):=CN.set z rfl λ_ _ _ _ _ e=>by cases e;exact⟨_,_,_,_,rfl,.inr ⟨rfl,rfl⟩⟩
        refine⟨_,_,?_,h,u7 (lQ C _),SD K G T.symm,K,Frame.set (by simp[AGu,idT])⟩;rw[pU,YP,Lo];have S:=ZQ U;have ad:=zq hp;have m:D0 ((TV.c (.own id F t n')::r0).map TV.enc) (.sl id l.length t.sz 0 l.length::(cp N x++W)):=by
         rw[Bs,<-C4 N.length r0,Kp,ad];have e1:(TV.c (.own id F t n')).enc= .sl id l.length t.sz 0 l.length:=by rw[<-hn];rfl
         rw[e1];rw[<-tc];rw[<-tc (l:=cp N x++W)];exact(D0.refl _).append (S.append (D0.refl _))
        have n:=hc l x y V (by rw[T,hn]) (BH H) id (by rw[EV,z,<-hn];rfl);have e2:(D9.buf false t (ME (.list t) C y).2 n' F).enc= .live l.length (t.E.cl (ME (.list t) C y).2):=by rw[<-hn];rfl
        rw[e2];refine E8.before m.1 (λX g0 w s=>⟨⟨rfl,λj e' p=>?_⟩,λj v' p=>?_⟩) n
        ·cases e' with
         |dead=>exact .inl rfl
         |live g1 O=>exact .inr (.inl ⟨g1,O,O,p,rfl,rfl,λi v hi=>⟨v,hi,λ_ r=>r⟩⟩)
         |_=>exact .inr (.inr ⟨p,by simp⟩)
        ·obtain⟨v,q1,q2⟩:=m.2 j v' p;exact⟨v,q1,λd rr=>q2 _ _ rr⟩
      ·cases h
     ·cases h
    ·cases h
   ·cases h
  ·cases h
 ·rename_i f N C g;split at h
  ·rename_i x hg U;obtain⟨y,V,h⟩:=Dh.1 h;refine⟨_,H,?_,h,u7 (lQ C y),G,CN.refl H,Frame.refl _ _⟩;rw[pU,YP];have S:(cp N x).length=(vs.map TV.enc).length:=wh U;exact qU S (λX g0 w s j u p=>(ut G s hv U).2 j u p) (λa b=>ADO (pM hg y)) (hc x y V _)
  ·cases h
 ·rename_i f t;have same: ∀{args A:List Af} {Q:Af->Ay->Prop},D0 args A->E8 P f A (BH H) Q->E8 P f args (BH H) Q:=λm n=>by
   refine E8.before m.1 (λX g0 w s=>⟨⟨rfl,λj e' p=>?_⟩,λj v' p=>?_⟩) n
   ·cases e' with
    |dead=>exact .inl rfl
    |live g1 O=>exact .inr (.inl ⟨g1,O,O,p,rfl,rfl,λi v hi=>⟨v,hi,λ_ r=>r⟩⟩)
    |_=>exact .inr (.inr ⟨p,by simp⟩)
   ·obtain⟨v,q1,q2⟩:=m.2 j v' p;exact⟨v,q1,λd rr=>q2 _ _ rr⟩
  split at h
  ·rename_i te l;split at h
   ·rename_i L;have o:=Ty.beq_eq _ _ L;injection o with o;subst o;have B:(Ty.cast L l:List te.D)=l:=rfl;rw[B]at h;cases hz:decide (((l.length:Nat):Int)=0)with
    |true=>
     rw[hz]at h;have h0:l=[]:=by
      have:((l.length:Nat):Int)=0:=by simpa using hz
      exact Eu (by omega)
     subst h0;refine⟨TV.c (B0.ls te []),H++[D9.dead],?_,h,KF trivial,Qa G trivial,CN.push _ _,Frame.push _ _ _⟩;exact(hc [] H G).1 rfl
    |false=>
     rw[hz]at h;have h0:l≠ []:=by rintro rfl;simp at hz
     obtain⟨r,hr,h⟩:=Dh.1 h;have e:D9.ok (H++[.buf false te r r.length 0]) (.buf false te r r.length 0):=rfl;have q:=(hc l H G).2 r h0 hr;refine⟨TV.c (B0.own H.length 0 te r.length),H++[D9.buf false te r r.length 0],?_,h,vA,Qa G e,CN.push _ _,Frame.push _ _ _⟩;exact q
   ·cases h
  ·refine⟨TV.c (B0.ls t []),H++[D9.dead],?_,h,KF trivial,Qa G trivial,CN.push _ _,Frame.push _ _ _⟩;exact same (D0.one (XX.nil t.sz_pos)) ((hc [] H G).1 rfl)
  ·cases h
end
section
variable {P:Program}{N:Nat}{o:Oper}{env:Env}{H:Ay}{K:Af->Ay->Prop}
def uT{e:TypeId}{sz:Nat}{rows:Ψ Af}(n:o.op=.binOp .eql b d (.const (.slice ε 0 0)) I)(E:P.underlying b=D (.slice e))(F:BR env d=.vs sz rows)
  (C:∀t,(rows≠ []->t=η)->K (.bool t) H):Jy P N o env H K:=by
 apply DG (by rw[n];rfl);intro X h a w s Q;have l:=Dy s.env d;rw[F]at l;generalize i:a.eval d=cx0 at l;cases l with
 | @vs sz rows c cap f m D_ p z J=>
  have k:=run_underlying E w;have g:(execOp a.eval o).run P w=.ok (.value (.bool c.isNone)) w:=by
   unfold execOp;rw[n];have r:a.eval (.const (.slice ε 0 0))=.slice ε 0 0:=rfl;have u:(eqGuard .eql b d (.const (.slice ε 0 0)) (.slice c (θ rows) cap) (.slice ε 0 0)).run P w=.ok () w:=by unfold eqGuard;simp
   have v:(Op.equal b (.slice c (θ rows) cap) (.slice ε 0 0)).run P w=.ok c.isNone w:=by
    have y:∃x,Op.maxDepth=x+1:=⟨9999,rfl⟩
    obtain⟨x,A⟩:=y;unfold Op.equal;rw[A];cases c<;>simp[Op.equalIn,k]
   simp only[i,r,Sem.run_bind,u,Result.andThen_ok,binOp,v,Sem.run_pure]
  unfold Oper.wp;rw[g,Oper.upon_value];refine⟨_,_,h,H,rfl,C c.isNone (λj=>?_),.bool _,s.sim,HT.refl _ _ _⟩;obtain⟨B,G,q,_⟩:=z j;rw[q];rfl
theorem Jy.clear{t e:TypeId}{x:Operand}{id g l n sz:Nat}{O z:List Af}(ho:o.op= .call {callee:=.builtin .clear,args:= #[x],argTypes:= #[t]})(hd:o.dst=none)(he:eI P t=some (none,e,sz))(b1:Sy P e=true)(hz:Za P e=some z)(Z:z.length=sz)
  (hx:BR env x= .sl id g sz l n) (F:H[id]? =some (Fv.live g O)) (a6:l+n*sz<=O.length) (hk:K (.tup []) (H.set id (.live g (XS O l (List.replicate n z).flatten)))):Jy P N o env H K:=by
 refine DG (by rw[ho];rfl) ?_;intro X h a w s Q;obtain⟨b3,b,hi⟩:=RV he;obtain⟨i,zv,v,b6,bl,b4⟩:=Uv b1;have a4:=mS hi v;obtain⟨i',y,a2,a',a8⟩:=fT (cx X h H w) hz;have:i'=i:=by rw[v]at a2;exact(BL a2).symm
 subst this;have:y=zv:=by rw[bl]at a';exact(BL a').symm
 subst this;have A:y.cells.size=sz:=by rw[b4,a4]
 have rx:=Dy s.env x;rw[hx]at rx;have S:=run_underlying b3 w;have V:(List.replicate n z).flatten.length=n*sz:=by simp[Z]
 obtain⟨a0,ar⟩:=s.sim.live id g O F;have b2: ∃ad cap,a.eval x= .slice ad n cap/\(n≠0-> ∃B,h.io id=some B/\ad=some ⟨B,l,none⟩):=by
  generalize a.eval x=c at rx;cases rx with
  |sl h1 h2 h3 hc=>
   rcases hc a0 with⟨_,U,_,q4⟩|⟨B,cap,C,_,_,q4⟩
   ·exact⟨none,0,by rw[q4,U],λb0=>(b0 U).elim⟩
   ·exact⟨_,cap,q4,λ_=>⟨B,C,rfl⟩⟩
 obtain⟨ad,cap,ao,bm⟩:=b2;have a3:id<H.length:=by
  rcases A1 id H.length with h2|h2
  ·exact h2
  ·rw[Cz h2]at F;cases F
 by_cases hn:n=0
 ·subst hn;have G:(execOp a.eval o).run P w= .ok (.value (.tuple #[])) w:=by unfold execOp;rw[ho];simp only[resolve,invoke,builtin,Sem.run_bind,Sem.run_pure,Result.andThen_ok,RK,Bs,H5,ao,Builtin.clear_];simp[S];cases ad<;>simp
  unfold Oper.wp;rw[G,Oper.upon_value];have e1:H.set id (.live g (XS O l (List.replicate 0 z).flatten))=H:=by
   have:XS O l (List.replicate 0 z).flatten=O:=by simp[XS]
   rw[this];apply Jc;intro j;by_cases a5:j=id
   ·subst a5;rw[HU a3,F]
   ·rw[Dl λe=>a5 e.symm]
  rw[e1]at hk;exact⟨_,_,h,H,rfl,hk,.tup rfl λ_ _ _ h=>by (cases h),s.sim,HT.refl _ _ _⟩
 ·obtain⟨B,L,rfl⟩:=bm hn;rcases ar with⟨a7,_⟩|⟨B',al,T,fz,f,R,hb,ap,b5,ax,J⟩
  ·rw[show(cx X h H w).io id=h.io id from rfl,L]at a7;cases a7
  rw[show(cx X h H w).io id=h.io id from rfl,L]at R;injection R with e0;subst e0;have Y:(Builtin.zeroCells y.cells n).size=n*sz:=by rw[Zb,A]
  have I: ∀j,j<n*sz-> ∃d u,(Builtin.zeroCells y.cells n)[j]? =some d/\(List.replicate n z).flatten[j]? =some u/\d.oneCell'=true/\B3 (cx X h H w) u d:=by
   intro j r;have a9:0<sz:=by
    rcases WU sz with q|q
    ·subst q;simp at r
    ·exact q
   have hm:j%sz<y.cells.size:=by rw[A];exact Ym _ a9
   have E:y.cells[j%sz]? =some (y.cells[j%sz]'hm):=Oe hm;have a1: ∀(m j:Nat),j<m*sz->(List.replicate m z).flatten[j]? =z[j%sz]? :=by
    intro m;induction m with
    |zero=>intro j r;omega
    |succ m ih=>
     intro j r;rw[nR,qB];rcases A1 j sz with bG|bt
     ·rw[Cb (by omega),Ts bG]
     ·rw[Cu (by omega),Z,ih (j-sz) (by rw[Ec]at r;omega),<-Nat.mod_eq_sub_mod bt]
   have bb:z[j%sz]? =some (z[j%sz]'(by rw[Z];exact Ym _ a9)):=Au _;have W:(Builtin.zeroCells y.cells n)[j]? =some (y.cells[j%sz]'hm):=by
    unfold Builtin.zeroCells;rw[ck,Array.getElem?_range,if_pos (by rw[A];exact r)];have bN:j%y.cells.size<y.cells.size:=by rw[A];rw[A]at hm;exact hm
    rw[Bw,getElem!_pos y.cells _ bN];simp only[A]
   cases a8 with
   |agg C U q3=>exact⟨_,_,W,by rw[a1 n j r,bb],U _ _ E,q3 _ _ _ bb E⟩
  obtain⟨w',M,p1,p2,p3,p4,p5,p6,p7,p8,p9⟩:=Vq (P:=P) (off:=l) (Builtin.zeroCells y.cells n).toList 0 al w hb (by simp[Y];omega) ax (λd hd=>by
   obtain⟨j,r⟩:=Dk hd;have bz:j<n*sz:=by rw[<-Y];have:=(Gb.1 r).1;simpa using this
   obtain⟨d',u,C,_,q3,_⟩:=I j bz;rw[Qb]at r;rw[r]at C;injection C with C;rw[C];exact q3)
  have G:(execOp a.eval o).run P w= .ok (.value (.tuple #[])) w':=by
   unfold execOp;rw[ho];simp only[resolve,invoke,builtin,Sem.run_bind,Sem.run_pure,Result.andThen_ok,RK,Bs,H5,ao,Builtin.clear_];have b7: ∀(α:Type) (p q:α),(match n with|0=>p|_+1=>q)=q:=by
    intro α p q;cases n with
    |zero=>exact(hn rfl).elim
    |succ m=>rfl
   obtain⟨m,rfl⟩: ∃m,n=m+1:=⟨n-1,by omega⟩
   simp[S,zeroValue,typeInfo,v,bl];rw[p1];rfl
  have hh:Holds (cx X h H w) (XS O l (List.replicate n z).flatten) M fz:=by
   refine⟨λj=>if l<=j/\j<l+n*sz then(Builtin.zeroCells y.cells n).getD (j-l) undef else f j,by rw[lL (by rw[V];exact a6)];omega,by rw[p3];exact ax,λj u r=>?_⟩;rw[vN (by rw[V];exact a6),V]at r;rw[p4];simp only[No,EA,Y,Qb];split at r
   ·rename_i D_;rw[if_pos D_,if_pos D_];obtain⟨d,u',C,U,q3,q4⟩:=I (j-l) (by omega);rw[U]at r;injection r with r;subst r;have e:(Builtin.zeroCells y.cells n).getD (j-l) undef=d:=by rw[RR,C];rfl
    rw[e];exact⟨C,q3,q4⟩
   ·rename_i D_;rw[if_neg D_,if_neg D_];exact J j u r
  obtain⟨C,U⟩:=s.sim.upd (g':=g) (B:=B) (arr:=M) (T:=T) (fz:=fz) (w':=w') F (Ao _) (λ_=>⟨L,by rw[p3];exact ap.symm⟩) (.inl L) p2 (λk _ hk=>p5 k hk) p6 p7 p8 (by rw[p9];exact Ao _) hh;unfold Oper.wp;rw[G,Oper.upon_value];exact⟨_,_,_,_,rfl,hk,.tup rfl λ_ _ _ h=>by (cases h),C,U⟩
def si(k:o.op=.call {callee:=.builtin .clear,args:= #[d],argTypes:= #[b]})(m:P.underlying b=D (.slice I))
  (x:BR env d=.vs n []) (l:K (.tup []) H):Jy P N o env H K:=by
 apply DG (by rw[k];rfl);intro X h a w s Q;have j:=Dy s.env d;rw[x]at j;have e:=run_underlying m w;have i:∃f cap,a.eval d=.slice f 0 cap:=by
  generalize a.eval d=c at j;cases j with
  |vs=>exact⟨_,_,rfl⟩
 obtain⟨f,cap,g⟩:=i;have t:(execOp a.eval o).run P w=.ok (.value (.tuple #[])) w:=by unfold execOp;rw[k];simp only[resolve,invoke,builtin,Sem.run_bind,Sem.run_pure,Result.andThen_ok,RK,Bs,H5,g,Builtin.clear_];simp[e];cases f<;>simp
 unfold Oper.wp;rw[t,Oper.upon_value];exact⟨_,_,h,H,rfl,l,.tup rfl λ_ _ _ h=>by (cases h),s.sim,HT.refl _ _ _⟩
end
def XY(P:Program)(N:Nat)(ops:Array Oper):E Oper->Env->Ay->(Env->Ay->Prop)->Prop
 |[],env,H,Q=>∃env1 H1,Fp N (θ H) env H env1 H1/\Q env1 H1
 |o::rest,env,H,Q=>∃env1 H1,Fp N (θ H) env H env1 H1/\
  Yd ops o.guard env1 (Jy P N o env1 H1 λv H'=>XY P N ops rest (env1.putO o.dst v) H' Q) (XY P N ops rest (env1.putO o.dst (.tup [])) H1 Q)
def XY.weak{N}{Q:Env->Ay->Prop}{env1}{H e:Ay}(w:Fp N (θ H) A H env1 e):∀{os},XY P N Z os env1 e Q->XY P N Z os A H Q
 |[],h=>by obtain⟨c,b,d,q⟩:=h;exact⟨c,b,w.trans (d.of_le w.1),q⟩
 |o::os,h=>by obtain⟨c,b,d,q⟩:=h;exact⟨c,b,w.trans (d.of_le w.1),q⟩
theorem uU{X:Exit→Act→World→Prop}{Q:Env→Ay→Prop}:
  ∀(l:Ψ Nat)(os:Ψ Oper),l.map (Z[·]?)=os.map D->∀env H h a w,Pv N os=ζ->XY P N Z os env H Q->St C h N env H a w->(∀f n y u q,Q f n->St C y N f n u q->HT h H w y n q->u.defers=a.defers->X .normal u q)->wpOpsIn (FR Y) 0 P Z X l a w:=by
 intro l;induction l with
 |nil=>
  intro os d env H h a w _ hr s z;have:os=[]:=t!
  subst this;obtain⟨env1,A,b,hr⟩:=hr;obtain⟨x,e,E,d⟩:=b.2 C h a w s;exact z env1 A x a w hr e (Fp.ext rfl b.1 E d (HT.refl h H w)) rfl
 |cons i l M=>
  intro os d env H h a w U hr s z;match os,d with
  |o::os,d=>
   simp at d;obtain⟨R,m⟩:=d;simp only[wpOpsIn,R];have g:∀t,o.dst=D t->t<a.tmps.size:=by intro t j;simp only[Pv]at U;rw[s.size];grind
   have p:Pv N os=ζ:=by simp_all[Pv]
   obtain⟨env1,A,b,hr⟩:=hr;obtain⟨x,e,E,d⟩:=b.2 C h a w s;have O:=Fp.ext rfl b.1 E d (HT.refl h H w);rcases zL e.env hr with⟨K,S⟩|⟨K,T⟩;rw[C! K];refine Oper.wpIn_mono ?_ (S Y C x a w e X);rintro u q ⟨c,v,y,n,rfl,k,r,W,L⟩;have V:=L.later C;apply M os m _ n y _ q p k ⟨W,PY.putO (e.env.later V) g r,(fM _ _ _).trans e.size⟩;intro env2 B m a2 I F G J D_;exact z env2 B m a2 I F G (O.trans (L.trans J)) (D_.trans (by cases o.dst<;>rfl));rw[D! q!];refine⟨λ_ _=>P!,M os m _ A x _ w p T ⟨e.sim,PY.putO e.env g (.tup rfl λ_ _ _ h=>by cases h),(fM _ _ _).trans e.size⟩ ?_⟩;intro env2 B m a2 I F G J D_;exact z env2 B m a2 I F G (O.trans J) (D_.trans (by cases o.dst<;>rfl))
theorem GK{N}{H}{id:Nat}{b:Array Oper}(i:Pv N b.toList=ζ)(h:XY P N b b.toList A H (Q .normal)):KC P N (.region id b η) A H Q:=by intro r X g a w s _;refine wpIn_region (uU (List.range b.size) b.toList ?_ A H g a w i h s ?_);apply Jc;grind;intro c d f l m q j k e;exact⟨f,c,d,q,j,k,.same e⟩
open Go.MapKept (IsKey)
def PP{α:Type}(n:Int)(v:α):E (Int×α)->E (Int×α)
 |[]=>[(n,v)]
 |p::r=>bif p.1==n then(n,v)::r else p::PP n v r
def LR{α:Type}(n:Int):E (Int×α)->Ω α
 |[]=>ε
 |p::r=>bif p.1==n then D p.2 else LR n r
def zf{a c:Type}(f:a->c)(n:Int)(v:a):∀b:E (Int×a),(PP n v b).map (λp=>(p.1,f p.2))=PP n (f v) (b.map λp=>(p.1,f p.2))
 |[]=>rfl
 |p::r=>by simp only[PP,Bs];cases p.1==n<;>simp[zf f n v r]
def uz{b c:Type}(f:b->c)(n:Int):∀a:E (Int×b),LR n (a.map λp=>(p.1,f p.2))=(LR n a).map f
 |[]=>rfl
 |p::r=>by simp only[LR,Bs];cases p.1==n<;>simp[uz f n r]
section
variable {X:Nat->Prop}{h:Gh}{H:Ay}{w:World}
def I6.of_extM{a:Gh}(c:I6 X h H w)(k:HT h H w a q s)
  (key:∀(id:Nat)(e:Fv),q[id]?=D e->e≠.dead->(H[id]?=D e/\a.gen id=h.gen id/\a.io id=h.io id/\a.cap id=h.cap id/\∀B,h.io id=D B->s.heap[B]?=w.heap[B]?)\/(e.isB=ζ/\BAt a s id e))
  (inj:∀(id b:Nat)(e g:Fv)(B:Nat),q[id]?=D e->q[b]?=D g->e≠.dead->g≠.dead->a.io id=D B->a.io b=D B->id=b):I6 X a q s:=
 c.of_ext' k (λi e j f=>(key i e j f).imp id λh=>.inr (.inr h)) inj
theorem I6.push_m(s:I6 X h H w)(o:Obj)(cap:Nat)(E:Fv)(u:E.isB=ζ)
  (t:BAt (h.at_ (θ H) (D w.heap.size) 0 cap) {w with heap:=w.heap.push o} (θ H) E):
  I6 X (h.at_ (θ H) (D w.heap.size) 0 cap) (H++[E]) {w with heap:=w.heap.push o}:=by
 refine s.of_extM (HT.push o cap E) (λid e d g=>?_) λid q e r B m n b c k l=>?_;rcases JZ d with⟨a,d⟩|⟨rfl,rfl⟩;refine .inl ⟨d,by simp[Gh.at_,Bq a],by simp[Gh.at_,Bq a],by simp[Gh.at_,Bq a],λB f=>?_⟩;have:=s.io_at d g f;grind;grind;rcases JZ m with⟨l1,i⟩|⟨rfl,_⟩<;>rcases JZ n with⟨l2,j⟩|⟨rfl,_⟩;exact s.inj _ _ _ _ B i j b c (by simpa[Gh.at_,Bq l1]using k) (by simpa[Gh.at_,Bq l2]using l);have p:=s.io_at i b (by simpa[Gh.at_,Bq l1]using k);grind[Gh.at_];have p:=s.io_at j c (by simpa[Gh.at_,Bq l2]using l);grind[Gh.at_];rfl
def I6.setM(s:I6 X h H w){E E':Fv}{o o':Obj}{w':World}(g:H[N]?=D E)(J:E.isB=ζ)(v:E'.isB=ζ)(m:h.io N=D n)(K:w.heap[n]?=D o)(A:∀r,o≠.loop r)
  (G:w'.heap=w.heap.setIfInBounds n o') (C:w'.os=w.os) (B:w'.tape=w.tape) (M:w'.output=w.output) (x:BAt h w' N E'):
  I6 X h (H.set N E') w'/\HT h H w h (H.set N E') w':=by
 have d:N<θ H:=by rcases A1 N (θ H)with f|f;exact f;rw[Cz f]at g;cases g
 have b:E≠.dead:=by rintro rfl;cases J
 have O:∀k,k≠n->w'.heap[k]?=w.heap[k]? :=λk h=>by rw[G];simp[Lk h]
 have own:∀k,owned h (H.set N E') k->owned h H k:=by rintro k ⟨i,e,j,c,f⟩;rcases Jx d j with⟨y,a⟩|⟨rfl,_⟩;exact⟨i,e,a,c,f⟩;exact⟨i,E,g,b,f⟩
 have I:HT h H w h (H.set N E') w':=by refine⟨C,B,M,by rw[G];simp,λk _ hn=>O k λe=>hn ⟨N,E,g,b,by rw[e];exact m⟩,k!,λ_ _=>Ao _,λ_ _ _=>⟨rfl,rfl⟩,λk O=>.inl (own k O),λk r hr=>⟨r,?_⟩⟩;refine(O k λe=>?_).trans hr;subst e;rw[K]at hr;injection hr with hr;exact A r hr
 refine⟨s.of_extM I (λi e j c=>?_) (λi D_ e F k j f p q t u=>?_),I⟩;rcases Jx d j with⟨y,a⟩|⟨rfl,rfl⟩;refine .inl ⟨a,rfl,rfl,rfl,λk z=>O k λe=>?_⟩;subst e;exact y (s.inj i N _ _ k a g c b z m);exact .inr ⟨v,x⟩;rcases Jx d j with⟨y,a⟩|⟨rfl,rfl⟩<;>rcases Jx d f with⟨L,l⟩|⟨rfl,rfl⟩;exact s.inj i D_ e F k a l p q t u;exact s.inj i D_ e E k a g p b t u;exact s.inj i D_ E F k g l b q t u;rfl
end
def nt{k:IntKind}{n:Int}:∀(l:E MapEntry)(a:E (Int×Af))i,θ l=θ a→(∀(j:Nat)(p:Int×Af),a[j]?=D p→ ∃e:MapEntry,l[j]?=D e∧e.key=.int k p.1)→
  (Instr.findNow (.int k) (.int k n) l i=D ε/\LR n a=ε/\∀v,PP n v a=a++[(n,v)])\/∃j e p,Instr.findNow (.int k) (.int k n) l i=D (D (i+j,e.val))/\l[j]?=D e/\a[j]?=D p/\e.key=.int k n/\LR n a=D p.2/\∀v,PP n v a=a.set j (n,v)
 |[],[],_,_,_=>.inl ⟨rfl,rfl,λ_=>rfl⟩
 |[],_::_,_,hl,_=>by simp at hl
 |_::_,[],_,hl,_=>by simp at hl
 |e::l,p::a,i,hl,h=>by
  obtain⟨z,o,r⟩:=h 0 p rfl;simp only[cY,Av]at o;subst o;have m:Instr.sameNow (.int k) (.int k n) e.key=D (n==p.1):=by rw[r];simp[Instr.sameNow]
  by_cases hn:p.1=n;refine .inr ⟨0,e,p,?_,rfl,rfl,by rw[r,hn],?_,λv=>?_⟩;simp[Instr.findNow,m,hn];simp[LR,hn];simp[PP,hn];have c:(n==p.1)=η:=by simp;exact λe=>hn e.symm
  have b:(p.1==n)=η:=by simpa using hn
  rcases nt (k:=k) (n:=n) l a (i+1) (by simpa using hl) (λj q x=>by simpa using h (j+1) q (by simpa using x))with⟨d,f,g⟩|⟨j,s,y,d,f,g,t,u,w⟩;exact .inl ⟨by simp[Instr.findNow,m,c,d],by simp[LR,b,f],λv=>by simp[PP,b,g]⟩;exact .inr ⟨j+1,s,y,by simp[Instr.findNow,m,c,d];omega,by simpa using f,by simpa using g,t,by simp[LR,b,u],λv=>by simp[PP,b,w]⟩
section
variable {P:Program}{N:Nat}{o:Oper}{env:Env}{H:Ay}{K:Af->Ay->Prop}
def Jy.makeMap(k:IntKind)(c:o.op=.makeMap b ε)(e:K (.mp (θ H)) (H++[.mp k []])):Jy P N o env H K:=by
 apply DG (by rw[c];rfl);intro X h a w s Q;have t:(execOp a.eval o).run P w=.ok (.value (.map (D w.heap.size))) {w with heap:=w.heap.push (.map #[] 0)}:=by unfold execOp;rw[c];rfl
 unfold Oper.wp;rw[t,Oper.upon_value];refine⟨_,_,_,_,rfl,e,?_,s.sim.push_m (.map #[] 0) 0 (.mp k []) rfl ⟨w.heap.size, #[],by simp[Gh.at_],by simp[Gh.at_],k!,rfl,λj p d=>by simp at d⟩,HT.push _ _ _⟩;exact .mp (by simp[cx]) rfl λ_=>⟨w.heap.size,by simp[cx,Gh.at_],rfl⟩
def AFF(k:St C h N env H a s)(u:BR env d=.mp n)(r:H[n]?=δ (.mp B V)):
  ∃(X:Nat)(b:Array MapEntry),a.eval d=.map (δ X)/\h.io n=δ X/\h.gen n=0/\s.heap[X]?=δ (.map b b.size)/\b.size=θ V/\∀(j:Nat)(p:Int×Af),V[j]?=δ p->∃e:MapEntry,b[j]?=δ e/\e.born=j/\e.key=.int B p.1/\∀d,B3 d p.2 e.val:=by
 have g:=Dy k.env d;rw[u]at g;obtain⟨X,b,i,l,m,x,o⟩:=k.sim.bld n _ r rfl;generalize a.eval d=c at g;cases g with
 |mp t y q=>obtain⟨v,w,rfl⟩:=q l;rw[show(cx C h H s).io n=h.io n from rfl,i]at w;injection w with w;subst w;exact⟨X,b,rfl,i,l,m,x,o⟩
def AEz(x:St X h N env H a s)(w:BR env d=.int B i):a.eval d=.int B i:=by have b:=Dy x.env d;rw[w]at b;generalize a.eval d=c at b;cases b;rfl
theorem Jy.mapUpdate{et:TypeId}{C:Operand}{id:Nat}{k:IntKind}{es:Ψ (Int×Af)}{n:Int}{v:Af}(U:o.op=.mapUpdate b d T C)(hm:BR env d=.mp id)(J:BR env T=.int k n)
  (hp:∀x c,B3 x (BR env C) c->∀y,B3 y v c) (V:P.underlying b=D (.map I et)) (l:P.underlying I=D (.int k)) (G:H[id]?=D (.mp k es)) (m:K .any (H.set id (.mp k (PP n v es)))):Jy P N o env H K:=by
 apply DG (by rw[U];rfl);intro X h a w s Q;obtain⟨B,W,Y,D_,Z,u,q5,q6⟩:=AFF s hm G;have qk:=AEz s J;have rv:=hp _ _ (Dy s.env C);generalize z:a.eval C=c at rv;have al:id<θ H:=q!
 have f:IsKey (.int k) (.int k n):=rfl;have q:B<w.heap.size:=(cZ.1 u).1;have A:execOp a.eval o=(do Instr.mapUpdate b (a.eval d) (a.eval T) (a.eval C);pure .skip):=by unfold execOp;rw[U]
 rcases nt (n:=n) (k:=k) W.toList es 0 q! (λj p L=>by obtain⟨e,e1,_,E,_⟩:=q6 j p L;exact⟨e,q!,E⟩)with⟨F,R,S⟩|⟨j,e0,p0,F,R,S,h4,h5,h6⟩;have g:(execOp a.eval o).run P w=.ok .skip {w with heap:=w.heap.setIfInBounds B (.map (W.push {key:=.int k n,val:=c,born:=W.size}) (W.size+1))}:=by rw[A,Y,qk,z];simp[Instr.mapUpdate,run_underlying V,MapKept.run_getObj_map u,MapKept.run_checkKey l f,MapKept.run_findKey l F,MapKept.run_setObj_map _ u]
 unfold Oper.wp;rw[g,Oper.upon_skip];obtain⟨M,O⟩:=s.sim.setM (E':=.mp k (PP n v es)) (o':=.map (W.push {key:=.int k n,val:=c,born:=W.size}) (W.size+1))
  (w':={w with heap:=w.heap.setIfInBounds B (.map (W.push {key:=.int k n,val:=c,born:=W.size}) (W.size+1))}) G rfl rfl D_ u (λr e=>by cases e) rfl rfl rfl rfl (by refine⟨B,W.push {key:=.int k n,val:=c,born:=W.size},D_,Z,by simp[q],q!,λj p L=>?_⟩;rw[S]at L;rcases RP j (θ es)with ar|rfl|ad;grind;rw[Cu (Ao _),HG]at L;simp only[cY,Av]at L;subst L;exact⟨{key:=.int k n,val:=c,born:=W.size},q!,q5,rfl,rv⟩;rw[Cz w!]at L;cases L)
 exact⟨_,_,_,_,rfl,m,.any _,M,O⟩;have L:W[j]?=D e0:=by simpa using R
 have ap:j<W.size:=(cZ.1 L).1;have g:(execOp a.eval o).run P w=.ok .skip {w with heap:=w.heap.setIfInBounds B (.map (W.modify j λe=>{e with key:=.int k n,val:=c}) W.size)}:=by rw[A,Y,qk,z];simp[Instr.mapUpdate,run_underlying V,MapKept.run_getObj_map u,MapKept.run_checkKey l f,MapKept.run_findKey l F,L,h4,MapKept.run_keyThatStays f,MapKept.run_setObj_map _ u]
 unfold Oper.wp;rw[g,Oper.upon_skip];obtain⟨M,O⟩:=s.sim.setM (E':=.mp k (PP n v es)) (o':=.map (W.modify j λe=>{e with key:=.int k n,val:=c}) W.size)
  (w':={w with heap:=w.heap.setIfInBounds B (.map (W.modify j λe=>{e with key:=.int k n,val:=c}) W.size)}) G rfl rfl D_ u (λr e=>by cases e) rfl rfl rfl rfl (by refine⟨B,W.modify j λe=>{e with key:=.int k n,val:=c},D_,Z,by simp[q],q!,λi p t=>?_⟩;rw[h6,R2]at t;split at t;grind;rename_i ao;obtain⟨e,e1,E⟩:=q6 i p t;exact⟨e,q!,E⟩)
 exact⟨_,_,_,_,rfl,m,.any _,M,O⟩
def ACf(P:Program)(t:TypeId):Ω Af:=
 match (P.info? t).bind (·.zero)with
 |some (.agg cs)=>if cs.toList.all (·.oneCell')then D (.agg (cs.toList.map rZ))else ε
 |some (.bool b)=>D (.bool b)
 |_=>ε
theorem ADr(h:ACf P b=D v)(w:World):∃t,(zeroValue b).run P w=.ok t w/\∀x,B3 x v t:=by unfold ACf at h;split at h;rename_i d a;split at h;rename_i e;obtain⟨i,c,a⟩:=Dh.1 a;refine⟨.agg d,by simp[zeroValue,typeInfo,c,a],λx=>?_⟩;have:=y8 x (.agg d);grind[AC6];cases h;rename_i z a;obtain⟨i,c,a⟩:=Dh.1 a;injection h with h;subst h;exact⟨.bool z,by simp[zeroValue,typeInfo,c,a],λx=>.bool z⟩;cases h
theorem Jy.lookup{O:TypeId}{id:Nat}{k:IntKind}{es:Ψ (Int×Af)}{n:Int}{z:Af}{g:Bool}(m:o.op=.lookup b d T g)(hm:BR env d=.mp id)(G:BR env T=.int k n)
  (U:P.underlying b=D (.map I O)) (f:P.underlying I=D (.int k)) (hz:ACf P O=D z) (he:H[id]?=D (.mp k es))
  (hk:K (bif g then .tup [(LR n es).getD z,.bool (LR n es).isSome]else(LR n es).getD z) H):Jy P N o env H K:=by
 apply DG (by rw[m];cases g<;>rfl);intro X h a w s Q;obtain⟨B,q,Y,q2,q3,Z,q5,q6⟩:=AFF s hm he;have qk:=AEz s G;have i:IsKey (.int k) (.int k n):=rfl;have y:execOp a.eval o=(do pure (.value (<-Instr.lookup b (a.eval d) (a.eval T) g))):=by unfold execOp;rw[m]
 have x:∀(c:Value)v V,(execOp a.eval o).run P w=.ok (.value (bif g then .tuple #[c,.bool V]else c)) w→B3 (cx X h H w) v c→K (bif g then .tup [v,.bool V]else v) H→
   Oper.wp P o a w (λa' L=>∃c v E C,a'=a.put o.dst c/\K v C/\B3 (cx X E C L) v c/\I6 X E C L/\HT h H w E C L) Q:=by
  intro c v V A t hK;unfold Oper.wp;rw[A,Oper.upon_value];refine⟨_,_,h,H,rfl,hK,?_,s.sim,HT.refl _ _ _⟩;cases g;exact t;refine .tup k! λj u J l S=>?_;rcases j with _|_|j;grind;simp at l S;subst l S;exact .bool V;grind
 rcases nt (n:=n) (k:=k) q.toList es 0 q! (λj p l=>by obtain⟨e,r,_,D_,_⟩:=q6 j p l;exact⟨e,q!,D_⟩)with⟨F,h2,R⟩|⟨j,M,W,F,h2,R,h4,h5,h6⟩;obtain⟨v,t,hr⟩:=ADr hz w;refine x v z η ?_ (hr _) q!;rw[y,Y,qk];cases g<;>simp[Instr.lookup,run_underlying U,MapKept.run_getObj_map Z,MapKept.run_checkKey f i,MapKept.run_findKey f F,t];obtain⟨e',r,_,_,D_⟩:=q6 j W R;have l:q[j]?=D M:=q!
 rw[l]at r;injection r with r;subst r;refine x M.val W.2 ζ ?_ (D_ _) q!;rw[y,Y,qk];cases g<;>simp[Instr.lookup,run_underlying U,MapKept.run_getObj_map Z,MapKept.run_checkKey f i,MapKept.run_findKey f F]
theorem Jy.range{f:TypeId}{id:Nat}{k:IntKind}{es:E (Int×Af)}(n:o.op=.range b d)(j:BR env d=.mp id)(l:P.underlying b=D (.map I f))(g:H[id]?=D (.mp k es))
  (i:K (.itp (θ H) id) (H++[.it (θ es) []])):Jy P N o env H K:=by
 apply DG (by rw[n];rfl);intro X h a w s Q;obtain⟨B,e,p,q,v,r,u,x⟩:=AFF s j g;have c:id<θ H:=q!
 have t:(execOp a.eval o).run P w=.ok (.value (.pointer (D ⟨w.heap.size,0,ε⟩))) {w with heap:=w.heap.push (.mapIter (D B) (θ es) #[] (θ es))}:=by unfold execOp;rw[n];simp only[p];simp[Instr.range,run_underlying l,MapKept.run_getObj_map r,newObj,u];rfl
 unfold Oper.wp;rw[t,Oper.upon_value];refine⟨_,_,_,_,rfl,i,?_,s.sim.push_m (.mapIter (D B) (θ es) #[] (θ es)) B (.it (θ es) []) rfl ⟨w.heap.size,by simp[Gh.at_],by simp[Gh.at_],by simp[Gh.at_]⟩,HT.push _ _ _⟩;exact .itp (by simp[cx]) (by simp[cx];omega) rfl λ_=>⟨w.heap.size,by simp[cx,Gh.at_],rfl,λ_=>by simp[cx,Gh.at_,Bq c,q]⟩
def AIC{id m:Nat}{seen:List Nat}(k:St C h N env H a s)(F:BR env d=.itp id m)(D_:H[id]?=δ (.it n seen))(x:H[m]?=δ (.mp B V)):
  ∃(X f:Nat)(b:Array MapEntry),a.eval d=.pointer (δ ⟨X,0,ε⟩)/\h.io id=δ X/\h.gen id=0/\s.heap[X]?=δ (.mapIter (δ f) n seen.toArray n)/\h.cap id=f/\s.heap[f]?=δ (.map b b.size)/\b.size=θ V/\∀(j:Nat)(p:Int×Af),V[j]?=δ p->∃e:MapEntry,b[j]?=δ e/\e.born=j/\e.key=.int B p.1/\∀d,B3 d p.2 e.val:=by
 have l:=Dy k.env d;rw[F]at l;obtain⟨X,o,q,r⟩:=k.sim.bld id _ D_ rfl;obtain⟨f,b,t,u,v,y,z⟩:=k.sim.bld m _ x rfl;generalize a.eval d=c at l;cases l with
 |itp E J I A=>obtain⟨G,g,rfl,w⟩:=A q;rw[show(cx C h H s).io id=h.io id from rfl,o]at g;injection g with g;subst g;have w:=w u;rw[show(cx C h H s).io m=h.io m from rfl,t]at w;injection w with w;have w:f=h.cap id:=w;subst w;exact⟨X,_,b,rfl,o,q,r,rfl,v,y,z⟩
theorem Jy.next{x:Operand}{id m:Nat}{k:IntKind}{es:List (Int×Af)}{seen:List Nat}(ho:o.op= .next x false)(hx:BR env x= .itp id m)(f:H[id]? =some (.it es.length seen))(he:H[m]? =some (.mp k es))
  (z:(∀j,j<es.length->j∈seen)->K (.tup [.bool false]) H)
  (C: ∀(j:Nat) (p:Int×Af),es[j]? =some p->j∉seen->K (.tup [.bool true,.int k p.1,p.2]) (H.set id (.it es.length (seen++[j])))):Jy P N o env H K:=by
 apply DG (by rw[ho];rfl);intro X h a w s Q;obtain⟨B,v,c,q1,q2,q3,q4,qc,q5,q6,q7⟩:=AIC s hx f he;have ap:execOp a.eval o=(do pure (.value (<-Instr.next (a.eval x) false o.type))):=by unfold execOp;rw[ho]
 have y: ∀(j:Nat) (e:MapEntry),c[j]? =some e->e.born=j/\j<es.length:=by
  intro j e q;have I:j<es.length:=by grind[Array.getElem?_eq_some_iff]
  obtain⟨e',E,T,_⟩:=q7 j _ (Au I);rw[q]at E;injection E with E;subst E;exact⟨T,I⟩
 have t: ∀e∈c.toList,e.born<es.length:=λe A=>by grind[List.getElem?_of_mem]
 have M:w.heap[B]? =some (.mapIter (some v) es.length seen.toArray es.length):=q4;generalize V:Array.filter (λe:MapEntry=>!seen.toArray.contains e.born) c=L;have G: ∀e∈L.toList,e∈c.toList/\e.born∉seen:=λe A=>by rw[<-V]at A;simpa using A
 have E:L.filter (λx=>decide (x.born<es.length))=L:=Array.filter_eq_self.2 (λx hx=>by simpa using t x (G x (by simpa using hx)).1);have T:L.filter (λx=>decide (x.born>=es.length))= #[]:=by grind[Array.filter_eq_empty_iff]
 have D_:(Instr.next (.pointer (some ⟨B,0,none⟩)) false o.type).run P w=((do
   let b:=(if L.isEmpty then #[none]else #[])++L.map some;match b[<-choose (.mapNext b.size)]? with
   |some (some e)=>
    setObj B (.mapIter (some v) es.length (seen.toArray.push e.born) c.size)
    pure (.tuple #[.bool true,e.key,e.val])
   |some none=>pure (.tuple #[.bool false])
   |none=>stuck "Next: no such candidate"):Sem Value).run P w:=by
  simp only[Instr.next,getObj,Sem.run_bind,Sem.run,M,q5,Result.andThen,next_test_false seen.toArray c es.length es.length t (Ao _),Qd,if_false,V,E,T,Array.append_empty];rfl
 by_cases h0:L.size=0;have W:L= #[]:=tV h0;subst W;have g:(execOp a.eval o).run P w= .ok (.value (.tuple #[.bool false])) w:=by simp_all[Sem.run_bind,Sem.run,Question.forced]
 unfold Oper.wp;rw[g,Oper.upon_value];refine⟨_,_,h,H,rfl,z λj q=>?_,.tup k! λi u d f n=>?_,s.sim,HT.refl _ _ _⟩;obtain⟨e,O,R,_⟩:=q7 j _ (Au q);rcases Classical.em (j∈seen)with U|U;exact U;have:e∈(Array.filter (λe:MapEntry=>!seen.toArray.contains e.born) c).toList:=by have A:e∈c:=wA O;simp[A,R,U]
 rw[V]at this;simp at this;rcases i with _|i;simp at f n;subst f n;exact .bool false;simp at f;have ax:L.isEmpty=false:=by simp[Array.isEmpty,h0]
 obtain⟨i,l,ar,Y,Z,ad,al,ao⟩: ∃(i:Nat) (l:World),i<L.size/\l.heap=w.heap/\l.os=w.os/\l.output=w.output/\l.tape=w.tape/\(choose (Question.mapNext L.size)).run P w= .ok i l:=by by_cases hf:L.size<=1;exact⟨0,w,o!,rfl,rfl,rfl,rfl,by simp[choose,Sem.run,Question.forced,hf]⟩;exact⟨_,w.drew,Ym _ o!,rfl,rfl,rfl,rfl,by simp only[choose,Sem.run,Question.forced,decide_eq_true_eq,hf,if_false,Question.cut];rfl⟩
 have A:L[i]∈L.toList:=k!
 obtain⟨m1,m2⟩:=G _ A;obtain⟨j,q⟩:=Dk m1;have q:c[j]? =some L[i]:=by simpa using q
 obtain⟨O,R⟩:=y j _ q;obtain⟨e,S,c2,c3,c4⟩:=q7 j _ (Au R);rw[q]at S;injection S with S;subst S;have F:B<w.heap.size:=(cZ.1 q4).1;have g:(execOp a.eval o).run P w= .ok (.value (.tuple #[.bool true,.int k es[j].1,L[i].val])) {l with heap:=w.heap.setIfInBounds B (.mapIter (some v) es.length (seen++[j]).toArray es.length)}:=by
  rw[ap,q1,Sem.run_bind,D_];simp only[ax,Qd,if_false,Array.empty_append,Array.size_map,Sem.run_bind,ao,Result.andThen_ok,ck,Oe ar,Bw];have J:(setObj B (.mapIter (some v) es.length (seen.toArray.push L[i].born) c.size)).run P l= .ok () {l with heap:=w.heap.setIfInBounds B (.mapIter (some v) es.length (seen++[j]).toArray es.length)}:=by simp[setObj,Sem.run,Y,M,O,q6]
  simp only[J,Result.andThen_ok,Sem.run_pure,c3]
 unfold Oper.wp;rw[g,Oper.upon_value];obtain⟨s1,s2⟩:=s.sim.setM (E':=.it es.length (seen++[j])) (o':=.mapIter (some v) es.length (seen++[j]).toArray es.length) (w':={l with heap:=w.heap.setIfInBounds B (.mapIter (some v) es.length (seen++[j]).toArray es.length)}) f rfl rfl q2 q4 (λr e=>by cases e) rfl Z al ad
  ⟨B,q2,q3,by simp[F,qc]⟩
 refine⟨_,_,_,_,rfl,C j _ (Au R) (by rw[<-O];exact m2),.tup k! λi u d f n=>?_,s1,s2⟩;rcases i with _|_|_|i;simp at f n;subst f n;exact .bool true;simp at f n;subst f n;exact .int _ _;simp at f n;subst f n;exact c4 _;simp at f
theorem Jy.entry{x:Operand}{id m j:Nat}{k:IntKind}{es:Ψ (Int×Af)}{seen:Ψ Nat}{p:Int×Af}(l:o.op=.entry x)(C:BR env x=.itp id m)(f:H[id]?=D (.it (θ es) (seen++[j])))(t:H[m]?=D (.mp k es))
  (y:es[j]?=D p) (z:K (.tup [.int k p.1,p.2]) H):Jy P N o env H K:=by
 apply DG (by rw[l];rfl);intro X h a w s Q;obtain⟨B,I,b,D_,S,T,E,U,F,G,n⟩:=AIC s C f t;obtain⟨e,J,q,r,L⟩:=n j p y;have v:b.find? (·.born==j)=D e:=by
  rw[<-Array.find?_toList,<-q];refine find_born e b.toList ?_ q!;have R:b.toList.map (·.born)=List.range b.size:=by refine Jc λi=>?_;rw[CO,Qb];rcases A1 i b.size with A|A;obtain⟨e,M,O,_⟩:=n i _ (Au (by omega:i<θ es));grind;grind
  grind
 have c:(execOp a.eval o).run P w=.ok (.value (.tuple #[.int k p.1,e.val])) w:=by unfold execOp;rw[l];simp only[D_];simp[Instr.entry,getObj,Sem.run,E,F,G,v,r]
 unfold Oper.wp;rw[c,Oper.upon_value];refine⟨_,_,h,H,rfl,z,.tup k! λi u d f g=>?_,s.sim,HT.refl _ _ _⟩;rcases i with _|_|i;simp at f g;subst f g;exact .int _ _;grind;grind
end
mutual
def Ty.flat:Ty->Bool
 |.list _=>η
 |.arr _ t=>t.flat
 |.prod ts=>ts.flat
 |_=>ζ
def Sz.flat:Sz->Bool
 |.one t=>t.flat
 |.cons t ts=>t.flat&&ts.flat
end
def Plain(v:Af):Prop:=∀x c,B3 x v c->∀y,B3 y v c
theorem Plain.agg{a:E Af}(h:∀v∈a,Plain v):Plain (.agg a):=λx c r y=>by
 cases r with
 |agg e f i=>exact .agg e f λj v d b g=>h v (BP b) x d (i j v d b g) y
mutual
theorem Ty.plain_cells:∀(t:Ty),t.flat=ζ->∀x:t.D,∀v∈(t.enc x).cells,Plain v
 |.bool,_,b,v,d=>by simp only[Ty.enc,Af.cells,Ax]at d;subst d;exact λ_ c r y=>by cases r;exact .bool _
 |.int k,_,n,v,d=>by simp only[Ty.enc,Af.cells,Ax]at d;subst d;exact λ_ c r y=>by cases r;exact .int _ _
 |.str,_,s,v,d=>by
  simp only[Ty.enc,Af.cells,Ax]at d;subst d;exact λ_ c r y=>by
   cases r with
   |str t e=>exact .str t e
 |.list t,h,_,_,_=>by cases h
 |.arr n t,h,a,v,d=>by simp only[Ty.enc,Af.cells,En]at d;obtain⟨i,_,d⟩:=d;exact t.plain_cells h _ v d
 |.prod ts,h,x,v,d=>ts.plain_cells h x v d
theorem Sz.plain_cells:∀(b:Sz),b.flat=ζ->∀x:b.D,∀v∈b.cells x,Plain v
 |.one t,h,x,v,a=>t.plain_cells h x v a
 |.cons t b,h,x,v,a=>by simp only[Sz.flat,BQ]at h;simp only[Sz.cells,Ah]at a;rcases a with a|a;exact t.plain_cells h.1 _ v a;exact b.plain_cells h.2 _ v a
end
theorem Ty.plain(t:Ty)(h:t.flat=ζ)(x:t.D):Plain (t.enc x):=by have a:=t.plain_cells h x;cases t<;>grind[Plain.agg,Ty.enc,Af.cells]
section
variable {R:Type}
def uw(P:Program)(H:Aw)(t:TypeId)(k:TV->Aw->Ω R):Ω R:=
 match P.underlying t with
 |some (.map kt et)=>
  match P.underlying kt,ABf P 1000 et with
  |some (.int kk),D ty=>k (.c (.raw (.mp (θ H)))) (H++[.mp η kk ty []])
  |_,_=>ε
 |_=>ε
def oC(P:Program)(H:Aw)(t:TypeId)(m kx v:TV)(k:TV->Aw->Option R):Option R:=
 match P.underlying t with
 |some (.map kt _)=>
  match m,kx with
  |.c (.raw (.mp id)),.c (.it kk n)=>
   match P.underlying kt,H[id]? with
   |some (.int k1),δ (.mp η k2 ty es)=>
    if k1=kk/\k2=kk then
     match ty.flat with
     |true=>match ty.data v with|some x=>k Vy (H.set id (.mp η k2 ty (PP n x es)))|none=>ε
     |false=>ε
    else ε
   |_,_=>ε
  |_,_=>ε
 |_=>ε
def xu(P:Program)(H:Aw)(t:TypeId)(g:Bool)(m kx:TV)(k:TV->Aw->Option R):Option R:=
 match P.underlying t with
 |some (.map kt et)=>
  match m,kx with
  |.c (.raw (.mp id)),.c (.it kk n)=>
   match P.underlying kt,H[id]?,ACf P et with
   |some (.int k1),δ (.mp _ k2 ty es),δ z=>
    if k1=kk/\k2=kk then
     match Af.beq z (ty.enc ty.zero)with
     |true=>k (bif g then .tup [ty.tv ((LR n es).getD ty.zero),.c (.bl (LR n es).isSome)]else ty.tv ((LR n es).getD ty.zero)) H
     |false=>ε
    else ε
   |_,_,_=>ε
  |_,_=>ε
 |_=>ε
variable {P:Program}{N:Nat}{o:Oper}{env:Bi}{H:Aw}{k:TV->Aw->Ω R}{r:R}
theorem ux(ok:Ob env H)(t:o.op=.makeMap b ε)(h:uw P H b k=D r):∀F,nM P N o env H F k r:=by intro F;unfold uw at h;split at h;split at h;rename_i a c _ _;have st:CN H (H++[.mp η a c []]):=CN.push H _;refine⟨_,_,Jy.makeMap a t ⟨?_,?_⟩,h,KF trivial,Qa ok.heap trivial,st,Frame.push F H _⟩;show Af.mp (BH H).length=Af.mp (θ H);rw[Cf];rw[R6];rfl;cases h;cases h
def qt{u:Operand}(ok:Ob env H)(E:o.op= .mapUpdate b d T u)(h:oC P H b (Jz env d) (Jz env T) (Jz env u) k=some r):nM P N o env H (List.range H.length) k r:=by
 have t:=MH env;unfold oC at h;split at h;rename_i K I F;split at h;rename_i id J n D C;split at h;rename_i k1 q a m g i;split at h;rename_i f;obtain⟨w,A⟩:=f;subst w A;split at h;rename_i e;split at h;rename_i x G;have st:CN H (H.set id (.mp false q a (PP n x m))):=CN.set i rfl λ_ _ _ _ _ h=>by cases h
 refine⟨Vy,_,Jy.mapUpdate (id:=id) (k:=q) (n:=n) (v:=a.enc x) (es:=m.map λp=>(p.1,a.enc p.2)) E (by rw[t,D];rfl) (by rw[t,C];rfl) (λy c l z=>?_) F g (by rw[EV,i];rfl) ⟨rfl,?_⟩,h,jF,SD st ok.heap trivial,st,λj B hn=>(hn (Ie.2 B)).elim⟩;rw[t]at l;exact a.plain e x y c (KV G y c l) z;rw[Lo,<-zf];rfl;cases h;cases h;cases h;cases h;cases h;cases h
theorem vt(ok:Ob env H)(y:o.op=.lookup b d T S)(h:xu P H b S (Jz env d) (Jz env T) k=δ r):∀F,nM P N o env H F k r:=by
 intro F;have i:=MH env;unfold xu at h;split at h;rename_i G D_ A;split at h;rename_i id E n x w;split at h;rename_i k1 ro C c a z f u B;split at h;rename_i m;obtain⟨l,q⟩:=m;subst l q;split at h;rename_i s;have e:(LR n (a.map λp=>(p.1,c.enc p.2))).getD z=(c.tv ((LR n a).getD c.zero)).enc:=by rw[uz,beq_eq _ _ s,Ty.tv_enc];cases LR n a<;>rfl
 refine⟨_,H,Jy.lookup (id:=id) (k:=C) (n:=n) (z:=z) (g:=S) (es:=a.map λp=>(p.1,c.enc p.2)) y (by rw[i,x];rfl) (by rw[i,w];rfl) A f B (by rw[EV,u];rfl) ⟨?_,rfl⟩,h,?_,ok.heap,CN.refl H,Frame.refl F H⟩;rw[e,uz];cases S<;>cases LR n a<;>rfl;cases S;exact Ty.tv_ok _ _;refine SC λv t=>?_;rcases As.1 t with rfl|t;exact Ty.tv_ok _ _;simp at t;subst t;exact KF trivial;cases h;cases h;cases h;cases h;cases h
end
end Go.Ab
